import PyProof.Rows.All
import Wide.All
import OpenK.AllK
import Wide.FinOn
import HandS.ForMost
import HandS.ForExc
import HandS.Flow
import HandS.IsInst
import HandS.Defaults
import HandS.Wide
import HandS.TupAny
import HandS.Deep
import HandS.Style
import HandS.More
import HandS.SortInts
import HandS.RaiseMore
import HandS.NoneIn
import HandS.SetFor
import HandS.ExcIs
import HandS.ExcOwn
import HandS.TryMany
import HandS.ExcValue
import KE.KUnpackStar
import PyProof.ReprRoads
import PyProof.CallFns
import HandS.Strs
import HandS.HeadHook2
import HandS.HeadEnd
import HandS.Head2
import HandS.Ends
import PyProof.FitsInt
import PyProof.StrLawsRepr
import PySem.Challenge.RW_coinlanes_k31_fees_reckoned
set_option Elab.async false
set_option linter.all false
set_option maxRecDepth 100000
set_option maxHeartbeats 4000000
/-! Mi, part A: own values, own heap, how they stand for the hand layer's. -/
namespace Mi
open PySem PySem.Spec PyProof.Rows L2
/-- a value: tuples and unchanging lists by what they hold, changing things by their place in the own heap -/
inductive U where
  | non | bl (b : Bool) | int (i : Int) | str (x : Str) | tup (us : List U) | fl (us : List U) | cl (us : List U) | fd (ks : List Key) (us : List U) | ref (n : Nat) | glo (x : Str) | ty (n : String) | exn (x : Str)
/-- what stands in the own heap -/
inductive MO where
  | lst (us : List U)
  | dic (lock : Bool) (kvs : List (U × U))
  | ins (c : Str) (fs : List (Str × U))
abbrev MH := List MO
/-- an exception: its class by its name (own), with its fields -/
structure Ex where
  cls : Str
  fs : List (Str × U)
inductive Out (α : Type) where
  | ok (a : α) (m : MH)
  | err (x : Ex) (m : MH)
  | bad
def Out.bind {α β : Type} (o : Out α) (f : α → MH → Out β) : Out β := match o with
  | .ok a m => f a m
  | .err x m => .err x m
  | .bad => .bad
@[simp] theorem Out.bind_ok {α β : Type} (a : α) (m : MH) (f : α → MH → Out β) : (Out.ok a m).bind f = f a m := rfl
@[simp] theorem Out.bind_err {α β : Type} (x : Ex) (m : MH) (f : α → MH → Out β) : (Out.err x m : Out α).bind f = .err x m := rfl
@[simp] theorem Out.bind_bad {α β : Type} (f : α → MH → Out β) : (Out.bad : Out α).bind f = .bad := rfl
abbrev Env1 := List (Option U)
/-- what does not change through a run: the written part, the module's names, the pins of the context -/
structure Cn where
  K : PySem.W.Frag
  mg : Str → Option Value
/-- ghost: where the own heap's things stand; what is being made just now (reserved) -/
structure Gh where
  r : List Addr
  z : List Addr
def KL (K : PySem.W.Frag) (a : Addr) (xs : List V) : Prop :=
  ∃ (o : Obj) (its : Array Value) (n : Nat), K.lookup a = some o ∧ o.cls = .type "list" ∧ o.dict = none ∧ o.data = .seq its n ∧ its.size ≤ sizeLine ∧ Vals xs its.toList
def KT (K : PySem.W.Frag) (a : Addr) (xs : List V) : Prop :=
  ∃ (o : Obj) (its : Array Value) (n : Nat), K.lookup a = some o ∧ o.cls = .type "tuple" ∧ o.data = .seq its n ∧ its.size ≤ sizeLine ∧ Vals xs its.toList
def LstAt (K : PySem.W.Frag) (r : Gh) (H : Hp) (a : Addr) (xs : List V) : Prop := (a ∉ r.r ∧ a ∉ r.z ∧ Rd H a (.lst xs)) ∨ KL K a xs
def TupAt (K : PySem.W.Frag) (r : Gh) (H : Hp) (a : Addr) (xs : List V) : Prop := (a ∉ r.r ∧ a ∉ r.z ∧ Rd H a (.tup xs)) ∨ KT K a xs
theorem LstAt.sq {K : PySem.W.Frag} {r : Gh} {H : Hp} {a : Addr} {xs : List V} (h : LstAt K r H a xs) : SqL K H a xs := h.elim (fun x => .inl x.2.2) .inr
theorem TupAt.sq {K : PySem.W.Frag} {r : Gh} {H : Hp} {a : Addr} {xs : List V} (h : TupAt K r H a xs) : SqT K H a xs := h.elim (fun x => .inl x.2.2) .inr
/-- a caught exception as a thing that is known -/
def ExC (cls : Value) (d : Option Addr) (a : Addr) : HO := .ext fun h => ∃ (oe : Obj) (vs : Array Value), h.get? a = some oe ∧ Zc cls d oe ∧ oe.data = .fields vs
mutual
inductive RU (c : Cn) (r : Gh) (H : Hp) : U → V → Prop
  | non : RU c r H .non .non
  | bl (b : Bool) : RU c r H (.bl b) (.bl b)
  | int (i : Int) : RU c r H (.int i) (.int i)
  | str (x : Str) : RU c r H (.str x) (.str x)
  | tup {us : List U} {a : Addr} {xs : List V} : TupAt c.K r H a xs → RUs c r H us xs → RU c r H (.tup us) (.ref a)
  | fl {us : List U} {a : Addr} {xs : List V} : a ∉ r.r → a ∉ r.z → H a = some (.lst xs) → RUs c r H us xs → RU c r H (.fl us) (.ref a)
  | cl {us : List U} {a : Addr} {xs : List V} : LstAt c.K r H a xs → RUs c r H us xs → RU c r H (.cl us) (.ref a)
  | fd {ks : List Key} {us : List U} {a : Addr} {xs : List V} : a ∉ r.r → a ∉ r.z → H a = some (.dK (ks.zip xs)) → ks.length = us.length → ks.Nodup → RUs c r H us xs → RU c r H (.fd ks us) (.ref a)
  | ref {n : Nat} {a : Addr} : r.r[n]? = some a → RU c r H (.ref n) (.ref a)
  | glo {x : Str} {a : Addr} : c.mg x = some (.ref a) → RU c r H (.glo x) (.ref a)
  | ty (n : String) : RU c r H (.ty n) (.ty n)
  | exn {x : Str} {C a : Addr} : c.mg x = some (.ref C) → a ∉ r.r → a ∉ r.z → H a = some (ExC (.ref C) none a) → RU c r H (.exn x) (.ref a)
inductive RUs (c : Cn) (r : Gh) (H : Hp) : List U → List V → Prop
  | nil : RUs c r H [] []
  | cons {u : U} {us : List U} {x : V} {xs : List V} : RU c r H u x → RUs c r H us xs → RUs c r H (u :: us) (x :: xs)
end
/-- from one moment to a later one: places stay, what is neither of the own heap nor reserved stays -/
structure ExtW (r : Gh) (H : Hp) (r' : Gh) (H' : Hp) : Prop where
  pre : r.r <+: r'.r
  keep : ∀ b o, b ∉ r.r → b ∉ r.z → H b = some o → H' b = some o ∧ b ∉ r'.r ∧ b ∉ r'.z
/-- .. and what is reserved stays, too -/
structure Ext (r : Gh) (H : Hp) (r' : Gh) (H' : Hp) : Prop where
  w : ExtW r H r' H'
  z : r'.z = r.z
  res : ∀ b, b ∈ r.z → H' b = H b
theorem ExtW.refl (r : Gh) (H : Hp) : ExtW r H r H := ⟨List.prefix_refl r.r, fun _ _ h h' e => ⟨e, h, h'⟩⟩
theorem ExtW.trans {r r1 r2 : Gh} {H H1 H2 : Hp} (a : ExtW r H r1 H1) (b : ExtW r1 H1 r2 H2) : ExtW r H r2 H2 :=
  ⟨a.pre.trans b.pre, fun x o h h' e => let ⟨e1, h1, h1'⟩ := a.keep x o h h' e; b.keep x o h1 h1' e1⟩
theorem Ext.refl (r : Gh) (H : Hp) : Ext r H r H := ⟨ExtW.refl r H, rfl, fun _ _ => rfl⟩
theorem Ext.trans {r r1 r2 : Gh} {H H1 H2 : Hp} (a : Ext r H r1 H1) (b : Ext r1 H1 r2 H2) : Ext r H r2 H2 :=
  ⟨a.w.trans b.w, b.z.trans a.z, fun x h => (b.res x (a.z ▸ h)).trans (a.res x h)⟩
theorem pre_get {α : Type} {r r' : List α} (p : r <+: r') {n : Nat} {a : α} (h : r[n]? = some a) : r'[n]? = some a := by
  obtain ⟨t, rfl⟩ := p
  rw [List.getElem?_append_left (List.getElem?_eq_some_iff.mp h).1]
  exact h
theorem LstAt.ext {K : PySem.W.Frag} {r r' : Gh} {H H' : Hp} {a : Addr} {xs : List V} (h : LstAt K r H a xs) (e : ExtW r H r' H') : LstAt K r' H' a xs := by
  rcases h with ⟨n, z, h | ⟨o, h⟩⟩ | h
  · exact .inl ⟨(e.keep _ _ n z h).2.1, (e.keep _ _ n z h).2.2, .inl (e.keep _ _ n z h).1⟩
  · exact .inl ⟨(e.keep _ _ n z h).2.1, (e.keep _ _ n z h).2.2, .inr ⟨o, (e.keep _ _ n z h).1⟩⟩
  · exact .inr h
theorem TupAt.ext {K : PySem.W.Frag} {r r' : Gh} {H H' : Hp} {a : Addr} {xs : List V} (h : TupAt K r H a xs) (e : ExtW r H r' H') : TupAt K r' H' a xs := by
  rcases h with ⟨n, z, h | ⟨o, h⟩⟩ | h
  · exact .inl ⟨(e.keep _ _ n z h).2.1, (e.keep _ _ n z h).2.2, .inl (e.keep _ _ n z h).1⟩
  · exact .inl ⟨(e.keep _ _ n z h).2.1, (e.keep _ _ n z h).2.2, .inr ⟨o, (e.keep _ _ n z h).1⟩⟩
  · exact .inr h
section
variable {c : Cn} {r r' : Gh} {H H' : Hp}
mutual
theorem RU.ext (e : ExtW r H r' H') : ∀ {u : U} {x : V}, RU c r H u x → RU c r' H' u x
  | _, _, .non => .non
  | _, _, .bl b => .bl b
  | _, _, .int i => .int i
  | _, _, .str x => .str x
  | _, _, .tup h hs => .tup (h.ext e) (RUs.ext e hs)
  | _, _, .fl h1 h2 h3 hs => let q := e.keep _ _ h1 h2 h3; .fl q.2.1 q.2.2 q.1 (RUs.ext e hs)
  | _, _, .cl h hs => .cl (h.ext e) (RUs.ext e hs)
  | _, _, .fd h1 h2 h3 h4 h5 hs => let q := e.keep _ _ h1 h2 h3; .fd q.2.1 q.2.2 q.1 h4 h5 (RUs.ext e hs)
  | _, _, .ref h => .ref (pre_get e.pre h)
  | _, _, .glo h => .glo h
  | _, _, .ty n => .ty n
  | _, _, .exn h1 h2 h3 h4 => let q := e.keep _ _ h2 h3 h4; .exn h1 q.2.1 q.2.2 q.1
theorem RUs.ext (e : ExtW r H r' H') : ∀ {us : List U} {xs : List V}, RUs c r H us xs → RUs c r' H' us xs
  | _, _, .nil => .nil
  | _, _, .cons h hs => .cons (RU.ext e h) (RUs.ext e hs)
end
theorem RUs.length : ∀ {us : List U} {xs : List V}, RUs c r H us xs → us.length = xs.length
  | _, _, .nil => rfl
  | _, _, .cons _ hs => congrArg (· + 1) (RUs.length hs)
theorem RUs.get : ∀ {us : List U} {xs : List V} {i : Nat} {u : U}, RUs c r H us xs → us[i]? = some u → ∃ x, xs[i]? = some x ∧ RU c r H u x
  | _, _, 0, _, .cons h _, e => by cases e; exact ⟨_, rfl, h⟩
  | _, _, i + 1, _, .cons _ hs, e => RUs.get (i := i) hs e
theorem RUs.app : ∀ {us : List U} {xs : List V} {us' : List U} {xs' : List V}, RUs c r H us xs → RUs c r H us' xs' → RUs c r H (us ++ us') (xs ++ xs')
  | _, _, _, _, .nil, b => b
  | _, _, _, _, .cons h hs, b => .cons h (RUs.app hs b)
theorem RUs.take : ∀ {us : List U} {xs : List V} (n : Nat), RUs c r H us xs → RUs c r H (us.take n) (xs.take n)
  | _, _, 0, _ => .nil
  | _, _, _ + 1, .nil => .nil
  | _, _, n + 1, .cons h hs => .cons h (RUs.take n hs)
theorem RUs.drop : ∀ {us : List U} {xs : List V} (n : Nat), RUs c r H us xs → RUs c r H (us.drop n) (xs.drop n)
  | _, _, 0, h => h
  | _, _, _ + 1, .nil => .nil
  | _, _, n + 1, .cons _ hs => RUs.drop n hs
theorem RUs.set : ∀ {us : List U} {xs : List V} {u : U} {x : V} (n : Nat), RUs c r H us xs → RU c r H u x → RUs c r H (us.set n u) (xs.set n x)
  | _, _, _, _, _, .nil, _ => .nil
  | _, _, _, _, 0, .cons _ hs, q => .cons q hs
  | _, _, _, _, n + 1, .cons h hs, q => .cons h (RUs.set n hs q)
theorem RUs.erase : ∀ {us : List U} {xs : List V} (n : Nat), RUs c r H us xs → RUs c r H (us.eraseIdx n) (xs.eraseIdx n)
  | _, _, _, .nil => .nil
  | _, _, 0, .cons _ hs => hs
  | _, _, n + 1, .cons h hs => .cons h (RUs.erase n hs)
theorem RUs.rev {us : List U} {xs : List V} (h : RUs c r H us xs) : RUs c r H us.reverse xs.reverse := by
  have a : ∀ {us : List U} {xs : List V}, RUs c r H us xs → RUs c r H us.reverse xs.reverse := by
    intro us
    induction us with
    | nil => intro xs h; cases h; exact .nil
    | cons u us ih => intro xs h; cases h with | cons h1 hs => rw [List.reverse_cons, List.reverse_cons]; exact (ih hs).app (.cons h1 .nil)
  exact a h
theorem RUs.rep {us : List U} {xs : List V} (h : RUs c r H us xs) : ∀ k : Nat, RUs c r H (List.replicate k us).flatten (List.replicate k xs).flatten
  | 0 => .nil
  | k + 1 => by rw [List.replicate_succ, List.replicate_succ, List.flatten_cons, List.flatten_cons]; exact h.app (RUs.rep h k)
theorem RUs.ints : ∀ (ns : List Int), RUs c r H (ns.map U.int) (ns.map V.int)
  | [] => .nil
  | n :: ns => .cons (.int n) (RUs.ints ns)
end
/-! ### the own heap -/
/-- a dict's key, flat -/
def keyU : U → Option Key
  | .int i => some (.inl i)
  | .str x => some (.inr x)
  | _ => none
inductive RKs (c : Cn) (r : Gh) (H : Hp) : List (U × U) → List (Key × V) → Prop
  | nil : RKs c r H [] []
  | cons {k u : U} {q : Key} {x : V} {kvs : List (U × U)} {ps : List (Key × V)} : keyU k = some q → RU c r H u x → RKs c r H kvs ps → RKs c r H ((k, u) :: kvs) ((q, x) :: ps)
inductive RFs (c : Cn) (r : Gh) (H : Hp) : List (Str × U) → List (Str × V) → Prop
  | nil : RFs c r H [] []
  | cons {f : Str} {u : U} {x : V} {fs : List (Str × U)} {ps : List (Str × V)} : RU c r H u x → RFs c r H fs ps → RFs c r H ((f, u) :: fs) ((f, x) :: ps)
inductive RO (c : Cn) (r : Gh) (H : Hp) : MO → HO → Prop
  | lst {us : List U} {xs : List V} : RUs c r H us xs → RO c r H (.lst us) (.lst xs)
  | dic {kvs : List (U × U)} {ps : List (Key × V)} : RKs c r H kvs ps → RO c r H (.dic false kvs) (.dK ps)
  | dicL {kvs : List (U × U)} {ps : List (Key × V)} {o : Obj} : RKs c r H kvs ps → RO c r H (.dic true kvs) (.frz o (.dK ps))
  | ins {x : Str} {C dx : Addr} {fs : List (Str × U)} {ps : List (Str × V)} : c.mg x = some (.ref C) → RFs c r H fs ps → RO c r H (.ins x fs) (.ins C dx ps)
section
variable {c : Cn} {r r' : Gh} {H H' : Hp}
theorem RKs.ext (e : ExtW r H r' H') : ∀ {kvs : List (U × U)} {ps : List (Key × V)}, RKs c r H kvs ps → RKs c r' H' kvs ps
  | _, _, .nil => .nil
  | _, _, .cons k h hs => .cons k (h.ext e) (RKs.ext e hs)
theorem RFs.ext (e : ExtW r H r' H') : ∀ {kvs : List (Str × U)} {ps : List (Str × V)}, RFs c r H kvs ps → RFs c r' H' kvs ps
  | _, _, .nil => .nil
  | _, _, .cons h hs => .cons (h.ext e) (RFs.ext e hs)
theorem RO.ext (e : ExtW r H r' H') {o : MO} {ho : HO} (h : RO c r H o ho) : RO c r' H' o ho := by
  cases h with
  | lst h => exact .lst (h.ext e)
  | dic h => exact .dic (h.ext e)
  | dicL h => exact .dicL (h.ext e)
  | ins h hs => exact .ins h (hs.ext e)
end
structure Corr (c : Cn) (r : Gh) (m : MH) (H : Hp) : Prop where
  len : r.r.length = m.length
  nd : r.r.Nodup
  at_ : ∀ (i : Nat) (o : MO), m[i]? = some o → ∃ a ho, r.r[i]? = some a ∧ H a = some ho ∧ RO c r H o ho
  res : ∀ b ∈ r.z, b ∉ r.r ∧ H b ≠ none
section
variable {c : Cn} {r r' : Gh} {m : MH} {H H' : Hp}
theorem Corr.some (C : Corr c r m H) {a : Addr} (h : a ∈ r.r) : ∃ ho, H a = some ho := by
  obtain ⟨i, hi⟩ := List.getElem?_of_mem h
  have lt : i < m.length := by rw [← C.len]; exact (List.getElem?_eq_some_iff.mp hi).1
  obtain ⟨a', ho, h1, h2, _⟩ := C.at_ i _ (List.getElem?_eq_getElem lt)
  rw [hi] at h1
  cases h1
  exact ⟨ho, h2⟩
theorem Corr.free (C : Corr c r m H) {p : Addr} (h : H p = none) : p ∉ r.r ∧ p ∉ r.z := by
  refine ⟨fun hp => ?_, fun hp => (C.res p hp).2 h⟩
  obtain ⟨ho, e⟩ := C.some hp
  rw [h] at e
  cases e
/-- the same things under a heap that keeps them -/
theorem Corr.move (C : Corr c r m H) (e : ExtW r H r' H') (hr : r'.r = r.r) (hz : ∀ b ∈ r'.z, b ∉ r'.r ∧ H' b ≠ none) (hk : ∀ b ∈ r.r, H' b = H b) : Corr c r' m H' := by
  refine ⟨by rw [hr]; exact C.len, by rw [hr]; exact C.nd, fun i x hx => ?_, hz⟩
  obtain ⟨a, ho, h1, h2, h3⟩ := C.at_ i x hx
  exact ⟨a, ho, by rw [hr]; exact h1, by rw [hk a (List.mem_of_getElem? h1)]; exact h2, h3.ext e⟩
/-- something beside the own heap is laid -/
theorem Corr.beside (C : Corr c r m H) {p : Addr} {o : HO} (h : H p = none) : Corr c r m (upd H p o) ∧ Ext r H r (upd H p o) ∧ p ∉ r.r ∧ p ∉ r.z := by
  obtain ⟨np, nz⟩ := C.free h
  have e : Ext r H r (upd H p o) := ⟨⟨List.prefix_refl r.r, fun b o' hb hz eb => ⟨by rw [upd_ne (ne_of_none eb h)]; exact eb, hb, hz⟩⟩, rfl, fun b hb => upd_ne (show b ≠ p by rintro rfl; exact nz hb)⟩
  refine ⟨C.move e.w rfl (fun b hb => ⟨(C.res b hb).1, by rw [e.res b hb]; exact (C.res b hb).2⟩) (fun b hb => upd_ne (show b ≠ p by rintro rfl; exact np hb)), e, np, nz⟩
/-- a new thing of the own heap -/
theorem Corr.new (C : Corr c r m H) {p : Addr} {ho : HO} {o : MO} (h : H p = none) (q : RO c r H o ho) : Corr c ⟨r.r ++ [p], r.z⟩ (m ++ [o]) (upd H p ho) ∧ Ext r H ⟨r.r ++ [p], r.z⟩ (upd H p ho) ∧ (r.r ++ [p])[m.length]? = Option.some p := by
  obtain ⟨np, nz⟩ := C.free h
  have e : Ext r H ⟨r.r ++ [p], r.z⟩ (upd H p ho) := ⟨⟨List.prefix_append r.r [p], fun b o' hb hz eb => ⟨by rw [upd_ne (ne_of_none eb h)]; exact eb, by
    rw [List.mem_append]; rintro (z | z)
    · exact hb z
    · exact ne_of_none eb h (List.mem_singleton.mp z), hz⟩⟩, rfl, fun b hb => upd_ne (show b ≠ p by rintro rfl; exact nz hb)⟩
  have ln : (r.r ++ [p])[m.length]? = Option.some p := by rw [← C.len, List.getElem?_append_right (Nat.le_refl _), Nat.sub_self]; rfl
  refine ⟨⟨by rw [List.length_append, List.length_append, C.len]; rfl, ?_, fun i x hx => ?_, fun b hb => ⟨?_, by rw [e.res b hb]; exact (C.res b hb).2⟩⟩, e, ln⟩
  · rw [List.nodup_append]
    exact ⟨C.nd, (List.nodup_cons.mpr ⟨List.not_mem_nil, List.nodup_nil⟩), fun a ha b hb => by rw [List.mem_singleton.mp hb]; rintro rfl; exact np ha⟩
  · by_cases hi : i < m.length
    · rw [List.getElem?_append_left hi] at hx
      obtain ⟨a, ho', h1, h2, h3⟩ := C.at_ i x hx
      exact ⟨a, ho', pre_get e.w.pre h1, by rw [upd_ne (ne_of_none h2 h)]; exact h2, h3.ext e.w⟩
    · have : i < (m ++ [o]).length := (List.getElem?_eq_some_iff.mp hx).1
      rw [List.length_append] at this
      have hi' : i = m.length := by simp at this; omega
      subst hi'
      rw [List.getElem?_append_right (Nat.le_refl _), Nat.sub_self] at hx
      cases hx
      exact ⟨p, ho, ln, upd_same, q.ext e.w⟩
  · show b ∉ r.r ++ [p]
    rw [List.mem_append]; rintro (z | z)
    · exact (C.res b hb).1 z
    · exact nz (List.mem_singleton.mp z ▸ hb)
/-- a thing of the own heap is changed -/
theorem Corr.put (C : Corr c r m H) {i : Nat} {a : Addr} {ho : HO} {o : MO} (hi : r.r[i]? = Option.some a) (q : RO c r H o ho) : Corr c r (m.set i o) (upd H a ho) ∧ Ext r H r (upd H a ho) := by
  have ma : a ∈ r.r := List.mem_of_getElem? hi
  have e : Ext r H r (upd H a ho) := ⟨⟨List.prefix_refl r.r, fun b o' hb hz eb => ⟨by rw [upd_ne (show b ≠ a by rintro rfl; exact hb ma)]; exact eb, hb, hz⟩⟩, rfl, fun b hb => upd_ne (show b ≠ a by rintro rfl; exact (C.res b hb).1 ma)⟩
  refine ⟨⟨by rw [List.length_set, C.len], C.nd, fun j x hx => ?_, fun b hb => ⟨(C.res b hb).1, by rw [e.res b hb]; exact (C.res b hb).2⟩⟩, e⟩
  by_cases hj : i = j
  · subst hj
    have lt : i < m.length := by rw [← C.len]; exact (List.getElem?_eq_some_iff.mp hi).1
    rw [List.getElem?_set_self lt] at hx
    cases hx
    exact ⟨a, ho, hi, upd_same, q.ext e.w⟩
  · rw [List.getElem?_set_ne hj] at hx
    obtain ⟨b, hb, h1, h2, h3⟩ := C.at_ j x hx
    have ne : b ≠ a := by
      rintro rfl
      exact hj ((List.getElem?_inj (List.getElem?_eq_some_iff.mp hi).1 C.nd).mp (hi.trans h1.symm))
    exact ⟨b, hb, h1, by rw [upd_ne ne]; exact h2, h3.ext e.w⟩
/-- an address is reserved, what stands there is laid -/
theorem Corr.reserve (C : Corr c r m H) {p : Addr} {o : HO} (h : H p = none) : Corr c ⟨r.r, p :: r.z⟩ m (upd H p o) ∧ ExtW r H ⟨r.r, p :: r.z⟩ (upd H p o) := by
  obtain ⟨np, nz⟩ := C.free h
  have e : ExtW r H ⟨r.r, p :: r.z⟩ (upd H p o) := ⟨List.prefix_refl r.r, fun b o' hb hz eb => ⟨by rw [upd_ne (ne_of_none eb h)]; exact eb, hb, by
    rw [List.mem_cons]; rintro (z | z)
    · exact ne_of_none eb h z
    · exact hz z⟩⟩
  refine ⟨C.move e rfl (fun b hb => ?_) (fun b hb => upd_ne (show b ≠ p by rintro rfl; exact np hb)), e⟩
  rcases List.mem_cons.mp hb with z | z
  · subst z; exact ⟨np, by rw [upd_same]; exact fun z => nomatch z⟩
  · exact ⟨(C.res b z).1, by rw [upd_ne (show b ≠ p by rintro rfl; exact nz z)]; exact (C.res b z).2⟩
/-- what stands at a reserved address is changed -/
theorem Corr.rewrite {p : Addr} {z : List Addr} {o : HO} {R : List Addr} (C : Corr c ⟨R, p :: z⟩ m H) : Corr c ⟨R, p :: z⟩ m (upd H p o) ∧ ExtW ⟨R, p :: z⟩ H ⟨R, p :: z⟩ (upd H p o) := by
  have np : p ∉ R := (C.res p List.mem_cons_self).1
  have e : ExtW ⟨R, p :: z⟩ H ⟨R, p :: z⟩ (upd H p o) := ⟨List.prefix_refl R, fun b o' hb hz eb => ⟨by rw [upd_ne (show b ≠ p by rintro rfl; exact hz List.mem_cons_self)]; exact eb, hb, hz⟩⟩
  refine ⟨C.move e rfl (fun b hb => ⟨(C.res b hb).1, ?_⟩) (fun b hb => upd_ne (show b ≠ p by rintro rfl; exact np hb)), e⟩
  by_cases q : b = p
  · subst q; rw [upd_same]; exact fun z => nomatch z
  · rw [upd_ne q]; exact (C.res b hb).2
/-- it is reserved no longer -/
theorem Corr.release {p : Addr} {z : List Addr} {R : List Addr} (C : Corr c ⟨R, p :: z⟩ m H) : Corr c ⟨R, z⟩ m H ∧ ExtW ⟨R, p :: z⟩ H ⟨R, z⟩ H ∧ p ∉ R := by
  have e : ExtW ⟨R, p :: z⟩ H ⟨R, z⟩ H := ⟨List.prefix_refl R, fun b o' hb hz eb => ⟨eb, hb, fun q => hz (List.mem_cons_of_mem _ q)⟩⟩
  exact ⟨C.move e rfl (fun b hb => C.res b (List.mem_cons_of_mem _ hb)) (fun _ _ => rfl), e, (C.res p List.mem_cons_self).1⟩
end
/-- the frame -/
structure EnvR (c : Cn) (r : Gh) (H : Hp) (t : Env1) (s : L2.St) : Prop where
  len : s.length = t.length
  get : ∀ (i : Nat) (u : U), t[i]? = some (some u) → ∃ x, s[i]? = some (some x) ∧ RU c r H u x
section
variable {c : Cn} {r r' : Gh} {m : MH} {H H' : Hp} {t : Env1} {s : L2.St}
theorem EnvR.ext (e : ExtW r H r' H') (h : EnvR c r H t s) : EnvR c r' H' t s := ⟨h.len, fun i u q => let ⟨x, a, b⟩ := h.get i u q; ⟨x, a, b.ext e⟩⟩
theorem EnvR.set (h : EnvR c r H t s) {u : U} {x : V} (q : RU c r H u x) (i : Nat) : EnvR c r H (t.set i (some u)) (s.set i (some x)) := by
  refine ⟨by rw [List.length_set, List.length_set, h.len], fun j w e => ?_⟩
  by_cases hj : i = j
  · subst hj
    have lt : i < t.length := by
      have := (List.getElem?_eq_some_iff.mp e).1
      rwa [List.length_set] at this
    rw [List.getElem?_set_self lt] at e
    cases e
    exact ⟨x, by rw [List.getElem?_set_self (by rw [h.len]; exact lt)], q⟩
  · rw [List.getElem?_set_ne hj] at e
    obtain ⟨y, a, b⟩ := h.get j w e
    exact ⟨y, by rw [List.getElem?_set_ne hj]; exact a, b⟩
theorem EnvR.unset (h : EnvR c r H t s) (i : Nat) : EnvR c r H (t.set i none) (s.set i none) := by
  refine ⟨by rw [List.length_set, List.length_set, h.len], fun j w e => ?_⟩
  by_cases hj : i = j
  · subst hj
    have lt : i < t.length := by
      have := (List.getElem?_eq_some_iff.mp e).1
      rwa [List.length_set] at this
    rw [List.getElem?_set_self lt] at e
    cases e
  · rw [List.getElem?_set_ne hj] at e
    obtain ⟨y, a, b⟩ := h.get j w e
    exact ⟨y, by rw [List.getElem?_set_ne hj]; exact a, b⟩
end
end Mi
set_option Elab.async false
set_option linter.all false
set_option maxRecDepth 100000
set_option maxHeartbeats 4000000
/-! Mi, part B: judgements by functions of the own values, and how they join. -/
namespace Mi
open PySem PySem.Spec PyProof.Rows L2
/-- an exception as the hand layer has it -/
def XR (c : Cn) (r : Gh) (H : Hp) (x : Ex) (cls : Value) (d : Option Addr) : Prop :=
  ∃ C, c.mg x.cls = some (.ref C) ∧ cls = .ref C ∧ ((x.fs = [] ∧ d = none) ∨ ∃ a ps, x.fs ≠ [] ∧ d = some a ∧ H a = some (.xd ps) ∧ a ∉ r.r ∧ a ∉ r.z ∧ RFs c r H x.fs ps)
theorem XR.ext {c : Cn} {r r' : Gh} {H H' : Hp} {x : Ex} {cls : Value} {d : Option Addr} (h : XR c r H x cls d) (e : ExtW r H r' H') : XR c r' H' x cls d := by
  obtain ⟨C, h1, h2, h3⟩ := h
  refine ⟨C, h1, h2, h3.elim .inl fun ⟨a, ps, e0, e1, e2, e3, e4, e5⟩ => .inr ⟨a, ps, e0, e1, (e.keep _ _ e3 e4 e2).1, (e.keep _ _ e3 e4 e2).2.1, (e.keep _ _ e3 e4 e2).2.2, e5.ext e⟩⟩
abbrev Rel (α β : Type) := Cn → Gh → Hp → α → β → Prop
/-- what an outcome asks of what is wanted -/
def kE {α β : Type} (c : Cn) (R : Rel α β) (W : WX) (r : Gh) (H : Hp) (s : L2.St) (Q : β → Hp → Prop) : Out α → Prop
  | .ok u m' => ∀ r' H' v, Ext r H r' H' → Corr c r' m' H' → R c r' H' u v → Q v H'
  | .err x m' => ∀ r' H' cls d, Ext r H r' H' → Corr c r' m' H' → XR c r' H' x cls d → W cls d s H'
  | .bad => False
abbrev Fn1 (α : Type) := Env1 → MH → Out α
abbrev E1 := Fn1 U
def tG {α β : Type} (c : Cn) (R : Rel α β) (W : WX) (f : Fn1 α) : L2.St → Hp → (β → Hp → Prop) → Prop :=
  fun s H Q => ∃ r m t, Corr c r m H ∧ EnvR c r H t s ∧ kE c R W r H s Q (f t m)
def Bl : Rel Bool Bool := fun _ _ _ a b => a = b
abbrev tE (c : Cn) (W : WX) (f : E1) : TE := tG c RU W f
abbrev tAr (c : Cn) (W : WX) (f : Fn1 (List U)) : TA := tG c RUs W f
abbrev tTs (c : Cn) (W : WX) (f : Fn1 Bool) : TT := tG c Bl W f
section
variable {α β γ δ : Type} {c : Cn} {R : Rel α β} {R' : Rel γ δ} {W : WX} {r r1 : Gh} {H H1 : Hp} {s : L2.St}
theorem kE.from {Q : β → Hp → Prop} {o : Out α} (h : kE c R W r H s Q o) (e : Ext r H r1 H1) : kE c R W r1 H1 s Q o := by
  cases o with
  | ok u m => exact fun r' H' v e1 C R1 => h r' H' v (e.trans e1) C R1
  | err x m => exact fun r' H' cls d e1 C R1 => h r' H' cls d (e.trans e1) C R1
  | bad => exact h
theorem kE.imp {Q Q' : β → Hp → Prop} {o : Out α} (h : kE c R W r H s Q o) (k : ∀ v H', Q v H' → Q' v H') : kE c R W r H s Q' o := by
  cases o with
  | ok u m => exact fun r' H' v e1 C R1 => k _ _ (h r' H' v e1 C R1)
  | err x m => exact h
  | bad => exact h
/-- what stands behind a first part -/
def Mid (c : Cn) (R : Rel α β) (r : Gh) (H : Hp) (K : Gh → MH → α → β → Hp → Prop) : β → Hp → Prop :=
  fun x H1 => ∃ r1 m1 u, Ext r H r1 H1 ∧ Corr c r1 m1 H1 ∧ R c r1 H1 u x ∧ K r1 m1 u x H1
theorem kE.bind {Q : δ → Hp → Prop} {o : Out α} {g : α → MH → Out γ} (h : kE c R' W r H s Q (o.bind g)) :
    kE c R W r H s (Mid c R r H fun r1 m1 u x H1 => kE c R' W r1 H1 s Q (g u m1)) o := by
  cases o with
  | ok u m => exact fun r' H' v e1 C R1 => ⟨r', m, u, e1, C, R1, kE.from h e1⟩
  | err x m => exact h
  | bad => exact h
theorem kE.ok {Q : β → Hp → Prop} {u : α} {m : MH} (h : kE c R W r H s Q (.ok u m)) (C : Corr c r m H) {v : β} (q : R c r H u v) : Q v H := h r H v (Ext.refl r H) C q
end
/-! ### values alone: an operation that makes no exception -/
def ofO {α : Type} : Option (α × MH) → Out α
  | some (a, m) => .ok a m
  | none => .bad
def kO {α β : Type} (c : Cn) (R : Rel α β) (r : Gh) (H : Hp) (Q : β → Hp → Prop) : Option (α × MH) → Prop
  | some (u, m') => ∀ r' H' v, Ext r H r' H' → Corr c r' m' H' → R c r' H' u v → Q v H'
  | none => False
section
variable {α β : Type} {c : Cn} {R : Rel α β} {W : WX} {r : Gh} {H : Hp} {s : L2.St}
theorem kE_ofO {Q : β → Hp → Prop} {o : Option (α × MH)} (h : kE c R W r H s Q (ofO o)) : kO c R r H Q o := by
  cases o with
  | none => exact h
  | some p => exact h
end
abbrev B2 := U → U → MH → Option (U × MH)
abbrev B1 := U → MH → Option (U × MH)
/-- the reading of an operation on two values -/
def rB (c : Cn) (g : B2) : R2 := fun x y H Q => ∃ r m u w, Corr c r m H ∧ RU c r H u x ∧ RU c r H w y ∧ kO c RU r H Q (g u w m)
def rB1 (c : Cn) (g : B1) : V → Hp → VK → Prop := fun x H Q => ∃ r m u, Corr c r m H ∧ RU c r H u x ∧ kO c RU r H Q (g u m)
section
variable {X : Cx}
theorem _root_.L2.PE.weak {X : Cx} {e : Expr} {t t' : TE} (h : PE X e t) (k : ∀ s H Q, t' s H Q → t s H Q) : PE X e t' := ⟨fun pins s σ H Q I q => h.run pins s σ H Q I (k σ H Q q)⟩
theorem _root_.L2.PT.weak {X : Cx} {e : Expr} {t t' : TT} (h : PT X e t) (k : ∀ s H Q, t' s H Q → t s H Q) : PT X e t' := ⟨fun pins s σ H Q I q => h.run pins s σ H Q I (k σ H Q q)⟩
theorem _root_.L2.PW.weak {X : Cx} {e : Expr} {t t' : TT} (h : PW X e t) (k : ∀ s H Q, t' s H Q → t s H Q) : PW X e t' := ⟨fun w pins s σ H Q I q => h.run w pins s σ H Q I (k σ H Q q)⟩
theorem _root_.L2.PA.weak {X : Cx} {e : List Expr} {t t' : TA} (h : PA X e t) (k : ∀ s H Q, t' s H Q → t s H Q) : PA X e t' := ⟨fun pos pins s σ H Q I q => h.run pos pins s σ H Q I (k σ H Q q)⟩
theorem _root_.L2.PS.weak {X : Cx} {e : Stmt} {t t' : TS} (h : PS X e t) (k : ∀ D s H, t' D s H → t D s H) : PS X e t' := ⟨fun pins s σ H D I q => h.run pins s σ H D I (k D σ H q)⟩
theorem _root_.L2.PSs.weak {X : Cx} {e : List Stmt} {t t' : TS} (h : PSs X e t) (k : ∀ D s H, t' D s H → t D s H) : PSs X e t' := ⟨fun pins s σ H D I q => h.run pins s σ H D I (k D σ H q)⟩
theorem _root_.L2.PE.bad {X : Cx} {e : Expr} {t : TE} (k : ∀ s H Q, ¬ t s H Q) : PE X e t := ⟨fun pins s σ H Q I q => absurd q (k σ H Q)⟩
theorem _root_.L2.PT.bad {X : Cx} {e : Expr} {t : TT} (k : ∀ s H Q, ¬ t s H Q) : PT X e t := ⟨fun pins s σ H Q I q => absurd q (k σ H Q)⟩
theorem _root_.L2.PA.bad {X : Cx} {e : List Expr} {t : TA} (k : ∀ s H Q, ¬ t s H Q) : PA X e t := ⟨fun pos pins s σ H Q I q => absurd q (k σ H Q)⟩
theorem _root_.L2.PS.bad {X : Cx} {e : Stmt} {t : TS} (k : ∀ D s H, ¬ t D s H) : PS X e t := ⟨fun pins s σ H D I q => absurd q (k D σ H)⟩
end
/-! ### combinators -/
def cBad {α : Type} : Fn1 α := fun _ _ => .bad
def cK (u : U) : E1 := fun _ m => .ok u m
def cVar (i : Nat) : E1 := fun t m => match t[i]? with
  | some (some u) => .ok u m
  | _ => .bad
def cBin (g : B2) (a b : E1) : E1 := fun t m => (a t m).bind fun u m1 => (b t m1).bind fun w m2 => ofO (g u w m2)
def cUn (g : B1) (a : E1) : E1 := fun t m => (a t m).bind fun u m1 => ofO (g u m1)
/-- a value as a test -/
def blOf : U → MH → Option (Bool × MH)
  | .bl b, m => some (b, m)
  | _, _ => none
def cIsBl (a : E1) : Fn1 Bool := fun t m => (a t m).bind fun u m1 => ofO (blOf u m1)
def cNot (a : Fn1 Bool) : Fn1 Bool := fun t m => (a t m).bind fun b m1 => .ok (!b) m1
def cAnd (a b : Fn1 Bool) : Fn1 Bool := fun t m => (a t m).bind fun x m1 => match x with
  | true => b t m1
  | false => .ok false m1
def cOr (a b : Fn1 Bool) : Fn1 Bool := fun t m => (a t m).bind fun x m1 => match x with
  | true => .ok true m1
  | false => b t m1
def cIf {α : Type} (q : Fn1 Bool) (a b : Fn1 α) : Fn1 α := fun t m => (q t m).bind fun x m1 => match x with
  | true => a t m1
  | false => b t m1
def cNil : Fn1 (List U) := fun _ m => .ok [] m
def cCons (a : E1) (b : Fn1 (List U)) : Fn1 (List U) := fun t m => (a t m).bind fun u m1 => (b t m1).bind fun us m2 => .ok (u :: us) m2
/-- a function of the arguments' values, without exceptions -/
def cFn (g : List U → MH → Option (U × MH)) (a : Fn1 (List U)) : E1 := fun t m => (a t m).bind fun us m1 => ofO (g us m1)
/-- a op1 b op2 d -/
def cChain (g g' : B2) (a b d : E1) : E1 := fun t m => (a t m).bind fun u m1 => (b t m1).bind fun w m2 => (ofO (g u w m2)).bind fun z m3 => (ofO (blOf z m3)).bind fun k m4 => match k with
  | true => (d t m4).bind fun y m5 => ofO (g' w y m5)
  | false => .ok (.bl false) m4
section
variable {X : Cx} {c : Cn} {W : WX} {a b d : Expr} {fa fb fd : E1} {pos : Pos}
theorem no_bad {α β : Type} {R : Rel α β} : ∀ s H Q, ¬ tG c R W cBad s H Q := fun _ _ _ ⟨_, _, _, _, _, h⟩ => h
theorem mi_var {i : Nat} {x : Str} (hN : X.N[i]? = some x) (hv : Vis X.env.scope x) (hd : (x == ("__debug__" : Str)) = false) (hcd : (x == ("__classdict__" : Str)) = false) : PE X (.Name x pos) (tE c W (cVar i)) := by
  refine (pe_var hN hv hd hcd).weak fun s H Q ⟨r, m, t, C, E, h⟩ => ?_
  unfold cVar at h
  cases e : t[i]? with
  | none => rw [e] at h; exact h.elim
  | some o =>
    cases o with
    | none => rw [e] at h; exact h.elim
    | some u =>
      rw [e] at h
      obtain ⟨v, ev, ru⟩ := E.get i u e
      exact ⟨v, ev, kE.ok h C ru⟩
/-- a value that is there always -/
theorem mi_const {e : Expr} {u : U} {v : V} (h : PE X e (tC v)) (hr : ∀ r H, RU c r H u v) : PE X e (tE c W (cK u)) :=
  h.weak fun s H Q ⟨r, m, t, C, E, k⟩ => kE.ok k C (hr r H)
theorem mi_bin {op : Operator} {g : B2} (ho : OpR X (binaryOp op) (rB c g)) (ha : PE X a (tE c W fa)) (hb : PE X b (tE c W fb)) : PE X (.BinOp a op b pos) (tE c W (cBin g fa fb)) := by
  refine (pe_op ho ha hb).weak fun s H Q ⟨r, m, t, C, E, k⟩ => ⟨r, m, t, C, E, (kE.bind k).imp ?_⟩
  rintro x H1 ⟨r1, m1, u, e1, C1, ru, k1⟩
  refine ⟨r1, m1, t, C1, E.ext e1.w, (kE.bind k1).imp ?_⟩
  rintro y H2 ⟨r2, m2, w, e2, C2, rw2, k2⟩
  exact ⟨r2, m2, u, w, C2, ru.ext e2.w, rw2, kE_ofO k2⟩
theorem mi_cmp {op : CmpOp} {g : B2} (ho : OpR X (compareOp op) (rB c g)) (ha : PE X a (tE c W fa)) (hb : PE X b (tE c W fb)) (hm : behindInMarks op b = false) : PE X (.Compare a [op] [b] pos) (tE c W (cBin g fa fb)) := by
  refine (pe_cmpR ho ha hb hm).weak fun s H Q ⟨r, m, t, C, E, k⟩ => ⟨r, m, t, C, E, (kE.bind k).imp ?_⟩
  rintro x H1 ⟨r1, m1, u, e1, C1, ru, k1⟩
  refine ⟨r1, m1, t, C1, E.ext e1.w, (kE.bind k1).imp ?_⟩
  rintro y H2 ⟨r2, m2, w, e2, C2, rw2, k2⟩
  exact ⟨r2, m2, u, w, C2, ru.ext e2.w, rw2, kE_ofO k2⟩
theorem mi_un {op : UnaryOp} {g : B1} (ho : UnR X (unaryOp op) (rB1 c g)) (ha : PE X a (tE c W fa)) : PE X (.UnaryOp op a pos) (tE c W (cUn g fa)) := by
  refine (pe_un ho ha).weak fun s H Q ⟨r, m, t, C, E, k⟩ => ⟨r, m, t, C, E, (kE.bind k).imp ?_⟩
  rintro x H1 ⟨r1, m1, u, e1, C1, ru, k1⟩
  exact ⟨r1, m1, u, C1, ru, kE_ofO k1⟩
/-- from a value to a test -/
theorem kbl {r : Gh} {H : Hp} {s : L2.St} {Q : Bool → Hp → Prop} {u : U} {m : MH} {v : V} (C : Corr c r m H) (ru : RU c r H u v) (k : kE c Bl W r H s Q (ofO (blOf u m))) : ∃ b, v = .bl b ∧ Q b H := by
  cases u with
  | bl b => cases ru; exact ⟨b, rfl, kE.ok k C rfl⟩
  | _ => exact k.elim
theorem mi_cmpT {op : CmpOp} {g : B2} (ho : OpR X (compareOp op) (rB c g)) (ha : PE X a (tE c W fa)) (hb : PE X b (tE c W fb)) (hm : behindInMarks op b = false) : PT X (.Compare a [op] [b] pos) (tTs c W (cIsBl (cBin g fa fb))) := by
  refine (pt_cmpR ho ha hb hm).weak fun s H Q ⟨r, m, t, C, E, k⟩ => ?_
  refine ⟨r, m, t, C, E, ?_⟩
  have k' : kE c Bl W r H s Q ((fa t m).bind fun u m1 => (fb t m1).bind fun w m2 => (ofO (g u w m2)).bind fun u m1 => ofO (blOf u m1)) := by
    unfold cIsBl cBin at k
    revert k
    cases fa t m with
    | ok u m1 => simp only [Out.bind_ok]; cases fb t m1 with
      | ok w m2 => simp only [Out.bind_ok]; exact id
      | err x m => simp only [Out.bind_err]; exact id
      | bad => simp only [Out.bind_bad]; exact id
    | err x m => simp only [Out.bind_err]; exact id
    | bad => simp only [Out.bind_bad]; exact id
  refine (kE.bind k').imp ?_
  rintro x H1 ⟨r1, m1, u, e1, C1, ru, k1⟩
  refine ⟨r1, m1, t, C1, E.ext e1.w, (kE.bind k1).imp ?_⟩
  rintro y H2 ⟨r2, m2, w, e2, C2, rw2, k2⟩
  refine ⟨r2, m2, u, w, C2, ru.ext e2.w, rw2, ?_⟩
  cases e : g u w m2 with
  | none => rw [e] at k2; exact k2
  | some p =>
    rw [e] at k2
    intro r3 H3 v e3 C3 rv
    exact kbl C3 rv (kE.from k2 e3)
theorem mi_chain {op op' : CmpOp} {g g' : B2} (ho : OpR X (compareOp op) (rB c g)) (ho' : OpR X (compareOp op') (rB c g')) (ha : PE X a (tE c W fa)) (hb : PE X b (tE c W fb)) (hd : PE X d (tE c W fd)) (hm : lastMarks [op, op'] [b, d] = false) :
    PE X (.Compare a [op, op'] [b, d] pos) (tE c W (cChain g g' fa fb fd)) := by
  refine (pe_chain ho ho' ha hb hd hm).weak fun s H Q ⟨r, m, t, C, E, k⟩ => ⟨r, m, t, C, E, (kE.bind k).imp ?_⟩
  rintro x H1 ⟨r1, m1, u, e1, C1, ru, k1⟩
  refine ⟨r1, m1, t, C1, E.ext e1.w, (kE.bind k1).imp ?_⟩
  rintro y H2 ⟨r2, m2, w, e2, C2, rw2, k2⟩
  refine ⟨r2, m2, u, w, C2, ru.ext e2.w, rw2, ?_⟩
  cases e : g u w m2 with
  | none => rw [e] at k2; exact k2
  | some p =>
    obtain ⟨z, m3⟩ := p
    rw [e] at k2
    intro r3 H3 v e3 C3 rv
    have k3 := kE.from k2 e3
    cases z with
    | bl b =>
      cases rv
      refine ⟨b, rfl, ?_⟩
      cases b with
      | true =>
        refine iteT ⟨r3, m3, t, C3, ((E.ext e1.w).ext e2.w).ext e3.w, (kE.bind (show kE c RU W r3 H3 s Q ((fd t m3).bind fun y m5 => ofO (g' w y m5)) from k3)).imp ?_⟩
        rintro x4 H4 ⟨r4, m4, u4, e4, C4, ru4, k4⟩
        exact ⟨r4, m4, w, u4, C4, (rw2.ext e3.w).ext e4.w, ru4, kE_ofO k4⟩
      | false => exact iteF (kE.ok (show kE c RU W r3 H3 s Q (.ok (.bl false) m3) from k3) C3 (.bl false))
    | _ => exact k3.elim
end
/-! ### tests -/
section
variable {X : Cx} {c : Cn} {W : WX} {a b : Expr} {qa qb : Fn1 Bool} {fa fb : E1} {rest : List Expr} {pos : Pos}
theorem mi_not (ha : PT X a (tTs c W qa)) : PT X (.UnaryOp .Not a pos) (tTs c W (cNot qa)) := by
  refine (pt_not ha).weak fun s H Q ⟨r, m, t, C, E, k⟩ => ⟨r, m, t, C, E, (kE.bind k).imp ?_⟩
  rintro x H1 ⟨r1, m1, u, e1, C1, rfl, k1⟩
  exact kE.ok k1 C1 rfl
theorem mi_and (ha : PT X a (tTs c W qa)) (hb : PW X (.BoolOp .And (b :: rest) pos) (tTs c W qb)) : PW X (.BoolOp .And (a :: b :: rest) pos) (tTs c W (cAnd qa qb)) := by
  refine (pw_and ha hb).weak fun s H Q ⟨r, m, t, C, E, k⟩ => ⟨r, m, t, C, E, (kE.bind k).imp ?_⟩
  rintro x H1 ⟨r1, m1, u, e1, C1, rfl, k1⟩
  cases u with
  | true => exact iteT ⟨r1, m1, t, C1, E.ext e1.w, k1⟩
  | false => exact iteF (kE.ok k1 C1 rfl)
theorem mi_or (ha : PT X a (tTs c W qa)) (hb : PW X (.BoolOp .Or (b :: rest) pos) (tTs c W qb)) : PW X (.BoolOp .Or (a :: b :: rest) pos) (tTs c W (cOr qa qb)) := by
  refine (pw_or ha hb).weak fun s H Q ⟨r, m, t, C, E, k⟩ => ⟨r, m, t, C, E, (kE.bind k).imp ?_⟩
  rintro x H1 ⟨r1, m1, u, e1, C1, rfl, k1⟩
  cases u with
  | true => exact iteT (kE.ok k1 C1 rfl)
  | false => exact iteF ⟨r1, m1, t, C1, E.ext e1.w, k1⟩
theorem mi_if {q : Expr} {qq : Fn1 Bool} (hq : PT X q (tTs c W qq)) (ha : PE X a (tE c W fa)) (hb : PE X b (tE c W fb)) : PE X (.IfExp q a b pos) (tE c W (cIf qq fa fb)) := by
  refine (pe_ifExp hq ha hb).weak fun s H Q ⟨r, m, t, C, E, k⟩ => ⟨r, m, t, C, E, (kE.bind k).imp ?_⟩
  rintro x H1 ⟨r1, m1, u, e1, C1, rfl, k1⟩
  cases u with
  | true => exact iteT ⟨r1, m1, t, C1, E.ext e1.w, k1⟩
  | false => exact iteF ⟨r1, m1, t, C1, E.ext e1.w, k1⟩
end
/-! ### arguments, displays -/
def noStar : Expr → Bool
  | .Starred _ _ => false
  | _ => true
theorem star_cons {e : Expr} {es : List Expr} {env : Env} (h : noStar e = true) : starEach (e :: es) env = (false, eval e env) :: starEach es env := by
  cases e <;> first | rfl | (exact nomatch (show false = true from h))
theorem star_plain {pos : Pos} {env : Env} : ∀ {es : List Expr}, es.all noStar = true → (backTo pos (starEach es env)).any (·.1) = false
  | [], _ => rfl
  | e :: es, h => by
    have h1 : noStar e = true ∧ es.all noStar = true := by
      rw [List.all_cons, Bool.and_eq_true] at h; exact h
    rw [star_cons h1.1]
    exact (Bool.false_or _).trans (star_plain (es := es) h1.2)
section
variable {X : Cx} {c : Cn} {W : WX} {e : Expr} {es : List Expr} {fe : E1} {fs : Fn1 (List U)} {pos : Pos}
theorem mi_nil : PA X [] (tAr c W cNil) := pa_nil.weak fun s H Q ⟨r, m, t, C, E, k⟩ => kE.ok k C .nil
theorem mi_cons (h : noStar e = true) (ha : PE X e (tE c W fe)) (hr : PA X es (tAr c W fs)) : PA X (e :: es) (tAr c W (cCons fe fs)) := by
  refine (pa_cons ha hr (star_cons h)).weak fun s H Q ⟨r, m, t, C, E, k⟩ => ⟨r, m, t, C, E, (kE.bind k).imp ?_⟩
  rintro x H1 ⟨r1, m1, u, e1, C1, ru, k1⟩
  refine ⟨r1, m1, t, C1, E.ext e1.w, (kE.bind k1).imp ?_⟩
  rintro y H2 ⟨r2, m2, w, e2, C2, rw2, k2⟩
  exact kE.ok k2 C2 (.cons (ru.ext e2.w) rw2)
def lineOk (n : Nat) : Bool := decide (n ≤ 16777216)
theorem lineOk_of {n : Nat} (h : lineOk n = true) : n ≤ sizeLine := of_decide_eq_true h
/-- a new tuple -/
def mkTup (us : List U) (m : MH) : Option (U × MH) := if lineOk us.length = true then some (.tup us, m) else none
/-- a new list, unchanging -/
def mkFl (us : List U) (m : MH) : Option (U × MH) := if lineOk us.length = true then some (.fl us, m) else none
/-- a new list of the own heap -/
def mkLst (us : List U) (m : MH) : Option (U × MH) := if lineOk us.length = true then some (.ref m.length, m ++ [.lst us]) else none
theorem ko_tup {r : Gh} {H : Hp} {m : MH} {Q : VK} {us : List U} {xs : List V} (C : Corr c r m H) (rs : RUs c r H us xs) (k : kO c RU r H Q (mkTup us m)) : xs.length ≤ sizeLine ∧ ∀ p, H p = none → Q (.ref p) (upd H p (.tup xs)) := by
  unfold mkTup at k
  by_cases h : lineOk us.length = true
  · rw [if_pos h] at k
    refine ⟨rs.length ▸ lineOk_of h, fun p hp => ?_⟩
    obtain ⟨C1, e1, n1, n2⟩ := C.beside (o := .tup xs) hp
    exact k _ _ _ e1 C1 (.tup (.inl ⟨n1, n2, Rd.of upd_same⟩) (rs.ext e1.w))
  · rw [if_neg h] at k; exact k.elim
theorem ko_fl {r : Gh} {H : Hp} {m : MH} {Q : VK} {us : List U} {xs : List V} (C : Corr c r m H) (rs : RUs c r H us xs) (k : kO c RU r H Q (mkFl us m)) : xs.length ≤ sizeLine ∧ ∀ p, H p = none → Q (.ref p) (upd H p (.lst xs)) := by
  unfold mkFl at k
  by_cases h : lineOk us.length = true
  · rw [if_pos h] at k
    refine ⟨rs.length ▸ lineOk_of h, fun p hp => ?_⟩
    obtain ⟨C1, e1, n1, n2⟩ := C.beside (o := .lst xs) hp
    exact k _ _ _ e1 C1 (.fl n1 n2 upd_same (rs.ext e1.w))
  · rw [if_neg h] at k; exact k.elim
theorem ko_lst {r : Gh} {H : Hp} {m : MH} {Q : VK} {us : List U} {xs : List V} (C : Corr c r m H) (rs : RUs c r H us xs) (k : kO c RU r H Q (mkLst us m)) : xs.length ≤ sizeLine ∧ ∀ p, H p = none → Q (.ref p) (upd H p (.lst xs)) := by
  unfold mkLst at k
  by_cases h : lineOk us.length = true
  · rw [if_pos h] at k
    refine ⟨rs.length ▸ lineOk_of h, fun p hp => ?_⟩
    obtain ⟨C1, e1, l1⟩ := C.new (o := .lst us) (ho := .lst xs) hp (.lst rs)
    exact k _ _ _ e1 C1 (.ref l1)
  · rw [if_neg h] at k; exact k.elim
theorem mi_tup {x1 : Nat} (h : PA X es (tAr c W fs)) : PE X (.Tuple es x1 pos) (tE c W (cFn mkTup fs)) := by
  refine (pe_tup h).weak fun s H Q ⟨r, m, t, C, E, k⟩ => ⟨r, m, t, C, E, (kE.bind k).imp ?_⟩
  rintro x H1 ⟨r1, m1, u, e1, C1, ru, k1⟩
  exact ko_tup C1 ru (kE_ofO k1)
theorem mi_fl (h : PA X es (tAr c W fs)) : PE X (.List es pos) (tE c W (cFn mkFl fs)) := by
  refine (pe_lst h).weak fun s H Q ⟨r, m, t, C, E, k⟩ => ⟨r, m, t, C, E, (kE.bind k).imp ?_⟩
  rintro x H1 ⟨r1, m1, u, e1, C1, ru, k1⟩
  exact ko_fl C1 ru (kE_ofO k1)
theorem mi_lst (h : PA X es (tAr c W fs)) : PE X (.List es pos) (tE c W (cFn mkLst fs)) := by
  refine (pe_lst h).weak fun s H Q ⟨r, m, t, C, E, k⟩ => ⟨r, m, t, C, E, (kE.bind k).imp ?_⟩
  rintro x H1 ⟨r1, m1, u, e1, C1, ru, k1⟩
  exact ko_lst C1 ru (kE_ofO k1)
end
end Mi
set_option Elab.async false
set_option linter.all false
set_option maxRecDepth 100000
set_option maxHeartbeats 4000000
/-! Mi, part C: what operations on own values give, and that the model gives just that. -/
namespace Mi
open PySem PySem.Spec PyProof.Rows L2
abbrev cn (X : Cx) : Cn := ⟨X.K, X.mg⟩
/-- the items of a list -/
def seqL : U → MH → Option (List U)
  | .fl us, _ => some us
  | .cl us, _ => some us
  | .ref n, m => (match m[n]? with
    | some (.lst us) => some us
    | _ => none)
  | _, _ => none
section
variable {c : Cn} {r : Gh} {H : Hp} {m : MH}
theorem seqL_ok (C : Corr c r m H) {u : U} {v : V} {us : List U} (ru : RU c r H u v) (e : seqL u m = some us) : ∃ a xs, v = .ref a ∧ SqL c.K H a xs ∧ RUs c r H us xs := by
  cases u with
  | fl us' => cases e; cases ru with | fl h1 h2 h3 hs => exact ⟨_, _, rfl, SqL.of h3, hs⟩
  | cl us' => cases e; cases ru with | cl h1 hs => exact ⟨_, _, rfl, h1.sq, hs⟩
  | ref n =>
    cases ru with
    | ref h =>
      simp only [seqL] at e
      cases q : m[n]? with
      | none => rw [q] at e; cases e
      | some o =>
        obtain ⟨a', ho, h1, h2, h3⟩ := C.at_ n o q
        rw [h] at h1
        cases h1
        rw [q] at e
        cases o with
        | lst us' => cases e; cases h3 with | lst hs => exact ⟨_, _, rfl, SqL.of h2, hs⟩
        | _ => cases e
  | _ => cases e
/-- a list that is neither a constant nor the script -/
def seqW : U → MH → Option (List U)
  | .fl us, _ => some us
  | .ref n, m => (match m[n]? with
    | some (.lst us) => some us
    | _ => none)
  | _, _ => none
theorem seqW_ok (C : Corr c r m H) {u : U} {v : V} {us : List U} (ru : RU c r H u v) (e : seqW u m = some us) : ∃ a xs, v = .ref a ∧ H a = some (.lst xs) ∧ RUs c r H us xs := by
  cases u with
  | fl us' => cases e; cases ru with | fl h1 h2 h3 hs => exact ⟨_, _, rfl, h3, hs⟩
  | ref n =>
    cases ru with
    | ref h =>
      simp only [seqW] at e
      cases q : m[n]? with
      | none => rw [q] at e; cases e
      | some o =>
        obtain ⟨a', ho, h1, h2, h3⟩ := C.at_ n o q
        rw [h] at h1
        cases h1
        rw [q] at e
        cases o with
        | lst us' => cases e; cases h3 with | lst hs => exact ⟨_, _, rfl, h2, hs⟩
        | _ => cases e
  | _ => cases e
theorem kO.get {Q : VK} {u : U} {v : V} (k : kO c RU r H Q (some (u, m))) (C : Corr c r m H) (ru : RU c r H u v) : Q v H := k r H v (Ext.refl r H) C ru
end
/-! ### + - * // % ** -/
def mulOk (i j : Int) : Bool := decide (i.natAbs < 2 ^ 64) || decide (j.natAbs < 2 ^ 64) || (decide (i.natAbs < 2 ^ 100000) && decide (j.natAbs < 2 ^ 100000))
def powOk (i j : Int) : Bool := decide (0 ≤ j) && decide (j ≤ 100) && decide (i.natAbs < 2 ^ 1000)
def divOk (j : Int) : Bool := decide (0 < j) && decide (j.natAbs < 2 ^ 1000)
/-- a text n times -/
def repS (z : Str) (n : Int) : Str := if n < 1 then Str.empty else if (n == 1 || z.length == 0) = true then z else ⟨(List.replicate n.toNat z.cps).foldl (· ++ ·) #[]⟩
/-- a truth as a number -/
def bI (b : Bool) : Int := if b = true then 1 else 0
def addU : B2
  | .int i, .int j, m => some (.int (i + j), m)
  | .bl b, .int j, m => some (.int (bI b + j), m)
  | .str x, .str y, m => if lineOk (x.length + y.length) = true then some (.str (x ++ y), m) else none
  | .tup us, .tup ws, m => if lineOk (us.length + ws.length) = true then some (.tup (us ++ ws), m) else none
  | a, b, m => (match seqW a m, seqW b m with
    | some us, some ws => if lineOk (us.length + ws.length) = true then some (.fl (us ++ ws), m) else none
    | _, _ => none)
def subU : B2
  | .int i, .int j, m => some (.int (i - j), m)
  | .bl b, .int j, m => some (.int (bI b - j), m)
  | .int i, .bl b, m => some (.int (i - bI b), m)
  | _, _, _ => none
def mulU : B2
  | .int i, .int j, m => if mulOk i j = true then some (.int (i * j), m) else none
  | .str x, .int j, m => if (decide (0 ≤ j) && decide (j ≤ 100000) && decide (x.length ≤ 100)) = true then some (.str (repS x j), m) else none
  | a, .int j, m => (match seqW a m with
    | some us => if (decide (0 ≤ j) && decide (j ≤ 100000) && lineOk (us.length * j.toNat)) = true then some (.fl (List.replicate j.toNat us).flatten, m) else none
    | _ => none)
  | _, _, _ => none
def fdivU : B2
  | .int i, .int j, m => if divOk j = true then some (.int (i / j), m) else none
  | _, _, _ => none
def modU : B2
  | .int i, .int j, m => if decide (0 < j) = true then some (.int (i % j), m) else none
  | _, _, _ => none
def powU : B2
  | .int i, .int j, m => if powOk i j = true then some (.int (i ^ j.toNat), m) else none
  | _, _, _ => none
def negU : B1
  | .int i, m => some (.int (-i), m)
  | _, _ => none
def b3 {a b d : Bool} (h : (a && b && d) = true) : a = true ∧ b = true ∧ d = true := by
  rw [Bool.and_eq_true, Bool.and_eq_true] at h
  exact ⟨h.1.1, h.1.2, h.2⟩
theorem kO.ite {α β : Type} {c : Cn} {R : Rel α β} {r : Gh} {H : Hp} {Q : β → Hp → Prop} {b : Bool} {p : α × MH} (k : kO c R r H Q (if b = true then some p else none)) : b = true ∧ kO c R r H Q (some p) := by
  cases b with
  | true => exact ⟨rfl, k⟩
  | false => exact (k : False).elim
section
variable {X : Cx}
theorem op_addU : OpR X (binaryOp .Add) (rB (cn X) addU) := by
  intro pins s σ H x y v u Q I rx ry h
  obtain ⟨r, m, a, b, C, ra, rb, k⟩ := h
  have lists : ∀ us ws, seqW a m = some us → seqW b m = some ws → kO (cn X) RU r H Q (if lineOk (us.length + ws.length) = true then some (.fl (us ++ ws), m) else none) → wpAny (model X.prog X.w) X.A (binaryOp .Add v u) (EP X pins σ Q) X.xe s := by
    intro us ws ea eb k
    obtain ⟨l, xs, rfl, hl, rs⟩ := seqW_ok C ra ea
    obtain ⟨l2, ys, rfl, hl2, rs2⟩ := seqW_ok C rb eb
    obtain ⟨hb, k⟩ := k.ite
    have ll : us.length + ws.length ≤ sizeLine := lineOk_of hb
    refine op_cat pins s σ H _ _ v u Q I rx ry ⟨l, l2, xs, ys, rfl, rfl, hl, hl2, by rw [← rs.length, ← rs2.length]; exact ll, fun p hp => ?_⟩
    obtain ⟨C1, e1, n1, n2⟩ := C.beside (o := .lst (xs ++ ys)) hp
    exact k _ _ _ e1 C1 (.fl n1 n2 upd_same ((rs.app rs2).ext e1.w))
  unfold addU at k
  split at k
  · cases ra; cases rb
    exact op_add pins s σ H _ _ v u Q I rx ry ⟨_, _, rfl, rfl, k.get C (.int _)⟩
  · cases ra; cases rb
    obtain ⟨tb, rfl⟩ := ry
    cases rx
    exact IntBool.add_bool_int ⟨.int _, H, I.tok _, ⟨_, rfl⟩, k.get C (.int _)⟩
  · cases ra; cases rb
    obtain ⟨hb, k⟩ := k.ite
    exact op_add_str pins s σ H _ _ v u Q I rx ry ⟨_, _, rfl, rfl, lineOk_of hb, k.get C (.str _)⟩
  · cases ra with
    | tup ha hs => cases rb with
      | tup hb hs2 =>
        obtain ⟨hl, k⟩ := k.ite
        have ll := lineOk_of hl
        refine op_catA pins s σ H _ _ v u Q I rx ry ⟨_, _, _, _, rfl, rfl, ha.sq, hb.sq, by rw [← hs.length, ← hs2.length]; exact ll, ?_, ?_, ?_⟩
        · rintro rfl
          cases hs
          exact k.get C (.tup hb hs2)
        · rintro _ rfl
          cases hs2
          rw [List.append_nil] at k
          exact k.get C (.tup ha hs)
        · intro _ _ p hp
          obtain ⟨C1, e1, n1, n2⟩ := C.beside (o := .tup _) hp
          exact k _ _ _ e1 C1 (.tup (.inl ⟨n1, n2, Rd.of upd_same⟩) ((hs.app hs2).ext e1.w))
  · cases ea : seqW a m with
    | none => rw [ea] at k; exact k.elim
    | some us => cases eb : seqW b m with
      | none => rw [ea, eb] at k; exact k.elim
      | some ws => rw [ea, eb] at k; exact lists us ws ea eb k
theorem op_subU : OpR X (binaryOp .Sub) (rB (cn X) subU) := by
  intro pins s σ H x y v u Q I rx ry h
  obtain ⟨r, m, a, b, C, ra, rb, k⟩ := h
  unfold subU at k
  split at k
  · cases ra; cases rb
    exact op_sub pins s σ H _ _ v u Q I rx ry ⟨_, _, rfl, rfl, k.get C (.int _)⟩
  · cases ra; cases rb
    obtain ⟨tb, rfl⟩ := ry
    cases rx
    exact IntBool.sub_bool_int ⟨.int _, H, I.tok _, ⟨_, rfl⟩, k.get C (.int _)⟩
  · cases ra; cases rb
    obtain ⟨tb, rfl⟩ := rx
    cases ry
    exact IntBool.sub_int_bool ⟨.int _, H, I.tok _, ⟨_, rfl⟩, k.get C (.int _)⟩
  · exact k.elim
theorem op_modU : OpR X (binaryOp .Mod) (rB (cn X) modU) := by
  intro pins s σ H x y v u Q I rx ry h
  obtain ⟨r, m, a, b, C, ra, rb, k⟩ := h
  unfold modU at k
  split at k
  · cases ra; cases rb
    obtain ⟨hb, k⟩ := k.ite
    exact op_mod pins s σ H _ _ v u Q I rx ry ⟨_, _, rfl, rfl, of_decide_eq_true hb, k.get C (.int _)⟩
  · exact k.elim
theorem log_lt {i n : Nat} (h : i < 2 ^ n) (h0 : 0 < n) : i.log2 < n := by
  by_cases z : i = 0
  · subst z; rw [Nat.log2_zero]; exact h0
  · exact (Nat.log2_lt z).mpr h
theorem op_fdivU : OpR X (binaryOp .FloorDiv) (rB (cn X) fdivU) := by
  intro pins s σ H x y v u Q I rx ry h
  obtain ⟨r, m, a, b, C, ra, rb, k⟩ := h
  unfold fdivU at k
  split at k
  · cases ra; cases rb
    obtain ⟨hb, k⟩ := k.ite
    unfold divOk at hb
    rw [Bool.and_eq_true] at hb
    exact op_fdivW pins s σ H _ _ v u Q I rx ry ⟨_, _, rfl, rfl, ⟨of_decide_eq_true hb.1, Nat.lt_trans (log_lt (of_decide_eq_true hb.2) (by decide)) (by decide)⟩, k.get C (.int _)⟩
  · exact k.elim
theorem bits_lt {i : Int} {n : Nat} (h : i.natAbs < 2 ^ n) : Builtin.Int.intBits i ≤ n := by
  unfold Builtin.Int.intBits
  by_cases z : i = 0
  · subst z; exact Nat.zero_le _
  · rw [if_neg (by simpa using z)]
    exact Nat.succ_le_of_lt ((Nat.log2_lt (by omega)).mpr h)
theorem op_powU : OpR X (binaryOp .Pow) (rB (cn X) powU) := by
  intro pins s σ H x y v u Q I rx ry h
  obtain ⟨r, m, a, b, C, ra, rb, k⟩ := h
  unfold powU at k
  split at k
  · cases ra; cases rb
    obtain ⟨hb, k⟩ := k.ite
    unfold powOk at hb
    obtain ⟨h1, h2, h3⟩ := b3 hb
    have g1 := of_decide_eq_true h1
    have g2 := of_decide_eq_true h2
    have g3 := bits_lt (of_decide_eq_true h3)
    have R : OpR X (binaryOp .Pow) (rI (fun i j => 0 ≤ j ∧ (Builtin.Int.intBits i : Int) * j ≤ 2 ^ 27) fun i j => .int (i ^ j.toNat)) := opI fun _ _ _ _ _ _ _ hc q => pow_int hc.1 hc.2 q
    refine R pins s σ H _ _ v u Q I rx ry ⟨_, _, rfl, rfl, ⟨g1, ?_⟩, k.get C (.int _)⟩
    have e1 : ((Builtin.Int.intBits _ : Nat) : Int) ≤ 1000 := Int.ofNat_le.mpr g3
    exact Int.le_trans (Int.mul_le_mul e1 g2 g1 (by decide)) (by decide)
  · exact k.elim
theorem rep_size (a : Array Nat) : ∀ (n : Nat) (acc : Array Nat), (List.foldl (fun x1 x2 => x1 ++ x2) acc (List.replicate n a)).size = acc.size + n * a.size
  | 0, acc => by simp
  | n + 1, acc => by
    rw [List.replicate_succ, List.foldl_cons, rep_size a n, Array.size_append, Nat.succ_mul]
    omega
theorem op_repS : OpR X (binaryOp .Mult) (fun x y H Q => ∃ z j, x = .str z ∧ y = .int j ∧ (0 ≤ j ∧ j ≤ 100000 ∧ z.length ≤ 100) ∧ Q (.str (repS z j)) H) := by
  intro pins s σ H x y v u Q I rx ry h
  obtain ⟨z, j, rfl, rfl, ⟨h1, h2, h3⟩, q⟩ := h
  obtain ⟨t, rfl⟩ := rx
  obtain ⟨t', rfl⟩ := ry
  refine PySem.P.mul_str ?_ (fun g1 g2 => ?_) (fun g1 g2 => ?_) ?_
  · rw [Bool.or_eq_false_iff]
    exact ⟨decide_eq_false (by omega), decide_eq_false (by omega)⟩
  · have : (100 : Int) ≤ (2 ^ 63 - 1) / j := by
      rw [Int.le_ediv_iff_mul_le (by omega)]
      omega
    omega
  · refine PyProof.Rows.short24 ?_
    have a1 : j.toNat ≤ 100000 := by omega
    have := Nat.mul_le_mul h3 a1
    omega
  · unfold repS at q
    by_cases c1 : j < 1
    · rw [if_pos c1] at q ⊢
      exact ⟨by decide, ⟨.str Str.empty, H, I.tok _, ⟨_, rfl⟩, q⟩⟩
    · rw [if_neg c1] at q ⊢
      by_cases c2 : (j == 1 || z.length == 0) = true
      · rw [if_pos c2] at q ⊢
        exact ⟨.str z, H, I.tok _, ⟨_, rfl⟩, q⟩
      · rw [if_neg c2] at q ⊢
        refine ⟨?_, ⟨.str _, H, I.tok _, ⟨_, rfl⟩, q⟩⟩
        show (List.foldl (fun x1 x2 => x1 ++ x2) #[] (List.replicate j.toNat z.cps)).size ≤ sizeLine
        rw [rep_size]
        have a1 : j.toNat ≤ 100000 := by omega
        have a2 : z.cps.size ≤ 100 := h3
        have := Nat.mul_le_mul a1 a2
        have e : sizeLine = 16777216 := rfl
        simp only [List.size_toArray, List.length_nil]
        omega
theorem op_mulU : OpR X (binaryOp .Mult) (rB (cn X) mulU) := by
  intro pins s σ H x y v u Q I rx ry h
  obtain ⟨r, m, a, b, C, ra, rb, k⟩ := h
  unfold mulU at k
  split at k
  · cases ra; cases rb
    obtain ⟨hb, k⟩ := k.ite
    unfold mulOk at hb
    rw [Bool.or_eq_true, Bool.or_eq_true, Bool.and_eq_true] at hb
    rcases hb with (hb | hb) | hb
    · have := of_decide_eq_true hb
      exact op_mul pins s σ H _ _ v u Q I rx ry ⟨_, _, rfl, rfl, .inl (by omega), k.get C (.int _)⟩
    · have := of_decide_eq_true hb
      exact op_mul pins s σ H _ _ v u Q I rx ry ⟨_, _, rfl, rfl, .inr (by omega), k.get C (.int _)⟩
    · refine op_mulW pins s σ H _ _ v u Q I rx ry ⟨_, _, rfl, rfl, ?_, k.get C (.int _)⟩
      have h1 := log_lt (of_decide_eq_true hb.1) (by decide)
      have h2 := log_lt (of_decide_eq_true hb.2) (by decide)
      show _ < 1000000
      omega
  · cases ra; cases rb
    obtain ⟨hb, k⟩ := k.ite
    obtain ⟨h1, h2, h3⟩ := b3 hb
    exact op_repS pins s σ H _ _ v u Q I rx ry ⟨_, _, rfl, rfl, ⟨of_decide_eq_true h1, of_decide_eq_true h2, of_decide_eq_true h3⟩, k.get C (.str _)⟩
  · rename_i j _ _
    cases rb
    cases ea : seqW a m with
    | none => rw [ea] at k; exact k.elim
    | some us =>
      rw [ea] at k
      obtain ⟨l, xs, rfl, hl, rs⟩ := seqW_ok C ra ea
      obtain ⟨hb, k⟩ := k.ite
      obtain ⟨h1, h2, h3⟩ := b3 hb
      have g1 := of_decide_eq_true h1
      have g2 := of_decide_eq_true h2
      refine op_rep pins s σ H _ _ v u Q I rx ry ⟨l, _, xs, rfl, rfl, hl, by omega, by omega, by rw [← rs.length]; exact lineOk_of h3, fun p hp => ?_⟩
      obtain ⟨C1, e1, n1, n2⟩ := C.beside (o := .lst (List.replicate j.toNat xs).flatten) hp
      exact k _ _ _ e1 C1 (.fl n1 n2 upd_same ((rs.rep _).ext e1.w))
  · exact k.elim
theorem un_negU : UnR X (unaryOp .USub) (rB1 (cn X) negU) := by
  intro pins s σ H x v Q I rx h
  obtain ⟨r, m, a, C, ra, k⟩ := h
  unfold negU at k
  split at k
  · cases ra
    exact un_neg pins s σ H _ v Q I rx ⟨_, rfl, k.get C (.int _)⟩
  · exact k.elim
end
end Mi
set_option Elab.async false
set_option linter.all false
set_option maxRecDepth 100000
set_option maxHeartbeats 4000000
/-! Mi, part D: equality, order, in, is, length, places, truth, kinds. -/
namespace Mi
open PySem PySem.Spec PyProof.Rows L2
def keyD : Key → PyData
  | .inl i => .int i
  | .inr x => .str x
mutual
/-- as data (a thing of the own heap has none) -/
def toD : U → PyData
  | .non => .none
  | .bl b => .bool b
  | .int i => .int i
  | .str x => .str x
  | .tup us => .tuple (toDs us)
  | .fl us => .list (toDs us)
  | .cl us => .list (toDs us)
  | .fd ks us => .dict ((ks.map keyD).zip (toDs us))
  | _ => .dict []
def toDs : List U → List PyData
  | [] => []
  | u :: us => toD u :: toDs us
end
mutual
def layU : U → Bool
  | .non => true
  | .bl _ => true
  | .int _ => true
  | .str x => PyData.strOk x
  | .tup us => layUs us
  | .fl us => layUs us
  | .cl us => layUs us
  | _ => false
def layUs : List U → Bool
  | [] => true
  | u :: us => layU u && layUs us
end
mutual
def depU : U → Nat
  | .tup us => depUs us + 1
  | .fl us => depUs us + 1
  | .cl us => depUs us + 1
  | _ => 0
def depUs : List U → Nat
  | [] => 0
  | u :: us => max (depU u) (depUs us)
end
def okD (u : U) : Bool := layU u && decide (depU u ≤ 50)
mutual
theorem lay_toD : ∀ u : U, layU u = true → PyData.canLay0 (toD u) = true
  | .non, _ => rfl
  | .bl _, _ => rfl
  | .int _, _ => rfl
  | .str _, h => h
  | .tup us, h => lay_toDs us h
  | .fl us, h => lay_toDs us h
  | .cl us, h => lay_toDs us h
  | .fd _ _, h => nomatch (show false = true from h)
  | .ref _, h => nomatch (show false = true from h)
  | .glo _, h => nomatch (show false = true from h)
  | .ty _, h => nomatch (show false = true from h)
theorem lay_toDs : ∀ us : List U, layUs us = true → PyData.canLayAll0 (toDs us) = true
  | [], _ => rfl
  | u :: us, h => by
    have h' : (layU u && layUs us) = true := h
    rw [Bool.and_eq_true] at h'
    show (PyData.canLay0 (toD u) && PyData.canLayAll0 (toDs us)) = true
    rw [lay_toD u h'.1, lay_toDs us h'.2]
    rfl
end
mutual
theorem dep_toD : ∀ u : U, layU u = true → (toD u).depth ≤ depU u
  | .non, _ => Nat.le_refl _
  | .bl _, _ => Nat.le_refl _
  | .int _, _ => Nat.le_refl _
  | .str _, h => Nat.le_refl _
  | .tup us, h => Nat.succ_le_succ (dep_toDs us h)
  | .fl us, h => Nat.succ_le_succ (dep_toDs us h)
  | .cl us, h => Nat.succ_le_succ (dep_toDs us h)
  | .fd _ _, h => nomatch (show false = true from h)
  | .ref _, h => nomatch (show false = true from h)
  | .glo _, h => nomatch (show false = true from h)
  | .ty _, h => nomatch (show false = true from h)
theorem dep_toDs : ∀ us : List U, layUs us = true → PyData.depthAll (toDs us) ≤ depUs us
  | [], _ => Nat.le_refl _
  | u :: us, h => by
    have h' : (layU u && layUs us) = true := h
    rw [Bool.and_eq_true] at h'
    have h1 := dep_toD u h'.1
    have h2 := dep_toDs us h'.2
    show max (toD u).depth (PyData.depthAll (toDs us)) ≤ max (depU u) (depUs us)
    omega
end
theorem shaped_of {u : U} (h : okD u = true) : SeqAt.shaped (toD u) = true := by
  unfold okD at h
  rw [Bool.and_eq_true] at h
  unfold SeqAt.shaped
  rw [lay_toD u h.1, Bool.true_and]
  have := of_decide_eq_true h.2
  have := dep_toD u h.1
  exact decide_eq_true (by omega)
section
variable {c : Cn} {r : Gh} {H : Hp} {m : MH}
mutual
theorem RU.dp : ∀ {u : U} {v : V}, layU u = true → RU c r H u v → Dp c.K H v (toD u)
  | _, _, _, .non => .non
  | _, _, _, .bl b => .bl b
  | _, _, _, .int i => .int i
  | _, _, _, .str x => .str x
  | .tup us, _, l, .tup h hs => .tup h.sq (RUs.dp (us := us) l hs)
  | .fl us, _, l, .fl h1 h2 h3 hs => .lst (SqL.of h3) (RUs.dp (us := us) l hs)
  | .cl us, _, l, .cl h hs => .lst h.sq (RUs.dp (us := us) l hs)
  | .fd _ _, _, l, _ => nomatch (show false = true from l)
  | .ref _, _, l, _ => nomatch (show false = true from l)
  | .glo _, _, l, _ => nomatch (show false = true from l)
  | .ty _, _, l, _ => nomatch (show false = true from l)
theorem RUs.dp : ∀ {us : List U} {vs : List V}, layUs us = true → RUs c r H us vs → DpAll c.K H vs (toDs us)
  | _, _, _, .nil => .nil
  | u :: us, _, l, .cons h hs => by
    have h' : (layU u && layUs us) = true := l
    rw [Bool.and_eq_true] at h'
    exact .cons (RU.dp h'.1 h) (RUs.dp h'.2 hs)
end
/-- a list of the own heap as an unchanging one -/
def deref : U → MH → U
  | .ref n, m => (match m[n]? with
    | some (.lst us) => .fl us
    | _ => .ref n)
  | u, _ => u
theorem deref_dp (C : Corr c r m H) {u : U} {v : V} (l : layU (deref u m) = true) (ru : RU c r H u v) : Dp c.K H v (toD (deref u m)) := by
  cases u with
  | ref n =>
    cases ru with
    | ref h =>
      cases q : m[n]? with
      | none => simp only [deref, q] at l; exact nomatch (show false = true from l)
      | some o =>
        cases o with
        | lst us =>
          simp only [deref, q] at l ⊢
          obtain ⟨a', ho, h1, h2, h3⟩ := C.at_ n _ q
          rw [h] at h1
          cases h1
          cases h3 with | lst hs => exact .lst (SqL.of h2) (RUs.dp (us := us) l hs)
        | _ => simp only [deref, q] at l; exact nomatch (show false = true from l)
  | _ => exact RU.dp l ru
end
/-- flat values that == tells apart at once -/
def scU : U → U → Option Bool
  | .non, .non => some true
  | .non, .int _ => some false
  | .int _, .non => some false
  | .non, .bl _ => some false
  | .bl _, .non => some false
  | .non, .str _ => some false
  | .str _, .non => some false
  | .int i, .int j => some (decide (i = j))
  | .bl i, .bl j => some (decide (i = j))
  | .str i, .str j => some (decide (i = j))
  | .int _, .str _ => some false
  | .str _, .int _ => some false
  | .bl _, .str _ => some false
  | .str _, .bl _ => some false
  | _, _ => none
def eqB (u w : U) (m : MH) : Option Bool := match scU u w with
  | some b => some b
  | none => if (okD (deref u m) && okD (deref w m)) = true then some (PyData.eqv (toD (deref u m)) (toD (deref w m))) else none
/-- something against an empty tuple or list, whatever stands in it -/
def emU : U → U → MH → Option Bool
  | .tup (_ :: _), .tup [], _ => some false
  | .tup (.str a :: r), .tup [.str b], _ => some (decide (a = b) && r.isEmpty)
  | u, .fl [], m => (match seqL u m with
    | some (_ :: _) => some false
    | _ => none)
  | _, _, _ => none
def eqU : B2 := fun u w m => match eqB u w m with
  | some b => some (.bl b, m)
  | none => (emU u w m).map fun b => (.bl b, m)
def neU : B2 := fun u w m => (eqB u w m).map fun b => (.bl (!b), m)
def cmpI (p : Int → Int → Bool) : B2
  | .int i, .int j, m => some (.bl (p i j), m)
  | _, _, _ => none
/-- >, a truth on the left side too -/
def cmpG : B2
  | .int i, .int j, m => some (.bl (decide (j < i)), m)
  | .bl b, .int j, m => some (.bl (decide (j < bI b)), m)
  | _, _, _ => none
def isNon : U → Bool
  | .non => true
  | _ => false
/-- is: None, or two truths -/
def blP : U → U → Option Bool
  | .bl a, .bl b => some (decide (a = b))
  | _, _ => none
def isU : B2 := fun u w m => if isNon w = true then some (.bl (isNon u), m) else (blP u w).map fun b => (.bl b, m)
def nisU : B2 := fun u w m => if isNon w = true then some (.bl (!isNon u), m) else (blP u w).map fun b => (.bl (!b), m)
section
variable {X : Cx}
theorem sc_ok {c : Cn} {r : Gh} {H : Hp} {u w : U} {x y : V} {b : Bool} (ru : RU c r H u x) (rw' : RU c r H w y) (e : scU u w = some b) : scal x y = true ∧ decide (x = y) = b := by
  cases ru <;> cases rw' <;> first
    | (cases e; exact ⟨rfl, by simp⟩)
    | (exact nomatch (show none = some b from e))
theorem map_someD {α : Type} {o : Option α} {c : Cn} {R : Rel U V} {r : Gh} {H : Hp} {Q : VK} {m : MH} {g : α → U} (k : kO c R r H Q (o.map fun a => (g a, m))) : ∃ a, o = some a ∧ kO c R r H Q (some (g a, m)) := by
  cases o with
  | none => exact k.elim
  | some a => exact ⟨a, rfl, k⟩
theorem sql_isList {pins : List (Addr × Obj)} {σ : L2.St} {s : Shared} {H : Hp} {a : Addr} {xs : List V} (I : Inv X pins σ H s) (h : SqL X.K H a xs) : ∃ us : List Value, Vals xs us ∧ s.heap.IsList a us.toArray := by
  obtain ⟨us, r1, p1, _⟩ := I.list h
  exact ⟨us, r1, p1.isList⟩
theorem op_emU (hu : X.A.units + 64 < cLine) {pins : List (Addr × Obj)} {σ : L2.St} {s : Shared} {H : Hp} {x y : V} {v u : Value} {Q : VK} {r : Gh} {m : MH} {a b : U} {k : Bool} (I : Inv X pins σ H s) (rx : RelV x v) (ry : RelV y u) (C : Corr (cn X) r m H) (ra : RU (cn X) r H a x) (rb : RU (cn X) r H b y)
    (e : emU a b m = some k) (q : Q (.bl k) H) : wpAny (model X.prog X.w) X.A (compareOp .Eq v u) (EP X pins σ Q) X.xe s := by
  unfold emU at e
  split at e
  · cases e
    cases ra with
    | tup ha hs => cases rb with
      | tup hb hs2 =>
        cases (show v = Value.ref _ from rx)
        cases (show u = Value.ref _ from ry)
        obtain ⟨us, r1, ⟨o1, g1, c1, n1, d1⟩, _⟩ := I.tuple ha.sq
        obtain ⟨ws, r2, ⟨o2, g2, c2, n2, d2⟩, _⟩ := I.tuple hb.sq
        cases hs2
        cases r2
        cases hs with
        | cons h0 hs0 =>
          cases r1 with
          | @cons _ v1 _ us1 hv hvs =>
            refine SeqAt.eq_tupleAt (items := (v1 :: us1).toArray) (items2 := #[]) (e := fun _ => true) ⟨o1, g1, c1, n1, d1⟩ ⟨o2, g2, c2, n2, d2⟩ (by omega) (fun j h1 h2 => absurd h2 (Nat.not_lt_zero _)) ⟨.bl false, H, I, ?_, q⟩
            show Value.bool _ = Value.bool false
            simp
  · rename_i a1 r1 b1
    cases e
    cases ra with
    | tup ha hs => cases rb with
      | tup hb hs2 =>
        cases (show v = Value.ref _ from rx)
        cases (show u = Value.ref _ from ry)
        obtain ⟨us, r1, ⟨o1, g1, c1, n1, d1⟩, _⟩ := I.tuple ha.sq
        obtain ⟨ws, r2, ⟨o2, g2, c2, n2, d2⟩, _⟩ := I.tuple hb.sq
        cases hs2 with
        | cons k0 ks0 =>
          cases ks0
          cases k0
          cases r2 with
          | @cons _ w1 _ ws1 hw hws =>
            cases hws
            cases hs with
            | cons h0 hs0 =>
              cases h0
              cases r1 with
              | @cons _ v1 _ us1 hv hvs =>
                obtain ⟨t1, rfl⟩ := hv
                obtain ⟨t2, rfl⟩ := hw
                refine SeqAt.eq_tupleAt (items := (Value.str _ t1 :: us1).toArray) (items2 := [Value.str _ t2].toArray) (e := fun _ => a1 == b1) ⟨o1, g1, c1, n1, d1⟩ ⟨o2, g2, c2, n2, d2⟩ (by omega) (fun j h1 h2 => ?_) ⟨.bl _, H, I, ?_, q⟩
                · have : j = 0 := Nat.lt_one_iff.mp h2
                  subst this
                  exact SeqAt.EqAt.str_str _ _ _ _
                · show Value.bool _ = Value.bool _
                  congr 1
                  cases hs0 with
                  | nil =>
                    cases hvs
                    have e2 : (a1 == b1) = decide (a1 = b1) := by rw [Bool.eq_iff_iff]; simp
                    simp [e2]
                  | cons _ _ => cases hvs; simp
  · rename_i u0 m0 _
    split at e
    · rename_i w0 ws0 es
      cases e
      obtain ⟨l, xs, rfl, hl, hs⟩ := seqL_ok C ra es
      cases rb with
      | fl h1 h2 h3 hs2 =>
        cases (show v = Value.ref _ from rx)
        cases (show u = Value.ref _ from ry)
        obtain ⟨us, r1, p1, _⟩ := I.list hl
        obtain ⟨ws, r2, p2, _⟩ := I.list (SqL.of (K := X.K) h3)
        cases hs2
        cases r2
        cases hs with
        | cons h0 hs0 =>
          cases r1 with
          | cons hv hvs => exact SeqAt.eq_list_lengthsAt p1.isList p2.isList (by simp) (by omega) ⟨.bl false, H, I, rfl, q⟩
    · cases e
  · cases e
theorem op_eqU (hu : X.A.units + 64 < cLine) : OpR X (compareOp .Eq) (rB (cn X) eqU) := by
  intro pins s σ H x y v u Q I rx ry h
  obtain ⟨r, m, a, b, C, ra, rb, k⟩ := h
  unfold eqU at k
  unfold eqB at k
  cases e : scU a b with
  | some b' =>
    rw [e] at k
    obtain ⟨h1, h2⟩ := sc_ok ra rb e
    exact op_eq pins s σ H _ _ v u Q I rx ry ⟨h1, by rw [h2]; exact k.get C (.bl _)⟩
  | none =>
    rw [e] at k
    by_cases g : (okD (deref a m) && okD (deref b m)) = true
    · rw [if_pos g] at k
      rw [Bool.and_eq_true] at g
      have l1 : layU (deref a m) = true := (Bool.and_eq_true _ _ ▸ g.1 : _ ∧ _).1
      have l2 : layU (deref b m) = true := (Bool.and_eq_true _ _ ▸ g.2 : _ ∧ _).1
      exact op_eqD hu pins s σ H _ _ v u Q I rx ry ⟨_, _, deref_dp C l1 ra, deref_dp C l2 rb, shaped_of g.1, shaped_of g.2, k.get C (.bl _)⟩
    · rw [if_neg g] at k
      dsimp only at k
      obtain ⟨b', e', k⟩ := map_someD k
      exact op_emU hu I rx ry C ra rb e' (k.get C (.bl _))
theorem op_neU (hu : X.A.units + 64 < cLine) : OpR X (compareOp .NotEq) (rB (cn X) neU) := by
  intro pins s σ H x y v u Q I rx ry h
  obtain ⟨r, m, a, b, C, ra, rb, k⟩ := h
  unfold neU eqB at k
  cases e : scU a b with
  | some b' =>
    rw [e] at k
    obtain ⟨h1, h2⟩ := sc_ok ra rb e
    exact op_ne pins s σ H _ _ v u Q I rx ry ⟨h1, by rw [h2]; exact k.get C (.bl _)⟩
  | none =>
    rw [e] at k
    by_cases g : (okD (deref a m) && okD (deref b m)) = true
    · rw [if_pos g] at k
      rw [Bool.and_eq_true] at g
      have l1 : layU (deref a m) = true := (Bool.and_eq_true _ _ ▸ g.1 : _ ∧ _).1
      have l2 : layU (deref b m) = true := (Bool.and_eq_true _ _ ▸ g.2 : _ ∧ _).1
      exact op_neD hu pins s σ H _ _ v u Q I rx ry ⟨_, _, deref_dp C l1 ra, deref_dp C l2 rb, shaped_of g.1, shaped_of g.2, k.get C (.bl _)⟩
    · rw [if_neg g] at k
      exact k.elim
theorem op_cmpI {op : CmpOp} {p : Int → Int → Bool} (h0 : OpR X (compareOp op) (rI0 fun i j => .bl (p i j))) : OpR X (compareOp op) (rB (cn X) (cmpI p)) := by
  intro pins s σ H x y v u Q I rx ry h
  obtain ⟨r, m, a, b, C, ra, rb, k⟩ := h
  unfold cmpI at k
  split at k
  · cases ra; cases rb
    exact h0 pins s σ H _ _ v u Q I rx ry ⟨_, _, rfl, rfl, k.get C (.bl _)⟩
  · exact k.elim
theorem gives_gt_bi (a : Bool) (b : Int) (u : Tok) : Gives (Builtin.«int.__gt__» ⟨[.bool a, .int b u], []⟩) (.val (Value.bool (decide ((if a = true then (1 : Int) else 0) > b)))) :=
  .of_wp fun M A E s Q h => by obtain ⟨hp, g, d, tk, os⟩ := s; wp_walk; exact ⟨_, rfl, h⟩
theorem gt_bool_int {prog : Program} {w : World} {A : Around} {E : Value → Shared → Prop} {s : Shared} {Q : Value → Shared → Prop} {a : Bool} {b : Int} {u : Tok} (h : Q (.bool (decide ((if a = true then (1 : Int) else 0) > b))) s) : wpAny (model prog w) A (compareOp .Gt (.bool a) (.int b u)) Q E s := by
  show wpAny (model prog w) A (richCompare .Gt (.bool a) (.int b u)) Q E s
  exact SeqAt.rc_left_or (op := .Gt) rfl (typeIs_int s b u) (by decide) F.sub_int_bool F.slot_bool_gt
    (call_gives F.slot_bool_gt rfl F.entry_int_gt (F.args_int_gt_2 _ _) (gives_gt_bi a b u) ⟨nofun, h⟩) (.inl rfl)
theorem op_cmpG : OpR X (compareOp .Gt) (rB (cn X) cmpG) := by
  intro pins s σ H x y v u Q I rx ry h
  obtain ⟨r, m, a, b, C, ra, rb, k⟩ := h
  unfold cmpG at k
  split at k
  · cases ra; cases rb
    exact op_gt pins s σ H _ _ v u Q I rx ry ⟨_, _, rfl, rfl, k.get C (.bl _)⟩
  · cases ra; cases rb
    obtain ⟨tb, rfl⟩ := ry
    cases rx
    exact gt_bool_int ⟨.bl _, H, I, rfl, k.get C (.bl _)⟩
  · exact k.elim
theorem isN_ok {c : Cn} {r : Gh} {H : Hp} {u : U} {x : V} (ru : RU c r H u x) : decide (x = .non) = isNon u := by
  cases ru <;> simp [isNon]
theorem blP_ok {c : Cn} {r : Gh} {H : Hp} {u w : U} {x y : V} {k : Bool} (e : blP u w = some k) (ru : RU c r H u x) (rw' : RU c r H w y) : ∃ a b : Bool, x = .bl a ∧ y = .bl b ∧ decide (a = b) = k := by
  unfold blP at e
  split at e
  · cases e
    cases ru; cases rw'
    exact ⟨_, _, rfl, rfl, rfl⟩
  · cases e
theorem op_isU : OpR X (compareOp .Is) (rB (cn X) isU) := by
  intro pins s σ H x y v u Q I rx ry h
  obtain ⟨r, m, a, b, C, ra, rb, k⟩ := h
  unfold isU at k
  by_cases hb : isNon b = true
  · rw [if_pos hb] at k
    cases b with
    | non => cases rb; exact op_isN pins s σ H _ _ v u Q I rx ry ⟨rfl, by rw [isN_ok ra]; exact k.get C (.bl _)⟩
    | _ => exact nomatch (show false = true from hb)
  · rw [if_neg hb] at k
    obtain ⟨b', e', k⟩ := map_someD k
    obtain ⟨p, q, rfl, rfl, h3⟩ := blP_ok e' ra rb
    exact op_isBl pins s σ H _ _ v u Q I rx ry ⟨p, q, rfl, rfl, by rw [h3]; exact k.get C (.bl _)⟩
theorem op_nisU : OpR X (compareOp .IsNot) (rB (cn X) nisU) := by
  intro pins s σ H x y v u Q I rx ry h
  obtain ⟨r, m, a, b, C, ra, rb, k⟩ := h
  unfold nisU at k
  by_cases hb : isNon b = true
  · rw [if_pos hb] at k
    cases b with
    | non => cases rb; exact op_notN pins s σ H _ _ v u Q I rx ry ⟨rfl, by rw [isN_ok ra]; exact k.get C (.bl _)⟩
    | _ => exact nomatch (show false = true from hb)
  · rw [if_neg hb] at k
    obtain ⟨b', e', k⟩ := map_someD k
    obtain ⟨p, q, rfl, rfl, h3⟩ := blP_ok e' ra rb
    exact op_notBl pins s σ H _ _ v u Q I rx ry ⟨p, q, rfl, rfl, by rw [h3]; exact k.get C (.bl _)⟩
end
end Mi
set_option Elab.async false
set_option linter.all false
set_option maxRecDepth 100000
set_option maxHeartbeats 4000000
/-! Mi, part E: calls of built-ins. -/
namespace Mi
open PySem PySem.Spec PyProof.Rows L2
abbrev FU := List U → MH → Option (U × MH)
def rF (c : Cn) (g : FU) : List V → Hp → VK → Prop := fun vs H Q => ∃ r m us, Corr c r m H ∧ RUs c r H us vs ∧ kO c RU r H Q (g us m)
section
variable {c : Cn} {r : Gh} {H : Hp}
theorem RUs.one {u : U} {vs : List V} (h : RUs c r H [u] vs) : ∃ v, vs = [v] ∧ RU c r H u v := by
  cases h with | cons h hs => cases hs; exact ⟨_, rfl, h⟩
theorem RUs.two {u w : U} {vs : List V} (h : RUs c r H [u, w] vs) : ∃ v y, vs = [v, y] ∧ RU c r H u v ∧ RU c r H w y := by
  cases h with | cons h hs => cases hs with | cons h2 hs => cases hs; exact ⟨_, _, rfl, h, h2⟩
end
/-- the type of a thing that is no instance -/
def tyU : U → MH → Option String
  | .non, _ => some "NoneType"
  | .bl _, _ => some "bool"
  | .int _, _ => some "int"
  | .str _, _ => some "str"
  | .tup _, _ => some "tuple"
  | .fl _, _ => some "list"
  | .cl _, _ => some "list"
  | .fd _ _, _ => some "dict"
  | .ref n, m => (match m[n]? with
    | some (.lst _) => some "list"
    | some (.dic _ _) => some "dict"
    | _ => none)
  | _, _ => none
def tys : List String := ["NoneType", "bool", "int", "str", "tuple", "list", "dict"]
def isT (a b : String) : Bool := decide (a = b) || (decide (a = "bool") && decide (b = "int"))
theorem kitB_tab : ∀ a ∈ tys, ∀ b ∈ tys, kitB a b = some (isT a b) := by decide +kernel
theorem tyU_ok {c : Cn} {r : Gh} {H : Hp} {m : MH} (C : Corr c r m H) {u : U} {v : V} {n : String} (ru : RU c r H u v) (e : tyU u m = some n) : TyX c.K H v (.type n) ∧ n ∈ tys := by
  cases u with
  | non => cases e; cases ru; exact ⟨.base .non, by decide⟩
  | bl b => cases e; cases ru; exact ⟨.base (.bl b), by decide⟩
  | int b => cases e; cases ru; exact ⟨.base (.int b), by decide⟩
  | str b => cases e; cases ru; exact ⟨.base (.str b), by decide⟩
  | tup us =>
    cases e
    cases ru with
    | tup h hs => rcases h with ⟨_, _, h | ⟨o, h⟩⟩ | ⟨o, its, k, h1, h2, _⟩
                  · exact ⟨.base (.tup h), by decide⟩
                  · exact ⟨.fTuple h, by decide⟩
                  · exact ⟨.kTuple h1 h2, by decide⟩
  | fl us => cases e; cases ru with | fl h1 h2 h3 hs => exact ⟨.base (.lst h3), by decide⟩
  | cl us =>
    cases e
    cases ru with
    | cl h hs => rcases h with ⟨_, _, h | ⟨o, h⟩⟩ | ⟨o, its, k, h1, h2, _⟩
                 · exact ⟨.base (.lst h), by decide⟩
                 · exact ⟨.base (.frz h), by decide⟩
                 · exact ⟨.kList h1 h2, by decide⟩
  | fd ks us => cases e; cases ru with | fd h1 h2 h3 h4 h5 hs => exact ⟨.base (.dK h3), by decide⟩
  | ref k =>
    cases ru with
    | ref h =>
      cases q : m[k]? with
      | none => simp only [tyU, q] at e; cases e
      | some o =>
        obtain ⟨a', ho, h1, h2, h3⟩ := C.at_ k _ q
        rw [h] at h1
        cases h1
        cases o with
        | lst us => simp only [tyU, q] at e; cases e; cases h3 with | lst hs => exact ⟨.base (.lst h2), by decide⟩
        | dic l us =>
          simp only [tyU, q] at e
          cases e
          cases h3 with
          | dic hs => exact ⟨.base (.dK h2), by decide⟩
          | dicL hs => exact ⟨.fDict h2, by decide⟩
        | ins x fs => simp only [tyU, q] at e; cases e
  | _ => cases e
def biIsi : FU
  | [u, .ty n], m => (match tyU u m with
    | some a => if tys.contains n = true then some (.bl (isT a n), m) else none
    | none => none)
  | _, _ => none
/-- the length -/
def lenU : U → MH → Option Nat
  | .str x, _ => if lineOk x.length = true then some x.length else none
  | .tup us, _ => some us.length
  | .fl us, _ => some us.length
  | .cl us, _ => some us.length
  | .fd _ us, _ => some us.length
  | .ref n, m => (match m[n]? with
    | some (.lst us) => some us.length
    | some (.dic false kvs) => some kvs.length
    | _ => none)
  | _, _ => none
def biLen : FU
  | [u], m => (lenU u m).map fun (n : Nat) => (U.int (n : Int), m)
  | _, _ => none
theorem RKs.length {c : Cn} {r : Gh} {H : Hp} : ∀ {kvs : List (U × U)} {ps : List (Key × V)}, RKs c r H kvs ps → kvs.length = ps.length
  | _, _, .nil => rfl
  | _, _, .cons _ _ h => congrArg (· + 1) (RKs.length h)
def blsOf : List U → Option (List Bool)
  | [] => some []
  | .bl b :: us => (blsOf us).map (b :: ·)
  | _ => none
def intsOf : List U → Option (List Int)
  | [] => some []
  | .int b :: us => (intsOf us).map (b :: ·)
  | _ => none
def strsOf : List U → Option (List Str)
  | [] => some []
  | .str b :: us => (strsOf us).map (b :: ·)
  | _ => none
section
variable {c : Cn} {r : Gh} {H : Hp}
theorem blsOf_ok : ∀ {us : List U} {vs : List V} {bs : List Bool}, RUs c r H us vs → blsOf us = some bs → vs = bs.map V.bl
  | [], _, _, .nil, e => by cases e; rfl
  | .bl b :: us, _, _, .cons (.bl _) hs, e => by
    simp only [blsOf, Option.map_eq_some_iff] at e
    obtain ⟨bs, e1, rfl⟩ := e
    rw [blsOf_ok hs e1]; rfl
theorem intsOf_ok : ∀ {us : List U} {vs : List V} {bs : List Int}, RUs c r H us vs → intsOf us = some bs → vs = bs.map V.int
  | [], _, _, .nil, e => by cases e; rfl
  | .int b :: us, _, _, .cons (.int _) hs, e => by
    simp only [intsOf, Option.map_eq_some_iff] at e
    obtain ⟨bs, e1, rfl⟩ := e
    rw [intsOf_ok hs e1]; rfl
theorem strsOf_ok : ∀ {us : List U} {vs : List V} {bs : List Str}, RUs c r H us vs → strsOf us = some bs → vs = bs.map V.str
  | [], _, _, .nil, e => by cases e; rfl
  | .str b :: us, _, _, .cons (.str _) hs, e => by
    simp only [strsOf, Option.map_eq_some_iff] at e
    obtain ⟨bs, e1, rfl⟩ := e
    rw [strsOf_ok hs e1]; rfl
end
def biAll : FU
  | [u], m => ((seqL u m).bind blsOf).map fun bs => (.bl (bs.all id), m)
  | _, _ => none
def biAny : FU
  | [u], m => ((seqL u m).bind blsOf).map fun bs => (.bl (bs.any id), m)
  | _, _ => none
def biSum : FU
  | [u], m => ((seqL u m).bind intsOf).map fun bs => (.int bs.sum, m)
  | _, _ => none
def biMin : FU
  | [.int i, .int j], m => some (.int (if j < i then j else i), m)
  | _, _ => none
def biMax : FU
  | [.int i, .int j], m => some (.int (if j > i then j else i), m)
  | _, _ => none
def biAbs : FU
  | [.int i], m => some (.int (if i < 0 then -i else i), m)
  | _, _ => none
def biStr : FU
  | [.int i], m => if decide (i.natAbs < 2 ^ 1900) = true then some (.str (toString i), m) else none
  | [.str x], m => some (.str x, m)
  | _, _ => none
/-- list(x): an unchanging one -/
def biList : FU
  | [.tup us], m => mkFl us m
  | [u], m => (seqL u m).bind fun us => mkFl us m
  | _, _ => none
def biTuple : FU
  | [.tup us], m => some (.tup us, m)
  | [u], m => (seqL u m).bind fun us => mkTup us m
  | _, _ => none
theorem map_some {α : Type} {o : Option α} {c : Cn} {R : Rel U V} {r : Gh} {H : Hp} {Q : VK} {m : MH} {g : α → U} (k : kO c R r H Q (o.map fun a => (g a, m))) : ∃ a, o = some a ∧ kO c R r H Q (some (g a, m)) := by
  cases o with
  | none => exact k.elim
  | some a => exact ⟨a, rfl, k⟩
section
variable {X : Cx}
theorem bi_isi : CallR X (.builtin "isinstance") (rF (cn X) biIsi) := by
  intro pins s σ H xs us Q I r h
  obtain ⟨g, m, ws, C, R, k⟩ := h
  unfold biIsi at k
  split at k
  · obtain ⟨v, y, rfl, r1, r2⟩ := R.two
    cases r2
    split at k
    · rename_i a e
      obtain ⟨hb, k⟩ := k.ite
      obtain ⟨t1, t2⟩ := tyU_ok C r1 e
      exact call_isi pins s σ H _ us Q I r ⟨v, _, _, _, _, rfl, .ty _, t1, kit_ty (kitB_tab _ t2 _ (List.contains_iff_mem.mp hb)), k.get C (.bl _)⟩
    · exact k.elim
  · exact k.elim
theorem bi_len : CallR X (.builtin "len") (rF (cn X) biLen) := by
  intro pins s σ H xs us Q I r h
  obtain ⟨g, m, ws, C, R, k⟩ := h
  match ws, R, k with
  | [], _, k => exact k.elim
  | _ :: _ :: _, _, k => exact k.elim
  | [u], R, k =>
    obtain ⟨v, rfl, r1⟩ := R.one
    simp only [biLen] at k
    cases e : lenU u m with
    | none => rw [e] at k; exact k.elim
    | some n =>
      rw [e] at k
      have k := k.get C (.int _)
      cases u with
      | str x =>
        cases r1
        simp only [lenU] at e
        by_cases hl : lineOk x.length = true
        · rw [if_pos hl] at e
          cases e
          exact call_len pins s σ H _ us Q I r ⟨_, _, rfl, ⟨lineOk_of hl, rfl⟩, k⟩
        · rw [if_neg hl] at e
          cases e
      | tup ws => cases e; cases r1 with | tup h hs => exact call_len pins s σ H _ us Q I r ⟨_, _, rfl, .inr ⟨_, h.sq, rfl⟩, hs.length ▸ k⟩
      | fl ws => cases e; cases r1 with | fl h1 h2 h hs => exact call_len pins s σ H _ us Q I r ⟨_, _, rfl, .inl ⟨_, SqL.of h, rfl⟩, hs.length ▸ k⟩
      | cl ws => cases e; cases r1 with | cl h hs => exact call_len pins s σ H _ us Q I r ⟨_, _, rfl, .inl ⟨_, h.sq, rfl⟩, hs.length ▸ k⟩
      | fd ks ws =>
        cases e
        cases r1 with
        | @fd _ _ _ xs h1 h2 h3 h4 h5 hs =>
          have e9 : (ks.zip xs).length = ws.length := by rw [List.length_zip, ← hs.length, h4, Nat.min_self]
          exact call_lenD pins s σ H _ us Q I r ⟨_, _, rfl, h3, e9 ▸ k⟩
      | ref i =>
        cases r1 with
        | ref h =>
          cases q : m[i]? with
          | none => simp only [lenU, q] at e; cases e
          | some o =>
            obtain ⟨a', ho, h1, h2, h3⟩ := C.at_ i _ q
            rw [h] at h1
            cases h1
            cases o with
            | lst us' => simp only [lenU, q] at e; cases e; cases h3 with | lst hs => exact call_len pins s σ H _ us Q I r ⟨_, _, rfl, .inl ⟨_, SqL.of h2, rfl⟩, hs.length ▸ k⟩
            | dic l kvs =>
              cases l with
              | false =>
                simp only [lenU, q] at e
                cases e
                cases h3 with
                | dic hs => exact call_lenD pins s σ H _ us Q I r ⟨_, _, rfl, h2, hs.length ▸ k⟩
              | true => simp only [lenU, q] at e; cases e
            | ins x fs => simp only [lenU, q] at e; cases e
      | _ => cases e
theorem bi_all (hc : X.calm = true) : CallR X (.builtin "all") (rF (cn X) biAll) := by
  intro pins s σ H xs us Q I r h
  obtain ⟨g, m, ws, C, R, k⟩ := h
  match ws, R, k with
  | [], _, k => exact k.elim
  | _ :: _ :: _, _, k => exact k.elim
  | [u], R, k =>
    obtain ⟨v, rfl, r1⟩ := R.one
    simp only [biAll] at k
    cases e : seqL u m with
    | none => rw [e] at k; exact k.elim
    | some ws =>
      rw [e] at k
      cases e2 : blsOf ws with
      | none => simp only [Option.bind_some, e2] at k; exact k.elim
      | some bs =>
        simp only [Option.bind_some, e2] at k
        obtain ⟨a, ys, rfl, h1, h2⟩ := seqL_ok C r1 e
        have := blsOf_ok h2 e2
        subst this
        exact cr_all hc pins s σ H _ us Q I r ⟨a, bs, rfl, h1, k.get C (.bl _)⟩
theorem bi_any (hc : X.calm = true) : CallR X (.builtin "any") (rF (cn X) biAny) := by
  intro pins s σ H xs us Q I r h
  obtain ⟨g, m, ws, C, R, k⟩ := h
  match ws, R, k with
  | [], _, k => exact k.elim
  | _ :: _ :: _, _, k => exact k.elim
  | [u], R, k =>
    obtain ⟨v, rfl, r1⟩ := R.one
    simp only [biAny] at k
    cases e : seqL u m with
    | none => rw [e] at k; exact k.elim
    | some ws =>
      rw [e] at k
      cases e2 : blsOf ws with
      | none => simp only [Option.bind_some, e2] at k; exact k.elim
      | some bs =>
        simp only [Option.bind_some, e2] at k
        obtain ⟨a, ys, rfl, h1, h2⟩ := seqL_ok C r1 e
        have := blsOf_ok h2 e2
        subst this
        exact cr_any hc pins s σ H _ us Q I r ⟨a, bs, rfl, h1, k.get C (.bl _)⟩
theorem bi_sum (hc : X.calm = true) : CallR X (.builtin "sum") (rF (cn X) biSum) := by
  intro pins s σ H xs us Q I r h
  obtain ⟨g, m, ws, C, R, k⟩ := h
  match ws, R, k with
  | [], _, k => exact k.elim
  | _ :: _ :: _, _, k => exact k.elim
  | [u], R, k =>
    obtain ⟨v, rfl, r1⟩ := R.one
    simp only [biSum] at k
    cases e : seqL u m with
    | none => rw [e] at k; exact k.elim
    | some ws =>
      rw [e] at k
      cases e2 : intsOf ws with
      | none => simp only [Option.bind_some, e2] at k; exact k.elim
      | some bs =>
        simp only [Option.bind_some, e2] at k
        obtain ⟨a, ys, rfl, h1, h2⟩ := seqL_ok C r1 e
        have := intsOf_ok h2 e2
        subst this
        exact cr_sum hc pins s σ H _ us Q I r ⟨a, bs, rfl, h1, k.get C (.int _)⟩
theorem bi_min (hc : X.calm = true) : CallR X (.builtin "min") (rF (cn X) biMin) := by
  intro pins s σ H xs us Q I r h
  obtain ⟨g, m, ws, C, R, k⟩ := h
  unfold biMin at k
  split at k
  · obtain ⟨v, y, rfl, r1, r2⟩ := R.two
    cases r1; cases r2
    exact call_min2 hc pins s σ H _ us Q I r ⟨_, _, rfl, k.get C (.int _)⟩
  · exact k.elim
theorem bi_max (hc : X.calm = true) : CallR X (.builtin "max") (rF (cn X) biMax) := by
  intro pins s σ H xs us Q I r h
  obtain ⟨g, m, ws, C, R, k⟩ := h
  unfold biMax at k
  split at k
  · obtain ⟨v, y, rfl, r1, r2⟩ := R.two
    cases r1; cases r2
    exact call_max2 hc pins s σ H _ us Q I r ⟨_, _, rfl, k.get C (.int _)⟩
  · exact k.elim
theorem bi_abs : CallR X (.builtin "abs") (rF (cn X) biAbs) := by
  intro pins s σ H xs us Q I r h
  obtain ⟨g, m, ws, C, R, k⟩ := h
  unfold biAbs at k
  split at k
  · obtain ⟨v, rfl, r1⟩ := R.one
    cases r1
    exact call_abs pins s σ H _ us Q I r ⟨_, rfl, k.get C (.int _)⟩
  · exact k.elim
theorem bi_str : CallR X (.type "str") (rF (cn X) biStr) := by
  intro pins s σ H xs us Q I r h
  obtain ⟨g, m, ws, C, R, k⟩ := h
  unfold biStr at k
  split at k
  · obtain ⟨v, rfl, r1⟩ := R.one
    cases r1
    obtain ⟨hb, k⟩ := k.ite
    exact call_str_int pins s σ H _ us Q I r ⟨_, rfl, Nat.lt_of_lt_of_le (log_lt (of_decide_eq_true hb) (by decide)) (by decide), k.get C (.str _)⟩
  · obtain ⟨v, rfl, r1⟩ := R.one
    cases r1
    exact SkE.call_str_str pins s σ H _ us Q I r ⟨_, rfl, k.get C (.str _)⟩
  · exact k.elim
theorem bi_list : CallR X (.type "list") (rF (cn X) biList) := by
  intro pins s σ H xs us Q I r h
  obtain ⟨g, m, ws, C, R, k⟩ := h
  unfold biList at k
  split at k
  · obtain ⟨v, rfl, r1⟩ := R.one
    cases r1 with
    | tup h hs => exact call_list_of pins s σ H _ us Q I r ⟨_, _, rfl, .inr h.sq, (ko_fl C hs k).2⟩
  · rename_i _ u _
    obtain ⟨v, rfl, r1⟩ := R.one
    cases e : seqL u m with
    | none => rw [e] at k; exact k.elim
    | some ws =>
      rw [e] at k
      obtain ⟨a, ys, rfl, h1, h2⟩ := seqL_ok C r1 e
      exact call_list_of pins s σ H _ us Q I r ⟨_, _, rfl, .inl h1, (ko_fl C h2 k).2⟩
  · exact k.elim
theorem bi_tuple : CallR X (.type "tuple") (rF (cn X) biTuple) := by
  intro pins s σ H xs us Q I r h
  obtain ⟨g, m, ws, C, R, k⟩ := h
  unfold biTuple at k
  split at k
  · obtain ⟨v, rfl, r1⟩ := R.one
    cases r1 with
    | tup h hs => exact call_tuple_of pins s σ H _ us Q I r ⟨_, _, rfl, .inr ⟨h.sq, k.get C (.tup h hs)⟩⟩
  · rename_i _ u _
    obtain ⟨v, rfl, r1⟩ := R.one
    cases e : seqL u m with
    | none => rw [e] at k; exact k.elim
    | some ws =>
      rw [e] at k
      obtain ⟨a, ys, rfl, h1, h2⟩ := seqL_ok C r1 e
      exact call_tuple_of pins s σ H _ us Q I r ⟨_, _, rfl, .inl ⟨h1, (ko_tup C h2 k).2⟩⟩
  · exact k.elim
end
end Mi
set_option Elab.async false
set_option linter.all false
set_option maxRecDepth 100000
set_option maxHeartbeats 4000000
/-! Mi, part F: places, slices, in, truth. -/
namespace Mi
open PySem PySem.Spec PyProof.Rows L2
/-! ### dicts with flat keys -/
def lookK (q : Key) : List (U × U) → Option U
  | [] => none
  | (k, u) :: r => if keyU k = some q then some u else lookK q r
/-- the own heap's dict at a place -/
def dicAt (n : Nat) (m : MH) : Option (List (U × U)) := match m[n]? with
  | some (.dic _ kvs) => some kvs
  | _ => none
section
variable {c : Cn} {r : Gh} {H : Hp} {m : MH}
theorem RKs.look {q : Key} : ∀ {kvs : List (U × U)} {ps : List (Key × V)}, RKs c r H kvs ps → (∀ u, lookK q kvs = some u → ∃ v, valV ps q = some v ∧ RU c r H u v) ∧ (lookK q kvs = none → valV ps q = none)
  | _, _, .nil => ⟨fun _ e => (nomatch e), fun _ => rfl⟩
  | _, _, .cons (k := k) (u := u) (q := q') (x := x) hk hu hs => by
    have ih := RKs.look (q := q) hs
    unfold lookK
    by_cases e : q' = q
    · subst e
      rw [if_pos hk]
      exact ⟨fun u' e' => by cases e'; exact ⟨x, valV_pos rfl, hu⟩, fun e' => nomatch e'⟩
    · have : ¬ keyU k = some q := fun z => e (Option.some.inj (hk.symm.trans z))
      rw [if_neg this, valV_neg e]
      exact ih
theorem kV_of {u : U} {v : V} {q : Key} (ru : RU c r H u v) (h : keyU u = some q) : v = kV q := by
  cases ru <;> first
    | (cases h; rfl)
    | (exact nomatch h)
theorem dic_ok (C : Corr c r m H) {n : Nat} {v : V} {kvs : List (U × U)} (ru : RU c r H (.ref n) v) (e : dicAt n m = some kvs) : ∃ a ps, v = .ref a ∧ Rd H a (.dK ps) ∧ RKs c r H kvs ps := by
  cases ru with
  | ref h =>
    cases q : m[n]? with
    | none => simp only [dicAt, q] at e; cases e
    | some o =>
      obtain ⟨a', ho, h1, h2, h3⟩ := C.at_ n _ q
      rw [h] at h1
      cases h1
      cases o with
      | dic l ks =>
        simp only [dicAt, q] at e
        cases e
        cases h3 with
        | dic hs => exact ⟨_, _, rfl, .inl h2, hs⟩
        | dicL hs => exact ⟨_, _, rfl, .inr ⟨_, h2⟩, hs⟩
      | _ => simp only [dicAt, q] at e; cases e
end
/-! ### places -/
def idxU : B2
  | .tup us, .int i, m => (atI us i).map fun u => (u, m)
  | .str z, .int i, m => if lineOk z.length = true then (atI z.cps.toList i).map fun (k : Nat) => (U.str ⟨#[k]⟩, m) else none
  | .ref n, w, m => (match seqL (.ref n) m, w with
    | some us, .int i => (atI us i).map fun u => (u, m)
    | some _, _ => none
    | none, w => ((dicAt n m).bind fun kvs => (keyU w).bind fun q => lookK q kvs).map fun u => (u, m))
  | .fl us, .int i, m => (atI us i).map fun u => (u, m)
  | .cl us, .int i, m => (atI us i).map fun u => (u, m)
  | _, _, _ => none
theorem RUs.atI {c : Cn} {r : Gh} {H : Hp} {us : List U} {xs : List V} {i : Int} {u : U} (h : RUs c r H us xs) (e : L2.atI us i = some u) : ∃ x, L2.atI xs i = some x ∧ RU c r H u x := by
  unfold L2.atI at e ⊢
  rw [← h.length]
  cases q : ixN us.length i with
  | none => rw [q] at e; cases e
  | some j =>
    rw [q] at e
    obtain ⟨x, e1, e2⟩ := h.get (i := j) e
    exact ⟨x, e1, e2⟩
section
variable {X : Cx}
theorem ix_lst {c : Cn} {g : Gh} {m : MH} {us : List U} {a : Addr} {xs : List V} {i : Int} {H : Hp} {Q : VK} (C : Corr (cn X) g m H) (hq : SqL X.K H a xs) (hs : RUs (cn X) g H us xs) (k : kO (cn X) RU g H Q ((atI us i).map fun u => (u, m))) : rIxL X.K (.ref a) (.int i) H Q := by
  obtain ⟨u, e, k⟩ := map_some (g := id) k
  obtain ⟨x, e1, e2⟩ := hs.atI e
  exact ⟨_, _, _, _, rfl, rfl, hq, e1, k.get C e2⟩
theorem ix_U (hu : X.A.units + 1 < cLine) : IxR X (rB (cn X) idxU) := by
  intro value slice pins s σ H x y v u Q I rx ry h hs
  obtain ⟨g, m, a, b, C, ra, rb, k⟩ := h
  unfold idxU at k
  split at k
  · cases ra with
    | tup h hs' =>
      cases rb
      obtain ⟨z, e, k⟩ := map_some (g := id) k
      obtain ⟨x, e1, e2⟩ := hs'.atI e
      exact ix_tup value slice pins s σ H _ _ v u Q I rx ry ⟨_, _, _, _, rfl, rfl, h.sq, e1, k.get C e2⟩ hs
  · cases ra
    cases rb
    obtain ⟨hl, k⟩ := (show kO (cn X) RU g H Q (if lineOk _ = true then _ else none) from k) |> fun k => (show lineOk _ = true ∧ kO (cn X) RU g H Q ((atI _ _).map _) by
      revert k
      split
      · intro k; exact ⟨by assumption, k⟩
      · intro k; exact k.elim)
    obtain ⟨z, e, k⟩ := map_some (g := fun (k : Nat) => U.str ⟨#[k]⟩) k
    exact ix_str value slice pins s σ H _ _ v u Q I rx ry ⟨_, _, _, rfl, rfl, lineOk_of hl, e, k.get C (.str _)⟩ hs
  · rename_i n
    split at k
    · rename_i us i e
      cases rb
      obtain ⟨l, xs, rfl, h1, h2⟩ := seqL_ok C ra e
      exact ix_list value slice pins s σ H _ _ v u Q I rx ry (ix_lst (c := cn X) C h1 h2 k) hs
    · exact k.elim
    · rename_i b _ _ _
      obtain ⟨z, e, k⟩ := map_some (g := id) k
      cases e1 : dicAt n m with
      | none => rw [e1] at e; cases e
      | some kvs =>
        rw [e1, Option.bind_some] at e
        cases e2 : keyU b with
        | none => rw [e2] at e; cases e
        | some q =>
          rw [e2, Option.bind_some] at e
          obtain ⟨l, ps, rfl, h1, h2⟩ := dic_ok C ra e1
          have hb := kV_of rb e2
          subst hb
          obtain ⟨w, e3, e4⟩ := (RKs.look (q := q) h2).1 _ e
          have hv : v = Value.ref l := rx
          subst hv
          have G : DGet H l (kV q) (some w) := .inl ⟨ps, q, h1, rfl, e3.symm⟩
          exact tail_any (dict_typeIs I G) PySem.F.slot_dict_getitem.lookup (d_getItem hu I G ry fun w' s' I' r' => ⟨w, H, I', r', k.get C e4⟩) hs
  · cases ra with
    | fl h1 h2 h3 hs' =>
      cases rb
      exact ix_list value slice pins s σ H _ _ v u Q I rx ry (ix_lst (c := cn X) C (SqL.of h3) hs' k) hs
  · cases ra with
    | cl h hs' =>
      cases rb
      exact ix_list value slice pins s σ H _ _ v u Q I rx ry (ix_lst (c := cn X) C h.sq hs' k) hs
  · exact k.elim
end
/-- a slice's items -/
def cutU (us : List U) (lo hi : Option Int) : List U := (us.drop (HT.sIx us.length 0 lo)).take (HT.sIx us.length us.length hi - HT.sIx us.length 0 lo)
theorem RUs.cut {c : Cn} {r : Gh} {H : Hp} {us : List U} {xs : List V} (h : RUs c r H us xs) (lo hi : Option Int) : RUs c r H (cutU us lo hi) (cutV xs lo hi) := by
  unfold cutU cutV
  rw [← h.length]
  exact (h.drop _).take _
def slcU (u : U) (lo hi : Option Int) (m : MH) : Option (U × MH) := match u with
  | .tup us => some (.tup (cutU us lo hi), m)
  | .str z => if lineOk z.length = true then some (.str (cutS z lo hi), m) else none
  | u => (seqL u m).map fun us => (.fl (cutU us lo hi), m)
theorem cut_whole {α : Type} {us : List α} {lo hi : Option Int} (h : HT.sIx us.length 0 lo = 0 ∧ HT.sIx us.length us.length hi = us.length) : (us.drop (HT.sIx us.length 0 lo)).take (HT.sIx us.length us.length hi - HT.sIx us.length 0 lo) = us := by
  rw [h.1, h.2, List.drop_zero, Nat.sub_zero, List.take_length]
section
variable {X : Cx}
theorem sl_U : SlR X (fun x lo hi H Q => ∃ r m u, Corr (cn X) r m H ∧ RU (cn X) r H u x ∧ kO (cn X) RU r H Q (slcU u lo hi m)) := by
  intro pins s σ H x v vl vu lo hi sl Q I rx hs pl pu h
  obtain ⟨g, m, a, C, ra, k⟩ := h
  unfold slcU at k
  split at k
  · cases ra with
    | tup h hs' =>
      refine sl_tupA pins s σ H _ v vl vu lo hi sl Q I rx hs pl pu ⟨_, _, rfl, h.sq, fun w => ?_, fun _ p hp => ?_⟩
      · have e : cutU _ lo hi = _ := cut_whole (by rw [hs'.length]; exact w)
        rw [e] at k
        exact k.get C (.tup h hs')
      · obtain ⟨C1, e1, n1, n2⟩ := C.beside (o := .tup _) hp
        exact k _ _ _ e1 C1 (.tup (.inl ⟨n1, n2, Rd.of upd_same⟩) ((hs'.cut lo hi).ext e1.w))
  · cases ra
    obtain ⟨hl, k⟩ := k.ite
    exact sl_str pins s σ H _ v vl vu lo hi sl Q I rx hs pl pu ⟨_, rfl, lineOk_of hl, k.get C (.str _)⟩
  · obtain ⟨us, e, k⟩ := map_some (α := List U) (g := fun us => U.fl (cutU us lo hi)) k
    obtain ⟨l, xs, rfl, h1, h2⟩ := seqL_ok C ra e
    refine sl_list pins s σ H _ v vl vu lo hi sl Q I rx hs pl pu ⟨_, _, rfl, h1, fun p hp => ?_⟩
    obtain ⟨C1, e1, n1, n2⟩ := C.beside (o := .lst _) hp
    exact k _ _ _ e1 C1 (.fl n1 n2 upd_same ((h2.cut lo hi).ext e1.w))
end
/-- a slice's part -/
def cPart (e : Option E1) : Fn1 (Option Int) := match e with
  | none => fun _ m => .ok none m
  | some f => fun t m => (f t m).bind fun u m1 => match u with
    | .int i => .ok (some i) m1
    | _ => .bad
def cSlice (a : E1) (lo hi : Option E1) : E1 := fun t m => (a t m).bind fun u m1 => (cPart lo t m1).bind fun l m2 => (cPart hi t m2).bind fun h m3 => ofO (slcU u l h m3)
def PRel : Rel (Option Int) (Option Int) := fun _ _ _ a b => a = b
section
variable {X : Cx} {W : WX} {e : Expr} {lo hi : Option Expr} {fe : E1} {fl fh : Option E1} {pos p2 : Pos}
def POk (X : Cx) (W : WX) (e : Option Expr) (f : Option E1) : Prop := PO X e (tG (cn X) PRel W (cPart f))
theorem po_none' : POk X W none none := ⟨fun pins s σ H Q I ⟨r, m, t, C, E, k⟩ => po_none.run pins s σ H Q I (kE.ok k C rfl)⟩
theorem po_some' (h : PE X e (tE (cn X) W fe)) : POk X W (some e) (some fe) := by
  refine ⟨fun pins s σ H Q I ⟨r, m, t, C, E, k⟩ => (po_some h).run pins s σ H Q I ⟨r, m, t, C, E, (kE.bind k).imp ?_⟩⟩
  rintro x H1 ⟨r1, m1, u, e1, C1, ru, k1⟩
  cases ru with
  | int i => exact ⟨i, rfl, kE.ok (R := PRel) k1 C1 rfl⟩
  | _ => exact k1.elim
theorem mi_slice (he : PE X e (tE (cn X) W fe)) (hl : POk X W lo fl) (hh : POk X W hi fh) : PE X (.Subscript e (.Slice lo hi none p2) pos) (tE (cn X) W (cSlice fe fl fh)) := by
  refine (pe_slice sl_U he hl hh).weak fun s H Q ⟨r, m, t, C, E, k⟩ => ⟨r, m, t, C, E, (kE.bind k).imp ?_⟩
  rintro x H1 ⟨r1, m1, u, e1, C1, ru, k1⟩
  refine ⟨r1, m1, t, C1, E.ext e1.w, (kE.bind k1).imp ?_⟩
  rintro y H2 ⟨r2, m2, w, e2, C2, rfl, k2⟩
  refine ⟨r2, m2, t, C2, (E.ext e1.w).ext e2.w, (kE.bind k2).imp ?_⟩
  rintro y H3 ⟨r3, m3, w3, e3, C3, rfl, k3⟩
  exact ⟨r3, m3, u, C3, (ru.ext e2.w).ext e3.w, kE_ofO k3⟩
def noSlice : Expr → Bool
  | .Slice _ _ _ _ => false
  | _ => true
theorem plainIx {b : Expr} (h : noSlice b = true) : PlainIx b := by
  intro o i
  cases b <;> first | rfl | (exact nomatch (show false = true from h))
theorem mi_idx {b : Expr} {fb : E1} (hu : X.A.units + 1 < cLine) (hb0 : noSlice b = true) (ha : PE X e (tE (cn X) W fe)) (hb : PE X b (tE (cn X) W fb)) : PE X (.Subscript e b pos) (tE (cn X) W (cBin idxU fe fb)) := by
  refine (pe_ix (ix_U hu) ha hb (plainIx hb0)).weak fun s H Q ⟨r, m, t, C, E, k⟩ => ⟨r, m, t, C, E, (kE.bind k).imp ?_⟩
  rintro x H1 ⟨r1, m1, u, e1, C1, ru, k1⟩
  refine ⟨r1, m1, t, C1, E.ext e1.w, (kE.bind k1).imp ?_⟩
  rintro y H2 ⟨r2, m2, w, e2, C2, rw2, k2⟩
  exact ⟨r2, m2, u, w, C2, ru.ext e2.w, rw2, kE_ofO k2⟩
end
/-! ### in -/
def strIn (x z : Str) : Bool := if x.cps.size = 1 then decide (x.cps.getD 0 0 ∈ z.cps.toList) else !(Builtin.Str.occurrences z x 0 z.length 1).isEmpty
theorem strIn_eq (x z : Str) : strIn x z = !(Builtin.Str.occurrences z x 0 z.length 1).isEmpty := by
  unfold strIn
  split
  · rename_i h
    obtain ⟨⟨l⟩⟩ := x
    match l, h with
    | [k], _ => exact (PySem.StrLaws.found_one z k).symm
  · rfl
def flatU : U → Bool
  | .non => true
  | .bl _ => true
  | .int _ => true
  | .str _ => true
  | _ => false
def inB (x y : U) (m : MH) : Option Bool := match y with
  | .str z => (match x with
    | .str x => some (strIn x z)
    | _ => none)
  | .tup us => if (flatU x && us.all flatU) = true then some (us.any fun z => PyData.eqv (toD z) (toD x)) else none
  | y => (match seqL y m with
    | some us => if (okD x && okD (.fl us)) = true then some (us.any fun z => PyData.eqv (toD z) (toD x)) else none
    | none => (match y with
      | .ref n => (dicAt n m).bind fun kvs => (keyU x).map fun q => (lookK q kvs).isSome
      | _ => none))
def inU : B2 := fun x y m => (inB x y m).map fun b => (.bl b, m)
def ninU : B2 := fun x y m => (inB x y m).map fun b => (.bl (!b), m)
section
variable {c : Cn} {r : Gh} {H : Hp} {m : MH}
theorem flat_ok {u : U} {v : V} (ru : RU c r H u v) (h : flatU u = true) : flatV v = true := by
  cases ru <;> first | rfl | (exact nomatch (show false = true from h))
theorem flats_ok : ∀ {us : List U} {vs : List V}, RUs c r H us vs → us.all flatU = true → vs.all flatV = true
  | _, _, .nil, _ => rfl
  | _, _, .cons h hs, e => by
    rw [List.all_cons, Bool.and_eq_true] at e ⊢
    exact ⟨flat_ok h e.1, flats_ok hs e.2⟩
theorem eqV_ok {u w : U} {v y : V} (ru : RU c r H u v) (rw' : RU c r H w y) (h : flatU u = true) (h' : flatU w = true) : eqV v y = PyData.eqv (toD u) (toD w) := by
  cases ru <;> first
    | (exact nomatch (show false = true from h))
    | (cases rw' <;> first
        | rfl
        | (exact nomatch (show false = true from h')))
theorem inV_ok {u : U} {v : V} (ru : RU c r H u v) (h : flatU u = true) : ∀ {us : List U} {vs : List V}, RUs c r H us vs → us.all flatU = true → inV v vs = us.any fun z => PyData.eqv (toD z) (toD u)
  | _, _, .nil, _ => rfl
  | _, _, .cons (us := us) (xs := xs) q hs, e => by
    rw [List.all_cons, Bool.and_eq_true] at e
    unfold inV
    rw [List.any_cons, List.any_cons, eqV_ok q ru e.1 h]
    have ih := inV_ok ru h hs e.2
    unfold inV at ih
    rw [ih]
end
theorem any_toDs (p : PyData → Bool) : ∀ us : List U, (toDs us).any p = us.any fun z => p (toD z)
  | [] => rfl
  | u :: us => by
    show (toD u :: toDs us).any p = _
    rw [List.any_cons, List.any_cons, any_toDs p us]
section
variable {X : Cx}
theorem op_in_any (neg : Bool) {op : CmpOp} (hop : op = if neg = true then .NotIn else .In) (hu : X.A.units + 65 < cLine) : OpR X (compareOp op) (rB (cn X) (fun x y m => (inB x y m).map fun b => (.bl (if neg = true then !b else b), m))) := by
  intro pins s σ H x y v u Q I rx ry h
  obtain ⟨g, m, a, b, C, ra, rb, k⟩ := h
  obtain ⟨ans, e, k⟩ := map_some (g := fun b => U.bl (if neg = true then !b else b)) k
  have kq : Q (.bl (if neg = true then !ans else ans)) H := k.get C (.bl _)
  clear k
  have lists : ∀ us, seqL b m = some us → (if (okD a && okD (.fl us)) = true then some (us.any fun z => PyData.eqv (toD z) (toD a)) else none) = some ans → wpAny (model X.prog X.w) X.A (compareOp op v u) (EP X pins σ Q) X.xe s := by
    intro us e1 e
    by_cases hk : (okD a && okD (.fl us)) = true
    · rw [if_pos hk] at e
      rw [Bool.and_eq_true] at hk
      obtain ⟨l, xs, rfl, h1, h2⟩ := seqL_ok C rb e1
      have l1 : layU a = true := (Bool.and_eq_true _ _ ▸ hk.1 : _ ∧ _).1
      have l2 : layU (.fl us) = true := (Bool.and_eq_true _ _ ▸ hk.2 : _ ∧ _).1
      have d1 : Dp X.K H x (toD a) := RU.dp l1 ra
      have d2 : Dp X.K H (.ref l) (.list (toDs us)) := .lst h1 (RUs.dp (us := us) l2 h2)
      have s1 := shaped_of hk.1
      have s2 : SeqAt.shaped (.list (toDs us)) = true := shaped_of hk.2
      cases neg with
      | true => subst hop; exact op_notInD hu pins s σ H _ _ v u Q I rx ry ⟨_, _, d1, d2, s1, s2, by rw [any_toDs, Option.some.inj e]; exact kq⟩
      | false => subst hop; exact op_inD hu pins s σ H _ _ v u Q I rx ry ⟨_, _, d1, d2, s1, s2, by rw [any_toDs, Option.some.inj e]; exact kq⟩
    · rw [if_neg hk] at e; cases e
  unfold inB at e
  split at e
  · split at e
    · cases e
      cases ra; cases rb
      rw [strIn_eq] at kq
      cases neg with
      | true => subst hop; exact op_notin_str pins s σ H _ _ v u Q I rx ry ⟨_, _, rfl, rfl, kq⟩
      | false => subst hop; exact op_in_str pins s σ H _ _ v u Q I rx ry ⟨_, _, rfl, rfl, kq⟩
    · cases e
  · rename_i us
    by_cases hk : (flatU a && us.all flatU) = true
    · rw [if_pos hk] at e
      rw [Bool.and_eq_true] at hk
      cases rb with
      | tup h hs =>
        have e2 := inV_ok ra hk.1 hs hk.2
        have e3 := e2.trans (Option.some.inj e)
        cases neg with
        | true => subst hop; exact op_notIn_seq pins s σ H _ _ v u Q I rx ry ⟨_, _, rfl, .inr h.sq, flat_ok ra hk.1, flats_ok hs hk.2, by rw [e3]; exact kq⟩
        | false => subst hop; exact op_in_seq pins s σ H _ _ v u Q I rx ry ⟨_, _, rfl, .inr h.sq, flat_ok ra hk.1, flats_ok hs hk.2, by rw [e3]; exact kq⟩
    · rw [if_neg hk] at e; cases e
  · split at e
    · rename_i us e1
      exact lists us e1 e
    · split at e
      · rename_i n _ _ _
        cases e1 : dicAt n m with
        | none => rw [e1] at e; cases e
        | some kvs =>
          rw [e1, Option.bind_some, Option.map_eq_some_iff] at e
          obtain ⟨q, e2, rfl⟩ := e
          obtain ⟨l, ps, rfl, h1, h2⟩ := dic_ok C rb e1
          have hb := kV_of ra e2
          subst hb
          have hv : u = Value.ref l := ry
          subst hv
          have G : DGet H l (kV q) (valV ps q) := .inl ⟨ps, q, h1, rfl, rfl⟩
          have es : (valV ps q).isSome = (lookK q kvs).isSome := by
            cases e5 : lookK q kvs with
            | none => rw [(RKs.look (q := q) h2).2 e5]; rfl
            | some w => obtain ⟨z, e6, _⟩ := (RKs.look (q := q) h2).1 w e5; rw [e6]; rfl
          cases neg with
          | true => subst hop; exact d_notIn (by omega) I G rx fun s' I' => ⟨.bl (!(valV ps q).isSome), H, I', rfl, by rw [es]; exact kq⟩
          | false => subst hop; exact d_in (by omega) I G rx fun s' I' => ⟨.bl (valV ps q).isSome, H, I', rfl, by rw [es]; exact kq⟩
      · cases e
theorem op_inU (hu : X.A.units + 65 < cLine) : OpR X (compareOp .In) (rB (cn X) inU) := op_in_any false rfl hu
theorem op_ninU (hu : X.A.units + 65 < cLine) : OpR X (compareOp .NotIn) (rB (cn X) ninU) := op_in_any true rfl hu
end
/-! ### truth -/
def truU : U → MH → Option Bool
  | .non, _ => some false
  | .bl b, _ => some b
  | .int i, _ => some (i != 0)
  | .str x, _ => if lineOk x.length = true then some ((x.length : Int) != 0) else none
  | .tup us, _ => some (!us.isEmpty)
  | .fl us, _ => some (!us.isEmpty)
  | .cl us, _ => some (!us.isEmpty)
  | .fd _ us, _ => some (!us.isEmpty)
  | .ref n, m => (match m[n]? with
    | some (.lst us) => some (!us.isEmpty)
    | some (.dic false kvs) => some (!kvs.isEmpty)
    | _ => none)
  | _, _ => none
def cTruth (a : E1) : Fn1 Bool := fun t m => (a t m).bind fun u m1 => ofO ((truU u m1).map fun b => (b, m1))
theorem RUs.empty {c : Cn} {r : Gh} {H : Hp} {us : List U} {xs : List V} (h : RUs c r H us xs) : us.isEmpty = xs.isEmpty := by cases h <;> rfl
theorem tru_U {c : Cn} {r : Gh} {H : Hp} {m : MH} (C : Corr c r m H) {u : U} {v : V} {b : Bool} (ru : RU c r H u v) (e : truU u m = some b) : TruV c.K v H b := by
  cases ru with
  | non => cases e; rfl
  | bl b => cases e; rfl
  | int i => cases e; rfl
  | str x =>
    simp only [truU] at e
    by_cases h : lineOk x.length = true
    · rw [if_pos h] at e; cases e; exact ⟨lineOk_of h, rfl⟩
    · rw [if_neg h] at e; cases e
  | tup h hs => cases e; exact .inr (.inl ⟨_, h.sq, by rw [hs.empty]⟩)
  | fl h1 h2 h3 hs => cases e; exact .inl ⟨_, SqL.of h3, by rw [hs.empty]⟩
  | cl h hs => cases e; exact .inl ⟨_, h.sq, by rw [hs.empty]⟩
  | @fd ks us a xs h1 h2 h3 h4 h5 hs =>
    cases e
    refine .inr (.inr ⟨_, h3, ?_⟩)
    have e9 : (ks.zip xs).length = us.length := by rw [List.length_zip, ← hs.length, h4, Nat.min_self]
    cases us with
    | nil => rw [List.eq_nil_of_length_eq_zero e9]; rfl
    | cons u us => cases e8 : ks.zip xs with
      | nil => rw [e8] at e9; cases e9
      | cons _ _ => rfl
  | @ref n a h =>
    cases q : m[n]? with
    | none => simp only [truU, q] at e; cases e
    | some o =>
      obtain ⟨a', ho, h1, h2, h3⟩ := C.at_ n _ q
      rw [h] at h1
      cases h1
      cases o with
      | lst us => simp only [truU, q] at e; cases e; cases h3 with | lst hs => exact .inl ⟨_, SqL.of h2, by rw [hs.empty]⟩
      | dic l kvs =>
        cases l with
        | false => simp only [truU, q] at e; cases e; cases h3 with | dic hs => exact .inr (.inr ⟨_, h2, by cases hs <;> rfl⟩)
        | true => simp only [truU, q] at e; cases e
      | ins x fs => simp only [truU, q] at e; cases e
  | _ => cases e
theorem mi_truth {X : Cx} {W : WX} {a : Expr} {fa : E1} (ha : PE X a (tE (cn X) W fa)) (he : ∀ whole, isTrue a X.env whole = (do let v ← whole; standAt a.pos; holding [v] (truthy v))) : PT X a (tTs (cn X) W (cTruth fa)) := by
  refine (pt_truth ha he).weak fun s H Q ⟨r, m, t, C, E, k⟩ => ⟨r, m, t, C, E, (kE.bind k).imp ?_⟩
  rintro x H1 ⟨r1, m1, u, e1, C1, ru, k1⟩
  cases e : truU u m1 with
  | none => rw [e] at k1; exact k1.elim
  | some b => rw [e] at k1; exact ⟨b, tru_U C1 ru e, kE.ok (R := Bl) k1 C1 rfl⟩
end Mi
set_option Elab.async false
set_option linter.all false
set_option maxRecDepth 100000
set_option maxHeartbeats 4000000
/-! Mi, part G: calls of the program's own defs, classes and methods. -/
namespace Mi
open PySem PySem.Spec PyProof.Rows L2
/-- the promise of a def that does f -/
def spU (c : Cn) (n : Nat) (f : List U → MH → Out U) : Sp := fun vs H Q E => ∃ r m us, Corr c r m H ∧ RUs c r H us vs ∧ us.length = n ∧ kE c RU (fun cls d _ H' => E cls d H') r H [] Q (f us m)
theorem spU_len {c : Cn} {n : Nat} {f : List U → MH → Out U} {vs : List V} {H : Hp} {Q : VK} {E : XK} (h : spU c n f vs H Q E) : vs.length = n := by
  obtain ⟨r, m, us, C, R, l, _⟩ := h
  exact R.length.symm.trans l
/-- a call by values: n positional ones, keywords ks -/
def CallW (X : Cx) (W : WX) (fv : Value) (n : Nat) (ks : List Str) (f : List U → List U → MH → Out U) : Prop :=
  ∀ (pins : List (Addr × Obj)) (s : Shared) (σ : L2.St) (H : Hp) (us ws : List Value) (vs zs : List V) (Q : VK), Inv X pins σ H s → Vals vs us → Vals zs ws → zs.length = ks.length →
    (∃ r m as bs, Corr (cn X) r m H ∧ RUs (cn X) r H as vs ∧ RUs (cn X) r H bs zs ∧ as.length = n ∧ kE (cn X) RU W r H σ Q (f as bs m)) → wpAny (model X.prog X.w) X.A (call fv us (ks.zip ws)) (EP X pins σ Q) X.xe s
/-- how a call binds, by own values -/
structure BindU (c : Cn) (fd : FuncData) (ps : List Str) (n : Nat) (ks : List Str) (g : List U → List U → List U) : Prop where
  ex : ∃ (gv : List Value → List Value → List Value) (gV : List V → List V → List V), KBn c.K fd ps n ks gv gV ∧
    ∀ (r : Gh) (H : Hp) (as bs : List U) (vs zs : List V), RUs c r H as vs → RUs c r H bs zs → as.length = n → bs.length = ks.length → RUs c r H (g as bs) (gV vs zs) ∧ (g as bs).length = ps.length
/-- what a def promises where no repr is under way -/
structure FnG (P : Program) (w : World) (K : PySem.W.Frag) (mg : Str → Option Value) (base : Heap) (k : Nat) (f : Addr) (fd : FuncData) (ps : List Str) (sp : Sp) : Prop where
  len : ∀ vs H Q E, sp vs H Q E → vs.length = ps.length
  run : ∀ (A : Around) (outer : List Env) (s : Shared) (H : Hp) (args : Args) (us : List Value) (vs : List V) (Q : VK) (E : XK), A.guards = some [] → Room k A → Env0 P w K mg base A outer s H → BindsTo s fd args (ps.zip us) → Vals vs us → sp vs H Q E →
    codeAny (model P w) A (.call (.ref f) args) (CR (L2.CX P w) outer P w H s Q E) s
theorem FnG.mono {P : Program} {w : World} {K : PySem.W.Frag} {mg : Str → Option Value} {base : Heap} {j k : Nat} {f : Addr} {fd : FuncData} {ps : List Str} {sp : Sp} (F : FnG P w K mg base j f fd ps sp) (h : j ≤ k) : FnG P w K mg base k f fd ps sp :=
  ⟨F.len, fun A outer s H args us vs Q E hg hr => F.run A outer s H args us vs Q E hg (hr.mono h)⟩
section
variable {X : Cx} {W : WX}
theorem call_end {pins : List (Addr × Obj)} {σ : L2.St} {H : Hp} {s : Shared} {Q : VK} (tk : Takes X W) (I : Inv X pins σ H s) {r : Result} {s' : Shared} (hq : CR (L2.CX X.prog X.w) X.stack X.prog X.w H s Q (WE W σ) r s') :
    match r with
    | .ok (.ret u) => EP X pins σ Q u s'
    | .ok _ => False
    | .error e => X.xe e s' := by
  cases r with
  | error e => exact passAt tk σ pins H s e s' I hq
  | ok fl =>
    cases fl with
    | ret u => exact I.after hq
    | next => exact hq
    | brk => exact hq
    | cont => exact hq
theorem callW_fn {k n : Nat} {f : Addr} {fd : FuncData} {ps ks : List Str} {phi : List U → MH → Out U} {g : List U → List U → List U} (tk : Takes X W)
    (F : FnG X.prog X.w X.K X.mg X.base k f fd ps (spU (cn X) ps.length phi)) (gd : X.A.guards = some []) (hr : Room k X.A) (hb : BindU (cn X) fd ps n ks g) :
    CallW X W (.ref f) n ks (fun as bs m => phi (g as bs) m) := by
  intro pins s σ H us ws vs zs Q I rv rz lz h
  obtain ⟨r, m, as, bs, C, R1, R2, la, k1⟩ := h
  obtain ⟨gv, gV, KB, hg⟩ := hb.ex
  have l1 : vs.length = n := R1.length.symm.trans la
  have l2 : bs.length = ks.length := R2.length.trans lz
  obtain ⟨R3, l3⟩ := hg r H as bs vs zs R1 R2 la l2
  have hsp : spU (cn X) ps.length phi (gV vs zs) H Q (WE W σ) := by
    refine ⟨r, m, g as bs, C, R3, l3, ?_⟩
    dsimp only at k1
    cases e : phi (g as bs) m with
    | ok u m' => rw [e] at k1; exact k1
    | err x m' => rw [e] at k1; exact k1
    | bad => rw [e] at k1; exact (show False from k1).elim
  refine wpAny_call (codeAny_mono (F.run X.A X.stack s H ⟨us, ks.zip ws⟩ (gv us ws) (gV vs zs) Q (WE W σ) gd hr I.env0 (KB.to s us ws I.kIn (rv.length.symm.trans l1) (rz.length.symm.trans lz)) (KB.rel rv rz) hsp) fun r s' hq => ?_)
  have q := call_end tk I hq
  cases r with
  | error e => exact q
  | ok fl => cases fl <;> exact q
/-- what making an instance does: the new thing, then its __init__ -/
def makeF (x : Str) (phi : List U → MH → Out U) (g : List U → List U → List U) : List U → List U → MH → Out U := fun as bs m =>
  (phi (g (.ref m.length :: as) bs) (m ++ [.ins x []])).bind fun u m1 => match u with
    | .non => .ok (.ref m.length) m1
    | _ => .bad
theorem callW_make {k n : Nat} {f C : Addr} {fd : FuncData} {ps ks : List Str} {phi : List U → MH → Out U} {g : List U → List U → List U} {x : Str} (tk : Takes X W) (M : Mk X.K C f) (hx : X.mg x = some (.ref C))
    (F : FnG X.prog X.w X.K X.mg X.base k f fd ps (spU (cn X) ps.length phi)) (gd : X.A.guards = some []) (hr : Room (k + 1) X.A) (hb : BindU (cn X) fd ps (n + 1) ks g) :
    CallW X W (.ref C) n ks (makeF x phi g) := by
  intro pins s σ H us ws vs zs Q I rv rz lz h
  obtain ⟨r, m, as, bs, Co, R1, R2, la, k1⟩ := h
  obtain ⟨gv, gV, KB, hg⟩ := hb.ex
  have l1 : vs.length = n := R1.length.symm.trans la
  have l2 : bs.length = ks.length := R2.length.trans lz
  have fx : H (s.heap.objs.size + 1) = none := I.hok.fresh (Nat.le_succ _)
  have fdx : H s.heap.objs.size = none := I.hok.fresh (Nat.le_refl _)
  have nxd : s.heap.objs.size ≠ s.heap.objs.size + 1 := Nat.ne_of_lt (Nat.lt_succ_self _)
  have I2 := Inv.made (C := C) I
  obtain ⟨C1, e1, _, _⟩ := Co.beside (o := .own (s.heap.objs.size + 1)) fdx
  have fx1 : (upd H s.heap.objs.size (.own (s.heap.objs.size + 1))) (s.heap.objs.size + 1) = none := by rw [upd_ne nxd.symm]; exact fx
  obtain ⟨C2, e2, l3⟩ := C1.new (o := .ins x []) (ho := .ins C s.heap.objs.size []) fx1 (.ins hx .nil)
  have e12 := e1.trans e2
  have RR : RUs (cn X) ⟨r.r ++ [s.heap.objs.size + 1], r.z⟩ _ (.ref m.length :: as) (.ref (s.heap.objs.size + 1) :: vs) := .cons (.ref l3) (R1.ext e12.w)
  obtain ⟨R3, l4⟩ := hg _ _ (.ref m.length :: as) bs (.ref (s.heap.objs.size + 1) :: vs) zs RR (R2.ext e12.w) (congrArg Nat.succ la) l2
  have k2 := kE.from k1 e12
  unfold makeF at k2
  have hsp : spU (cn X) ps.length phi (gV (.ref (s.heap.objs.size + 1) :: vs) zs) (upd (upd H s.heap.objs.size (.own (s.heap.objs.size + 1))) (s.heap.objs.size + 1) (.ins C s.heap.objs.size []))
      (fun v H2 => v = .non ∧ Q (.ref (s.heap.objs.size + 1)) H2) (WE W σ) := by
    refine ⟨_, _, _, C2, R3, l4, ?_⟩
    cases e : phi (g (.ref m.length :: as) bs) (m ++ [.ins x []]) with
    | ok u m' =>
      rw [e] at k2
      intro r' H' v e3 C3 ru
      rw [Out.bind_ok] at k2
      cases u with
      | non => cases ru; exact ⟨rfl, k2 r' H' _ e3 C3 (.ref (pre_get e3.w.pre l3))⟩
      | _ => exact (show False from k2).elim
    | err x m' => rw [e] at k2; exact k2
    | bad => rw [e] at k2; exact k2.elim
  have r1 : Vals (V.ref (s.heap.objs.size + 1) :: vs) (Value.ref (s.heap.objs.size + 1) :: us) := .cons rfl rv
  have q1 : (Value.ref (s.heap.objs.size + 1) :: us).length = n + 1 := r1.length.symm.trans (congrArg Nat.succ l1)
  refine wpAny_call (make_map (f := f) I.kIn M.makes M.init (beq_iff_eq.mp M.fn) (codeAny_mono (F.run _ X.stack _ _ ⟨Value.ref (s.heap.objs.size + 1) :: us, ks.zip ws⟩ (gv (Value.ref (s.heap.objs.size + 1) :: us) ws) _ _ (WE W σ) (show pushGuards (Code.guards (.builtin "type.__call__" ⟨.ref C :: us, ks.zip ws⟩)) X.A.guards = some [] by rw [gd]; rfl) (hr.make C us (ks.zip ws))
    (I2.env0.make C us (ks.zip ws)) (KB.to _ (Value.ref (s.heap.objs.size + 1) :: us) ws I2.kIn q1 (rz.length.symm.trans lz)) (KB.rel r1 rz) hsp) fun r s' hq' => ?_))
  have q := call_end tk I2 hq'
  cases r with
  | error e => exact q
  | ok fl =>
    cases fl with
    | ret u =>
      obtain ⟨v, H', I3, rv, ev, q3⟩ := q
      subst ev
      exact ⟨rv, ⟨V.ref (s.heap.objs.size + 1), H', I3, rfl, q3⟩⟩
    | next => exact q
    | brk => exact q
    | cont => exact q
end
/-! ### by name -/
def kwNames : List Keyword → Option (List Str)
  | [] => some []
  | ⟨some x, _, _⟩ :: r => (kwNames r).map (x :: ·)
  | ⟨none, _, _⟩ :: _ => none
theorem kw_ok {pos : Pos} {env : Env} : ∀ {kws : List Keyword} {ks : List Str}, kwNames kws = some ks → (backToKw pos (keywordEach kws env)).all (·.1.isSome) = true ∧ (backToKw pos (keywordEach kws env)).filterMap (·.1) = ks ∧ (backToKw pos (keywordEach kws env)).any (·.1.isNone) = false
  | [], _, h => by cases h; exact ⟨rfl, rfl, rfl⟩
  | ⟨some x, e, p⟩ :: r, ks, h => by
    simp only [kwNames, Option.map_eq_some_iff] at h
    obtain ⟨l, h1, rfl⟩ := h
    obtain ⟨a, b, d⟩ := kw_ok (pos := pos) (env := env) h1
    exact ⟨a, congrArg (x :: ·) b, d⟩
  | ⟨none, _, _⟩ :: _, _, h => by cases h
theorem kw_len : ∀ {kws : List Keyword} {ks : List Str}, kwNames kws = some ks → kws.length = ks.length
  | [], _, h => by cases h; rfl
  | ⟨some x, e, p⟩ :: r, ks, h => by
    simp only [kwNames, Option.map_eq_some_iff] at h
    obtain ⟨l, h1, rfl⟩ := h
    exact congrArg (· + 1) (kw_len h1)
  | ⟨none, _, _⟩ :: _, _, h => by cases h
def cCallK (n k : Nat) (f : List U → List U → MH → Out U) (a b : Fn1 (List U)) : E1 := fun t m => (a t m).bind fun us m1 => (b t m1).bind fun zs m2 => if us.length = n ∧ zs.length = k then f us zs m2 else .bad
section
variable {X : Cx} {W : WX} {x : Str} {p pos : Pos} {args : List Expr} {kws : List Keyword} {fa fb : Fn1 (List U)} {ks : List Str}
def PKw (X : Cx) (W : WX) (kws : List Keyword) (f : Fn1 (List U)) : Prop := PK X kws (tAr (cn X) W f)
theorem pkw_nil : PKw X W [] cNil := ⟨fun pos pins s σ H Q I ⟨r, m, t, C, E, k⟩ => pk_nil.run pos pins s σ H Q I (kE.ok k C .nil)⟩
theorem pkw_cons {nm : Option Str} {e : Expr} {kp : Pos} {fe : E1} (he : PE X e (tE (cn X) W fe)) (hr : PKw X W kws fb) : PKw X W (⟨nm, e, kp⟩ :: kws) (cCons fe fb) := by
  refine ⟨fun pos pins s σ H Q I ⟨r, m, t, C, E, k⟩ => (pk_cons he hr).run pos pins s σ H Q I ⟨r, m, t, C, E, (kE.bind k).imp ?_⟩⟩
  rintro x H1 ⟨r1, m1, u, e1, C1, ru, k1⟩
  refine ⟨r1, m1, t, C1, E.ext e1.w, (kE.bind k1).imp ?_⟩
  rintro y H2 ⟨r2, m2, w, e2, C2, rw2, k2⟩
  exact kE.ok k2 C2 (.cons (ru.ext e2.w) rw2)
/-- the arguments and keywords of a call, then the call -/
theorem args_then {f : Value} {first : List Value} {n : Nat} {phi : List U → List U → MH → Out U} (hs : args.all noStar = true) (hk : kwNames kws = some ks) (ha : PA X args (tAr (cn X) W fa)) (h0 : args = [] → fa = cNil) (hb : PKw X W kws fb)
    {pins : List (Addr × Obj)} {s : Shared} {σ : L2.St} {H : Hp} {Q : VK} (I : Inv X pins σ H s) (kf : PySem.W.keepIn X.K f = true) {r : Gh} {m : MH} {t : Env1} (C : Corr (cn X) r m H) (E : EnvR (cn X) r H t σ) (k : kE (cn X) RU W r H σ Q (cCallK n ks.length phi fa fb t m))
    (h : ∀ (s : Shared) (H1 : Hp) (us ws : List Value) (vs zs : List V), Inv X pins σ H1 s → Vals vs us → Vals zs ws → zs.length = ks.length →
      (∃ r1 m1 as bs, Ext r H r1 H1 ∧ Corr (cn X) r1 m1 H1 ∧ RUs (cn X) r1 H1 as vs ∧ RUs (cn X) r1 H1 bs zs ∧ as.length = n ∧ kE (cn X) RU W r1 H1 σ Q (phi as bs m1)) → wpAny (model X.prog X.w) X.A (call f (first ++ us) (ks.zip ws)) (EP X pins σ Q) X.xe s) :
    wpAny (model X.prog X.w) X.A (callWith pos f first (backTo pos (starEach args X.env)) (backToKw pos (keywordEach kws X.env))) (EP X pins σ Q) X.xe s := by
  obtain ⟨k1, k2, k3⟩ := kw_ok (pos := pos) (env := X.env) hk
  have go : ∀ (us : List Value) (s1 : Shared), AP X pins σ (Mid (cn X) RUs r H fun r1 m1 as vs H1 => kE (cn X) RU W r1 H1 σ Q ((fb t m1).bind fun zs m2 => if as.length = n ∧ zs.length = ks.length then phi as zs m2 else .bad)) us s1 →
      wpAny (model X.prog X.w) X.A (evalAll ((backToKw pos (keywordEach kws X.env)).map (·.2))) (fun ws s₂ => X.K.In s₂.heap ∧ wpAny (model X.prog X.w) X.A (call f (first ++ us) (((backToKw pos (keywordEach kws X.env)).filterMap (·.1)).zip ws)) (EP X pins σ Q) X.xe s₂) X.xe s1 := by
    rintro us s1 ⟨vs, H1, I1, rv, r1, m1, as, e1, C1, R1, kk⟩
    refine thn (hb.run pos pins s1 σ H1 _ I1 ⟨r1, m1, t, C1, E.ext e1.w, kE.bind kk⟩) fun ws s2 ⟨zs, H2, I2, rz, r2, m2, bs, e2, C2, R2, k4⟩ => ⟨I2.kIn, ?_⟩
    rw [k2]
    have k5 : kE (cn X) RU W r2 H2 σ Q (if as.length = n ∧ bs.length = ks.length then phi as bs m2 else .bad) := k4
    by_cases hn : as.length = n ∧ bs.length = ks.length
    · rw [if_pos hn] at k5
      exact h s2 H2 us ws vs zs I2 rv rz (R2.length.symm.trans hn.2) ⟨r2, m2, as, bs, e1.trans e2, C2, R1.ext e2.w, R2, hn.1, k5⟩
    · rw [if_neg hn] at k5; exact (show False from k5).elim
  cases args with
  | nil =>
    refine PySem.W.callWith_KW0 (h₀ := X.base) I.ok.mod.kin kf k1 (go [] s ⟨[], H, I, .nil, r, m, [], Ext.refl r H, C, .nil, ?_⟩) (by show (false || _) = false; rw [k3]; rfl)
    rw [h0 rfl] at k
    exact k
  | cons e es =>
    have hs' : noStar e = true ∧ es.all noStar = true := by rw [List.all_cons, Bool.and_eq_true] at hs; exact hs
    refine PySem.W.callWith_KW (h₀ := X.base) I.ok.mod.kin kf k1 (thn (ha.run pos pins s σ H _ I ⟨r, m, t, C, E, kE.bind k⟩) fun us s1 q => go us s1 q) ?_ (star_cons hs'.1)
    rw [k3, Bool.or_false]
    exact star_plain hs
/-- f(..), C(..) of a module's def or class -/
theorem mi_call {f : Addr} {n : Nat} {phi : List U → List U → MH → Out U} (hf : CallW X W (.ref f) n ks phi) (hg : Gl X x) (hm : X.mg x = some (.ref f)) (kf : PySem.W.keepIn X.K (.ref f) = true) (hdb : (x == ("__debug__" : Str)) = false)
    (hs : args.all noStar = true) (hk : kwNames kws = some ks) (ha : PA X args (tAr (cn X) W fa)) (h0 : args = [] → fa = cNil) (hb : PKw X W kws fb) : PE X (.Call (.Name x p) args kws pos) (tE (cn X) W (cCallK n ks.length phi fa fb)) := by
  refine ⟨fun pins s σ H Q I ⟨r, m, t, C, E, k⟩ => wpAny_Call_Name_kw (ld_glob I hg hm ?_ hdb)⟩
  refine args_then hs hk ha h0 hb I kf C E k fun s H1 us ws vs zs I1 rv rz lz ⟨r1, m1, as, bs, e1, C1, R1, R2, la, kk⟩ => ?_
  exact hf pins s σ H1 us ws vs zs Q I1 rv rz lz ⟨r1, m1, as, bs, C1, R1, R2, la, kk⟩
/-- a call of a built-in by its name -/
theorem mi_bi {id : String} {g : FU} {e : Expr} {es : List Expr} (hc : CallR X (.builtin id) (rF (cn X) g)) (hg : Gl X x) (hm : X.mg x = none) (hv : bootBuiltins x = some (.builtin id)) (hn : x ≠ "__name__") (hdb : (x == ("__debug__" : Str)) = false)
    (hs : (e :: es).all noStar = true) (ha : PA X (e :: es) (tAr (cn X) W fa)) : PE X (.Call (.Name x p) (e :: es) [] pos) (tE (cn X) W (cFn g fa)) := by
  have hs' : noStar e = true ∧ es.all noStar = true := by rw [List.all_cons, Bool.and_eq_true] at hs; exact hs
  refine (pe_callB hc hg hm hv ha hn hdb (star_cons hs'.1) (star_plain hs'.2)).weak fun s H Q ⟨r, m, t, C, E, k⟩ => ⟨r, m, t, C, E, (kE.bind k).imp ?_⟩
  rintro x H1 ⟨r1, m1, u, e1, C1, ru, k1⟩
  exact ⟨r1, m1, u, C1, ru, kE_ofO k1⟩
theorem mi_bity {id : String} {g : FU} {e : Expr} {es : List Expr} (hc : CallR X (.type id) (rF (cn X) g)) (hg : Gl X x) (hm : X.mg x = none) (hv : bootBuiltins x = some (.type id)) (hn : x ≠ "__name__") (hdb : (x == ("__debug__" : Str)) = false)
    (hs : (e :: es).all noStar = true) (ha : PA X (e :: es) (tAr (cn X) W fa)) : PE X (.Call (.Name x p) (e :: es) [] pos) (tE (cn X) W (cFn g fa)) := by
  have hs' : noStar e = true ∧ es.all noStar = true := by rw [List.all_cons, Bool.and_eq_true] at hs; exact hs
  refine (pe_callTy hc hg hm hv ha hn hdb (star_cons hs'.1) (star_plain hs'.2)).weak fun s H Q ⟨r, m, t, C, E, k⟩ => ⟨r, m, t, C, E, (kE.bind k).imp ?_⟩
  rintro x H1 ⟨r1, m1, u, e1, C1, ru, k1⟩
  exact ⟨r1, m1, u, C1, ru, kE_ofO k1⟩
end
end Mi
set_option Elab.async false
set_option linter.all false
set_option maxRecDepth 100000
set_option maxHeartbeats 4000000
/-! Mi, part H: statements, targets, loops. -/
namespace Mi
open PySem PySem.Spec PyProof.Rows L2
inductive SO where
  | nx (t : Env1) (m : MH)
  | rt (u : U) (m : MH)
  | bk (t : Env1) (m : MH)
  | ct (t : Env1) (m : MH)
  | err (x : Ex) (t : Env1) (m : MH)
  | bad
abbrev S1 := Env1 → MH → SO
def kS (c : Cn) (W : WX) (r : Gh) (H : Hp) (D : Ends) : SO → Prop
  | .nx t' m' => ∀ r' H' s', Ext r H r' H' → Corr c r' m' H' → EnvR c r' H' t' s' → D.nx s' H'
  | .rt u m' => ∀ r' H' v, Ext r H r' H' → Corr c r' m' H' → RU c r' H' u v → D.rt v H'
  | .bk t' m' => ∀ r' H' s', Ext r H r' H' → Corr c r' m' H' → EnvR c r' H' t' s' → D.bk s' H'
  | .ct t' m' => ∀ r' H' s', Ext r H r' H' → Corr c r' m' H' → EnvR c r' H' t' s' → D.ct s' H'
  | .err x t' m' => ∀ r' H' s' cls d, Ext r H r' H' → Corr c r' m' H' → EnvR c r' H' t' s' → XR c r' H' x cls d → W cls d s' H'
  | .bad => False
def tS (c : Cn) (W : WX) (f : S1) : TS := fun D s H => ∃ r m t, Corr c r m H ∧ EnvR c r H t s ∧ kS c W r H D (f t m)
theorem kS.from {c : Cn} {W : WX} {r r1 : Gh} {H H1 : Hp} {D : Ends} {o : SO} (h : kS c W r H D o) (e : Ext r H r1 H1) : kS c W r1 H1 D o := by
  cases o with
  | nx t m => exact fun r' H' v e1 C R1 => h r' H' v (e.trans e1) C R1
  | rt t m => exact fun r' H' v e1 C R1 => h r' H' v (e.trans e1) C R1
  | bk t m => exact fun r' H' v e1 C R1 => h r' H' v (e.trans e1) C R1
  | ct t m => exact fun r' H' v e1 C R1 => h r' H' v (e.trans e1) C R1
  | err x t m => exact fun r' H' s' cls d e1 C R1 => h r' H' s' cls d (e.trans e1) C R1
  | bad => exact h
/-- an expression's value, then a statement's rest -/
def sE {α : Type} (f : Fn1 α) (k : α → S1) : S1 := fun t m => match f t m with
  | .ok u m' => k u t m'
  | .err x m' => .err x t m'
  | .bad => .bad
def sNx : S1 := fun t m => .nx t m
def sSeq (a b : S1) : S1 := fun t m => match a t m with
  | .nx t' m' => b t' m'
  | o => o
def sRet (a : E1) : S1 := sE a fun u _ m => .rt u m
def sDrop (a : E1) : S1 := sE a fun _ t m => .nx t m
def sIf (q : Fn1 Bool) (a b : S1) : S1 := sE q fun x => match x with
  | true => a
  | false => b
abbrev G1 := U → Env1 → MH → Option (Env1 × MH)
def sAsg (a : E1) (g : G1) : S1 := sE a fun u t m => match g u t m with
  | some (t', m') => .nx t' m'
  | none => .bad
def gName (i : Nat) : G1 := fun u t m => some (t.set i (some u), m)
def EvR : Rel Env1 L2.St := fun c r H t s => EnvR c r H t s
/-- the frame behind a target: only the slots L have changed -/
def EvL (L : List Nat) (s0 : L2.St) : Rel Env1 L2.St := fun c r H t s => EnvR c r H t s ∧ s.length = s0.length ∧ ∀ i, i ∉ L → s[i]? = s0[i]?
def tGt (c : Cn) (L : List Nat) (g : G1) : TG := fun v s H Q => ∃ r m t u, Corr c r m H ∧ EnvR c r H t s ∧ RU c r H u v ∧ kO c (EvL L s) r H Q (g u t m)
section
variable {X : Cx} {c : Cn} {W : WX} {e : Expr} {st : Stmt} {sts : List Stmt} {f : E1} {a b : S1} {pos : Pos}
theorem kS_E {α β : Type} {R : Rel α β} {r : Gh} {m : MH} {H : Hp} {t : Env1} {s : L2.St} {D : Ends} {f : Fn1 α} {k : α → S1} (E : EnvR c r H t s) (h : kS c W r H D (sE f k t m)) :
    kE c R W r H s (Mid c R r H fun r1 m1 u x H1 => EnvR c r1 H1 t s ∧ kS c W r1 H1 D (k u t m1)) (f t m) := by
  unfold sE at h
  cases e : f t m with
  | ok u m' => rw [e] at h; exact fun r' H' v e1 C R1 => ⟨r', m', u, e1, C, R1, E.ext e1.w, h.from e1⟩
  | err x m' => rw [e] at h; exact fun r' H' cls d e1 C X1 => h r' H' s cls d e1 C (E.ext e1.w) X1
  | bad => rw [e] at h; exact h
theorem ms_nx : PSs X [] (tS c W sNx) := pss_nil.weak fun D s H ⟨r, m, t, C, E, k⟩ => k r H s (Ext.refl r H) C E
theorem ms_pass : PS X (.Pass pos) (tS c W sNx) := ps_pass.weak fun D s H ⟨r, m, t, C, E, k⟩ => k r H s (Ext.refl r H) C E
theorem ms_doc {x : Str} {j : Nat} {p : Pos} : PS X (.Expr (.Constant (.str x) j p) pos) (tS c W sNx) := ps_doc.weak fun D s H ⟨r, m, t, C, E, k⟩ => k r H s (Ext.refl r H) C E
theorem ms_break : PS X (.Break pos) (tS c W fun t m => .bk t m) := ps_break.weak fun D s H ⟨r, m, t, C, E, k⟩ => k r H s (Ext.refl r H) C E
theorem ms_cont : PS X (.Continue pos) (tS c W fun t m => .ct t m) := ps_continue.weak fun D s H ⟨r, m, t, C, E, k⟩ => k r H s (Ext.refl r H) C E
theorem ms_cons (h1 : PS X st (tS c W a)) (h2 : PSs X sts (tS c W b)) : PSs X (st :: sts) (tS c W (sSeq a b)) := by
  refine (pss_cons h1 h2).weak fun D s H ⟨r, m, t, C, E, k⟩ => ⟨r, m, t, C, E, ?_⟩
  unfold sSeq at k
  cases e : a t m with
  | nx t' m' => rw [e] at k; exact fun r' H' s' e1 C1 E1 => ⟨r', m', t', C1, E1, k.from e1⟩
  | rt u m' => rw [e] at k; exact k
  | bk t' m' => rw [e] at k; exact k
  | ct t' m' => rw [e] at k; exact k
  | err x t' m' => rw [e] at k; exact k
  | bad => rw [e] at k; exact k
theorem ms_ret (he : PE X e (tE c W f)) : PS X (.Return (some e) pos) (tS c W (sRet f)) := by
  refine (ps_ret he).weak fun D s H ⟨r, m, t, C, E, k⟩ => ⟨r, m, t, C, E, (kS_E E k).imp ?_⟩
  rintro x H1 ⟨r1, m1, u, e1, C1, ru, E1, k1⟩
  exact k1 _ _ _ (Ext.refl _ _) C1 ru
theorem ms_retN : PS X (.Return none pos) (tS c W (sRet (cK .non))) := ps_retN.weak fun D s H ⟨r, m, t, C, E, k⟩ => k r H _ (Ext.refl r H) C .non
theorem ms_drop (he : PE X e (tE c W f)) (hs : swapsWith e none pos.line X.env = pure false) : PS X (.Expr e pos) (tS c W (sDrop f)) := by
  refine (ps_expr he hs).weak fun D s H ⟨r, m, t, C, E, k⟩ => ⟨r, m, t, C, E, (kS_E E k).imp ?_⟩
  rintro x H1 ⟨r1, m1, u, e1, C1, ru, E1, k1⟩
  exact k1 _ _ _ (Ext.refl _ _) C1 E1
theorem ms_if {q : Fn1 Bool} {p1 p2 : List Stmt} (hq : PT X e (tTs c W q)) (ha : PSs X p1 (tS c W a)) (hb : PSs X p2 (tS c W b)) : PS X (.If e p1 p2 pos) (tS c W (sIf q a b)) := by
  refine (ps_if hq ha hb).weak fun D s H ⟨r, m, t, C, E, k⟩ => ⟨r, m, t, C, E, (kS_E E k).imp ?_⟩
  rintro x H1 ⟨r1, m1, u, e1, C1, rfl, E1, k1⟩
  cases u with
  | true => exact iteT ⟨r1, m1, t, C1, E1, k1⟩
  | false => exact iteF ⟨r1, m1, t, C1, E1, k1⟩
theorem mg_name {i : Nat} {x : Str} (hN : X.N.Nodup) (hi : X.N[i]? = some x) (hx : Loc X.env.scope x) (hf : X.fn x = true ∨ X.env.scope.names.lookup x = some .local) : PG X (.Name x pos) (tGt c [i] (gName i)) := by
  refine ⟨fun pins s σ H v u Q I rv ⟨r, m, t, w, C, E, ru, k⟩ => (pg_name hN hi hx hf).run pins s σ H v u Q I rv ?_⟩
  exact k r H _ (Ext.refl r H) C ⟨E.set ru i, List.length_set, fun j hj => List.getElem?_set_ne (fun z => hj (by rw [z]; exact List.mem_singleton.mpr rfl))⟩
theorem ms_asg {tg : Expr} {L : List Nat} {g : G1} (he : PE X e (tE c W f)) (hg : PG X tg (tGt c L g)) (hs : swapsWithSole [tg] e pos.line X.env = pure false) (hw : swappedStores [tg] e X.env = pure none)
    (h1 : (assignEach [tg] X.env).map (·.2) = [assign tg X.env]) : PS X (.Assign [tg] e pos) (tS c W (sAsg f g)) := by
  refine (ps_asg he hg hs hw h1).weak fun D s H ⟨r, m, t, C, E, k⟩ => ⟨r, m, t, C, E, (kS_E E k).imp ?_⟩
  rintro x H1 ⟨r1, m1, u, e1, C1, ru, E1, k1⟩
  refine ⟨r1, m1, t, u, C1, E1, ru, ?_⟩
  cases e2 : g u t m1 with
  | some p => rw [e2] at k1; exact fun r' H' s' e3 C3 E3 => k1 r' H' s' e3 C3 E3.1
  | none => rw [e2] at k1; exact k1
end
/-! ### several targets -/
/-- one after another -/
def gAll : List G1 → List U → Env1 → MH → Option (Env1 × MH)
  | [], [], t, m => some (t, m)
  | g :: gs, u :: us, t, m => (g u t m).bind fun p => gAll gs us p.1 p.2
  | _, _, _, _ => none
def tGts (c : Cn) (L : List Nat) (gs : List G1) : TGs := fun vs s H Q => ∃ r m t us, Corr c r m H ∧ EnvR c r H t s ∧ RUs c r H us vs ∧ kO c (EvL L s) r H Q (gAll gs us t m)
/-- the items of what is unpacked -/
def itemsU (u : U) (m : MH) : Option (List U) := match u with
  | .tup us => some us
  | u => seqL u m
def gTup (gs : List G1) : G1 := fun u t m => (itemsU u m).bind fun us => if us.length = gs.length then gAll gs us t m else none
theorem kO.from {α β : Type} {c : Cn} {R : Rel α β} {r r1 : Gh} {H H1 : Hp} {Q : β → Hp → Prop} {o : Option (α × MH)} (h : kO c R r H Q o) (e : Ext r H r1 H1) : kO c R r1 H1 Q o := by
  cases o with
  | none => exact h
  | some p => exact fun r' H' v e1 C R1 => h r' H' v (e.trans e1) C R1
section
variable {X : Cx} {e : Expr} {es : List Expr} {g : G1} {gs : List G1} {pos : Pos}
theorem each_cons {env : Env} (h : noStar e = true) : (assignEach (e :: es) env).map (·.2) = assign e env :: (assignEach es env).map (·.2) := by
  cases e <;> first | rfl | (exact nomatch (show false = true from h))
theorem each_len {env : Env} : ∀ {es : List Expr}, (assignEach es env).length = es.length
  | [] => rfl
  | e :: es => by
    have ih := each_len (env := env) (es := es)
    cases e <;> exact congrArg (· + 1) ih
theorem each_nostar {env : Env} : ∀ {es : List Expr}, es.all noStar = true → (assignEach es env).findIdx? (·.1) = none
  | [], _ => rfl
  | e :: es, h => by
    rw [List.all_cons, Bool.and_eq_true] at h
    have ih := each_nostar (env := env) h.2
    have : (assignEach (e :: es) env) = (false, assign e env) :: assignEach es env := by
      cases e <;> first | rfl | (exact nomatch (show false = true from h.1))
    rw [this, List.findIdx?_cons, ih]
    rfl
theorem mgs_nil : PGs X [] (tGts (cn X) [] []) := by
  refine ⟨fun pins s σ H vs us Q I rv ⟨r, m, t, ws, C, E, R, k⟩ => pgs_nil.run pins s σ H vs us Q I rv ?_⟩
  cases R with
  | nil => exact ⟨rfl, k r H _ (Ext.refl r H) C ⟨E, rfl, fun _ _ => rfl⟩⟩
  | cons _ _ => exact k.elim
theorem mgs_cons {L L' : List Nat} (hn : noStar e = true) (h1 : PG X e (tGt (cn X) L g)) (h2 : PGs X es (tGts (cn X) L' gs)) : PGs X (e :: es) (tGts (cn X) (L ++ L') (g :: gs)) := by
  refine ⟨fun pins s σ H vs us Q I rv ⟨r, m, t, ws, C, E, R, k⟩ => (pgs_cons h1 h2 (each_cons hn)).run pins s σ H vs us Q I rv ?_⟩
  cases R with
  | nil => exact k.elim
  | cons q qs =>
    refine ⟨_, _, rfl, r, m, t, _, C, E, q, ?_⟩
    simp only [gAll] at k
    cases e1 : g _ t m with
    | none => rw [e1] at k; exact k
    | some p =>
      rw [e1] at k
      intro r' H' s' e2 C2 E2
      refine ⟨r', p.2, p.1, _, C2, E2.1, qs.ext e2.w, ?_⟩
      have k' := kO.from (show kO (cn X) (EvL (L ++ L') σ) r H Q (gAll gs _ p.1 p.2) from k) e2
      cases e3 : gAll gs _ p.1 p.2 with
      | none => rw [e3] at k'; exact k'
      | some p' =>
        rw [e3] at k'
        exact fun r4 H4 s4 e4 C4 E4 => k' r4 H4 s4 e4 C4 ⟨E4.1, E4.2.1.trans E2.2.1, fun i hi => (E4.2.2 i fun z => hi (List.mem_append_right _ z)).trans (E2.2.2 i fun z => hi (List.mem_append_left _ z))⟩
theorem mg_tup {n : Nat} (hc : X.calm = true) (hs : es.all noStar = true) {L : List Nat} (h : PGs X es (tGts (cn X) L gs)) (hl : es.length = gs.length) : PG X (.Tuple es n pos) (tGt (cn X) L (gTup gs)) := by
  refine ⟨fun pins s σ H v u Q I rv ⟨r, m, t, w, C, E, ru, k⟩ => ?_⟩
  unfold gTup at k
  cases e1 : itemsU w m with
  | none => rw [e1] at k; exact k.elim
  | some ws =>
    rw [e1, Option.bind_some] at k
    by_cases hn : ws.length = gs.length
    · rw [if_pos hn] at k
      have lists : seqL w m = some ws → wpAny (model X.prog X.w) X.A (assign (.Tuple es n pos) X.env u) (fun _ s' => ∃ σ' H', Inv X pins σ' H' s' ∧ Q σ' H') X.xe s := by
        intro e2
        obtain ⟨a, xs, rfl, h1, h2⟩ := seqL_ok C ru e2
        exact (pg_unl (n := es.length) hc h each_len (each_nostar hs)).run pins s σ H _ u Q I rv ⟨a, xs, rfl, h1, by rw [← h2.length, hn, hl], r, m, t, ws, C, E, h2, k⟩
      cases w with
      | tup us =>
        cases e1
        cases ru with
        | tup q qs => exact (pg_tup (n := es.length) hc h each_len (each_nostar hs)).run pins s σ H _ u Q I rv ⟨_, _, rfl, q.sq, by rw [← qs.length, hn, hl], r, m, t, _, C, E, qs, k⟩
      | _ => exact lists e1
    · rw [if_neg hn] at k; exact k.elim
end
/-! ### loops -/
/-- what is walked: how many, the item at a turn under the own heap as it is then, whether all is well at the end -/
structure ItU where
  len : Nat
  get : MH → Nat → Option U
  fin : MH → Bool
def JOk : Rel ItU It := fun c r H it J => ∀ (i : Nat) (r' : Gh) (m' : MH) (H' : Hp), ExtW r H r' H' → Corr c r' m' H' →
  (∀ u, i < it.len → it.get m' i = some u → J.go i H' ∧ ∀ x H'', J.yld i H' x H'' → Ext r' H' r' H'' ∧ Corr c r' m' H'' ∧ RU c r' H'' u x) ∧ (it.len ≤ i → it.fin m' = true → J.stop i H')
abbrev I1 := Fn1 ItU
abbrev tIt (c : Cn) (W : WX) (f : I1) : TI := tG c JOk W f
/-- items told ahead -/
def constIt (us : List U) : ItU := ⟨us.length, fun _ i => us[i]?, fun _ => true⟩
/-- a list of the own heap -/
def refIt (n k : Nat) : ItU := ⟨k, fun m i => match m[n]? with
  | some (.lst us) => if us.length = k then us[i]? else none
  | _ => none, fun m => match m[n]? with
  | some (.lst us) => decide (us.length = k)
  | _ => false⟩
def loopI (it : ItU) (g : G1) (b : S1) : Nat → Nat → S1
  | 0, _ => fun t m => if it.fin m = true then .nx t m else .bad
  | k + 1, i => fun t m => match it.get m i with
    | none => .bad
    | some u => (match g u t m with
      | none => .bad
      | some (t', m') => (match b t' m' with
        | .nx t2 m2 => loopI it g b k (i + 1) t2 m2
        | .ct t2 m2 => loopI it g b k (i + 1) t2 m2
        | .bk t2 m2 => .nx t2 m2
        | .rt u m2 => .rt u m2
        | .err x t2 m2 => .err x t2 m2
        | .bad => .bad))
def sFor (f : I1) (g : G1) (b : S1) : S1 := sE f fun it => loopI it g b it.len 0
/-- the loop over items told ahead -/
def loopL (g : G1) (b : S1) : List U → S1
  | [] => fun t m => .nx t m
  | u :: us => fun t m => match g u t m with
    | none => .bad
    | some (t', m') => (match b t' m' with
      | .nx t2 m2 => loopL g b us t2 m2
      | .ct t2 m2 => loopL g b us t2 m2
      | .bk t2 m2 => .nx t2 m2
      | .rt u m2 => .rt u m2
      | .err x t2 m2 => .err x t2 m2
      | .bad => .bad)
theorem loopL_eq (g : G1) (b : S1) (us : List U) : ∀ (k i : Nat) (t : Env1) (m : MH), i + k = us.length → loopI (constIt us) g b k i t m = loopL g b (us.drop i) t m
  | 0, i, t, m, h => by
    rw [List.drop_of_length_le (by omega)]
    rfl
  | k + 1, i, t, m, h => by
    have hi : i < us.length := by omega
    rw [List.drop_eq_getElem_cons hi]
    have e : (constIt us).get m i = some us[i] := List.getElem?_eq_getElem hi
    unfold loopI loopL
    rw [e]
    dsimp only
    cases g us[i] t m with
    | none => rfl
    | some p =>
      obtain ⟨t', m'⟩ := p
      dsimp only
      cases b t' m' with
      | nx t2 m2 => exact loopL_eq g b us k (i + 1) t2 m2 (by omega)
      | ct t2 m2 => exact loopL_eq g b us k (i + 1) t2 m2 (by omega)
      | _ => rfl
theorem loopL_all (g : G1) (b : S1) (us : List U) (t : Env1) (m : MH) : loopI (constIt us) g b (constIt us).len 0 t m = loopL g b us t m := loopL_eq g b us us.length 0 t m (Nat.zero_add _)
section
variable {X : Cx} {W : WX} {iter tg : Expr} {body : List Stmt} {f : I1} {g : G1} {b : S1} {pos : Pos}
theorem ms_for {L : List Nat} (hp : PassesOwn (model X.prog X.w) X.A X.env X.xe) (hc : X.calm = true) (hi : PI X tg iter (tIt (cn X) W f)) (hg : PG X tg (tGt (cn X) L g)) (hb : PSs X body (tS (cn X) W b))
    (hs : ∀ x, foldedSetIterable iter X.env x = pure x) : PS X (.For tg iter body [] pos) (tS (cn X) W (sFor f g b)) := by
  refine (ps_for hp hc hi hg hb hs).weak fun D s H ⟨r, m, t, C, E, k⟩ => ⟨r, m, t, C, E, (kS_E E k).imp ?_⟩
  rintro J H1 ⟨r1, m1, it, e1, C1, jo, E1, k1⟩
  refine ⟨fun i k s' H' => i + k = it.len ∧ ∃ r' m' t', Ext r1 H1 r' H' ∧ Corr (cn X) r' m' H' ∧ EnvR (cn X) r' H' t' s' ∧ kS (cn X) W r' H' D (loopI it g b k i t' m'), ⟨it.len, Nat.zero_add _, r1, m1, t, Ext.refl _ _, C1, E1, k1⟩, ?_⟩
  rintro i k s' H' ⟨hk, r', m', t', e2, C2, E2, k2⟩
  have jj := jo i r' m' H' e2.w C2
  cases k with
  | zero =>
    refine .inl ?_
    unfold loopI at k2
    by_cases hf : it.fin m' = true
    · rw [if_pos hf] at k2
      exact ⟨jj.2 (by omega) hf, k2 r' H' s' (Ext.refl _ _) C2 E2⟩
    · rw [if_neg hf] at k2; exact k2.elim
  | succ k =>
    refine .inr ?_
    unfold loopI at k2
    cases e3 : it.get m' i with
    | none => rw [e3] at k2; exact k2.elim
    | some u =>
      rw [e3] at k2
      dsimp only at k2
      obtain ⟨go, yl⟩ := jj.1 u (by omega) e3
      refine ⟨go, fun s2 H2 => (i + 1) + k = it.len ∧ ∃ r2 m2 t2, Ext r1 H1 r2 H2 ∧ Corr (cn X) r2 m2 H2 ∧ EnvR (cn X) r2 H2 t2 s2 ∧ kS (cn X) W r2 H2 D (loopI it g b k (i + 1) t2 m2), fun s2 H2 q => ⟨k, Nat.lt_succ_self _, q⟩, ?_⟩
      intro x H3 hy
      obtain ⟨e4, C4, ru⟩ := yl x H3 hy
      refine ⟨r', m', t', u, C4, E2.ext e4.w, ru, ?_⟩
      cases e5 : g u t' m' with
      | none => rw [e5] at k2; exact k2.elim
      | some p =>
        obtain ⟨t6, m6⟩ := p
        rw [e5] at k2
        dsimp only at k2
        intro r6 H6 s6 e6 C6 E6
        refine ⟨r6, m6, t6, C6, E6.1, ?_⟩
        have e06 := e4.trans e6
        cases e7 : b t6 m6 with
        | nx t7 m7 => rw [e7] at k2; exact fun r8 H8 s8 e8 C8 E8 => ⟨by omega, r8, m7, t7, (e2.trans e06).trans e8, C8, E8, k2.from (e06.trans e8)⟩
        | ct t7 m7 => rw [e7] at k2; exact fun r8 H8 s8 e8 C8 E8 => ⟨by omega, r8, m7, t7, (e2.trans e06).trans e8, C8, E8, k2.from (e06.trans e8)⟩
        | bk t7 m7 => rw [e7] at k2; exact fun r8 H8 s8 e8 C8 E8 => k2 r8 H8 s8 (e06.trans e8) C8 E8
        | rt u7 m7 => rw [e7] at k2; exact fun r8 H8 v8 e8 C8 R8 => k2 r8 H8 v8 (e06.trans e8) C8 R8
        | err x7 t7 m7 => rw [e7] at k2; exact fun r8 H8 s8 cls d e8 C8 E8 X8 => k2 r8 H8 s8 cls d (e06.trans e8) C8 E8 X8
        | bad => rw [e7] at k2; exact k2
/-- while, at most so many turns -/
def sWhile (q : Fn1 Bool) (b : S1) : Nat → S1
  | 0 => fun _ _ => .bad
  | k + 1 => sE q fun x => match x with
    | true => fun t m => (match b t m with
      | .nx t2 m2 => sWhile q b k t2 m2
      | .ct t2 m2 => sWhile q b k t2 m2
      | .bk t2 m2 => .nx t2 m2
      | .rt u m2 => .rt u m2
      | .err x t2 m2 => .err x t2 m2
      | .bad => .bad)
    | false => fun t m => .nx t m
theorem ms_while {q : Fn1 Bool} {c : Expr} {n : Nat} (hp : PassesOwn (model X.prog X.w) X.A X.env X.xe) (hq : PT X c (tTs (cn X) W q)) (hb : PSs X body (tS (cn X) W b)) : PS X (.While c body [] pos) (tS (cn X) W (sWhile q b n)) := by
  refine (ps_while hp hq hb).weak fun D s H ⟨r, m, t, C, E, k⟩ => ?_
  refine ⟨fun k s' H' => ∃ r' m' t', Ext r H r' H' ∧ Corr (cn X) r' m' H' ∧ EnvR (cn X) r' H' t' s' ∧ kS (cn X) W r' H' D (sWhile q b k t' m'), ⟨n, r, m, t, Ext.refl _ _, C, E, k⟩, ?_⟩
  rintro k s' H' ⟨r', m', t', e2, C2, E2, k2⟩
  cases k with
  | zero => exact k2.elim
  | succ k =>
    refine ⟨r', m', t', C2, E2, (kS_E E2 (show kS (cn X) W r' H' D (sE q _ t' m') from k2)).imp ?_⟩
    rintro x H1 ⟨r1, m1, u, e1, C1, rfl, E1, k1⟩
    cases u with
    | false => exact iteF (k1 r1 H1 s' (Ext.refl _ _) C1 E1)
    | true =>
      refine iteT ⟨fun s2 H2 => ∃ r2 m2 t2, Ext r H r2 H2 ∧ Corr (cn X) r2 m2 H2 ∧ EnvR (cn X) r2 H2 t2 s2 ∧ kS (cn X) W r2 H2 D (sWhile q b k t2 m2), fun s2 H2 w => ⟨k, Nat.lt_succ_self _, w⟩, r1, m1, t', C1, E1, ?_⟩
      dsimp only at k1
      cases e7 : b t' m1 with
      | nx t7 m7 => rw [e7] at k1; exact fun r8 H8 s8 e8 C8 E8 => ⟨r8, m7, t7, (e2.trans e1).trans e8, C8, E8, k1.from e8⟩
      | ct t7 m7 => rw [e7] at k1; exact fun r8 H8 s8 e8 C8 E8 => ⟨r8, m7, t7, (e2.trans e1).trans e8, C8, E8, k1.from e8⟩
      | bk t7 m7 => rw [e7] at k1; exact k1
      | rt u7 m7 => rw [e7] at k1; exact k1
      | err x7 t7 m7 => rw [e7] at k1; exact k1
      | bad => rw [e7] at k1; exact k1
end
end Mi
set_option Elab.async false
set_option linter.all false
set_option maxRecDepth 100000
set_option maxHeartbeats 4000000
/-! Mi, part I: what is walked; list comprehensions. -/
namespace Mi
open PySem PySem.Spec PyProof.Rows L2
section
variable {X : Cx} {r : Gh} {H : Hp}
theorem jok_list {a : Addr} {xs : List V} {us : List U} (st : ∀ r' H', ExtW r H r' H' → SqL X.K H' a xs ∧ RUs (cn X) r' H' us xs) : JOk (cn X) r H (constIt us) (Itl X.K a) := by
  intro i r' m' H' e C
  obtain ⟨h1, h2⟩ := st r' H' e
  refine ⟨fun u hi hu => ?_, fun hi _ => ⟨xs, h1, h2.length ▸ hi⟩⟩
  obtain ⟨x, e1, e2⟩ := h2.get (i := i) hu
  refine ⟨⟨xs, x, h1, e1⟩, ?_⟩
  rintro y H'' ⟨rfl, hy⟩
  have := hy xs h1
  rw [e1] at this
  cases this
  exact ⟨Ext.refl _ _, C, e2⟩
theorem jok_tup {a : Addr} {xs : List V} {us : List U} (st : ∀ r' H', ExtW r H r' H' → SqT X.K H' a xs ∧ RUs (cn X) r' H' us xs) : JOk (cn X) r H (constIt us) (Itt X.K a) := by
  intro i r' m' H' e C
  obtain ⟨h1, h2⟩ := st r' H' e
  refine ⟨fun u hi hu => ?_, fun hi _ => ⟨xs, h1, h2.length ▸ hi⟩⟩
  obtain ⟨x, e1, e2⟩ := h2.get (i := i) hu
  refine ⟨⟨xs, x, h1, e1⟩, ?_⟩
  rintro y H'' ⟨rfl, hy⟩
  have := hy xs h1
  rw [e1] at this
  cases this
  exact ⟨Ext.refl _ _, C, e2⟩
theorem jok_ref {n : Nat} {a : Addr} {k : Nat} (ha : r.r[n]? = some a) : JOk (cn X) r H (refIt n k) (Itl X.K a) := by
  intro i r' m' H' e C
  have ha' := pre_get e.pre ha
  have key : ∀ us, m'[n]? = some (.lst us) → ∃ xs, SqL X.K H' a xs ∧ RUs (cn X) r' H' us xs := by
    intro us q
    obtain ⟨a', ho, h1, h2, h3⟩ := C.at_ n _ q
    rw [ha'] at h1
    cases h1
    cases h3 with | lst hs => exact ⟨_, SqL.of h2, hs⟩
  refine ⟨fun u hi hu => ?_, fun hi hf => ?_⟩
  · simp only [refIt] at hu
    cases q : m'[n]? with
    | none => rw [q] at hu; cases hu
    | some o =>
      rw [q] at hu
      cases o with
      | lst us =>
        dsimp only at hu
        by_cases hl : us.length = k
        · rw [if_pos hl] at hu
          obtain ⟨xs, h1, h2⟩ := key us q
          obtain ⟨x, e1, e2⟩ := h2.get (i := i) hu
          refine ⟨⟨xs, x, h1, e1⟩, ?_⟩
          rintro y H'' ⟨rfl, hy⟩
          have := hy xs h1
          rw [e1] at this
          cases this
          exact ⟨Ext.refl _ _, C, e2⟩
        · rw [if_neg hl] at hu; cases hu
      | _ => cases hu
  · simp only [refIt] at hf
    cases q : m'[n]? with
    | none => rw [q] at hf; cases hf
    | some o =>
      rw [q] at hf
      cases o with
      | lst us =>
        have hl : us.length = k := of_decide_eq_true hf
        obtain ⟨xs, h1, h2⟩ := key us q
        exact ⟨xs, h1, by rw [← h2.length, hl]; exact hi⟩
      | _ => cases hf
end
def signsU (x : Str) : List U := x.cps.toList.map fun k => .str ⟨#[k]⟩
def itOf (u : U) (m : MH) : Option (ItU × MH) := match u with
  | .tup us => some (constIt us, m)
  | .fl us => some (constIt us, m)
  | .cl us => some (constIt us, m)
  | .str x => some (constIt (signsU x), m)
  | .ref n => (match m[n]? with
    | some (.lst us) => some (refIt n us.length, m)
    | _ => none)
  | _ => none
def cIt (f : E1) : I1 := fun t m => (f t m).bind fun u m1 => ofO (itOf u m1)
section
variable {X : Cx} {W : WX} {tg l : Expr} {f : E1}
theorem fp_one {pins : List (Addr × Obj)} {σ : L2.St} {H : Hp} {s : Shared} (I : Inv X pins σ H s) : ∀ b ∈ [s.heap.objs.size], FpOk X pins H b := by
  intro b hb
  have e : b = s.heap.objs.size := by simpa using hb
  subst e
  exact I.fpOk (Nat.le_refl _) (I.hok.fresh (Nat.le_refl _))
theorem jok_str {r : Gh} {H : Hp} (x : Str) : JOk (cn X) r H (constIt (signsU x)) (Its x) := by
  intro i r' m' H' e C
  have len : (signsU x).length = x.cps.size := by unfold signsU; rw [List.length_map, Array.length_toList]
  refine ⟨fun u hi hu => ⟨by show i < x.cps.size; rw [← len]; exact hi, ?_⟩, fun hi _ => by show x.cps.size ≤ i; rw [← len]; exact hi⟩
  rintro y H'' ⟨rfl, k, hk, rfl⟩
  have : (signsU x)[i]? = some (.str ⟨#[k]⟩) := by
    unfold signsU
    rw [List.getElem?_map, Array.getElem?_toList, hk]
    rfl
  have hu' : (signsU x)[i]? = some u := hu
  rw [this] at hu'
  cases hu'
  exact ⟨Ext.refl _ _, C, .str _⟩
theorem pi_val (hl : PE X l (tE (cn X) W f)) : PI X tg l (tIt (cn X) W (cIt f)) := by
  refine ⟨fun pins s σ H R I ⟨r, m, t, C, E, k⟩ => ?_⟩
  refine thn (hl.run pins s σ H _ I ⟨r, m, t, C, E, kE.bind k⟩) fun v s1 ⟨x, H1, I1, rv, r1, m1, u, e1, C1, ru, k1⟩ => ?_
  have k2 := kE_ofO k1
  have lst : ∀ {a : Addr} {it : ItU}, v = .ref a → (∃ xs, SqL X.K H1 a xs) → kO (cn X) JOk r1 H1 R (some (it, m1)) → JOk (cn X) r1 H1 it (Itl X.K a) → wpAny (model X.prog X.w) X.A (pyIter v) (PIE X pins σ tg R) X.xe s1 := by
    rintro a it rfl ⟨xs, hq⟩ k3 jo
    obtain ⟨its, rv', p, hz⟩ := I1.list hq
    refine wpAny_pyIter_list p.isList ?_
    exact ⟨s1.heap.objs.size, [s1.heap.objs.size], _, _, H1, rfl, I1.kept (t' := s1.toks) fun b o e => Heap.get?_push_of_some _ e, turn_list a _, ⟨_, Heap.get?_push_size _ rfl, rfl, rfl⟩, fp_one I1, k3 r1 H1 _ (Ext.refl _ _) C1 jo⟩
  cases ru with
  | @tup us a xs q qs =>
    have hv : v = Value.ref a := rv
    subst hv
    obtain ⟨its, rv', p, hz⟩ := I1.tuple q.sq
    refine wpAny_pyIter_tuple (show s1.heap.IsTuple a its.toArray from p) ?_
    exact ⟨s1.heap.objs.size, [s1.heap.objs.size], _, _, H1, rfl, I1.kept (t' := s1.toks) fun b o e => Heap.get?_push_of_some _ e, turn_tuple a _, ⟨_, Heap.get?_push_size _ rfl, rfl, rfl⟩, fp_one I1,
      k2 r1 H1 _ (Ext.refl _ _) C1 (jok_tup fun r' H' e => ⟨(q.ext e).sq, qs.ext e⟩)⟩
  | @fl us a xs q1 q2 q3 qs => exact lst rv ⟨xs, SqL.of q3⟩ k2 (jok_list (fun r' H' e => ⟨SqL.of (e.keep _ _ q1 q2 q3).1, qs.ext e⟩))
  | @cl us a xs q qs => exact lst rv ⟨xs, q.sq⟩ k2 (jok_list (fun r' H' e => ⟨(q.ext e).sq, qs.ext e⟩))
  | @ref n a q =>
    cases e2 : m1[n]? with
    | none => simp only [itOf, e2] at k2; exact k2.elim
    | some o =>
      obtain ⟨a', ho, h1, h2, h3⟩ := C1.at_ n _ e2
      rw [q] at h1
      cases h1
      cases o with
      | lst us =>
        simp only [itOf, e2] at k2
        cases h3 with | lst hs => exact lst rv ⟨_, SqL.of h2⟩ k2 (jok_ref q)
      | _ => simp only [itOf, e2] at k2; exact k2.elim
  | str x =>
    obtain ⟨t', rfl⟩ := rv
    have q := k2 r1 H1 _ (Ext.refl _ _) C1 (jok_str x)
    cases ha : x.cps.all (· < 128)
    · exact wpAny_pyIter_wide ha (pi_one (tk := s1.toks) I1 _ (turn_str _ x t' "str_iterator" (.inr rfl)) ⟨_, Heap.get?_push_size _ rfl, rfl, rfl⟩ q)
    · exact wpAny_pyIter_ascii ha (pi_one (tk := s1.toks) I1 _ (turn_str _ x t' "str_ascii_iterator" (.inl rfl)) ⟨_, Heap.get?_push_size _ rfl, rfl, rfl⟩ q)
  | _ => exact k2.elim
end
/-! ### range -/
def rangeU (lo : Int) (n : Nat) : List U := (List.range n).map fun i => .int (lo + (i : Nat))
def rngBd (i : Int) : Bool := decide (-(2 ^ 60) ≤ i) && decide (i < 2 ^ 60)
def rngOf1 : List U → MH → Option (ItU × MH)
  | [.int j], m => if rngBd j = true then some (constIt (rangeU 0 j.toNat), m) else none
  | _, _ => none
def rngOf2 : List U → MH → Option (ItU × MH)
  | [.int i, .int j], m => if (rngBd i && rngBd j) = true then some (constIt (rangeU i (j - i).toNat), m) else none
  | _, _ => none
def cRng1 (a : Fn1 (List U)) : I1 := fun t m => (a t m).bind fun us m1 => ofO (rngOf1 us m1)
def cRng2 (a : Fn1 (List U)) : I1 := fun t m => (a t m).bind fun us m1 => ofO (rngOf2 us m1)
theorem rangeU_len (lo : Int) (n : Nat) : (rangeU lo n).length = n := by unfold rangeU; rw [List.length_map, List.length_range]
theorem rangeU_get (lo : Int) (n i : Nat) (h : i < n) : (rangeU lo n)[i]? = some (.int (lo + (i : Nat))) := by
  unfold rangeU
  rw [List.getElem?_map, List.getElem?_range h]
  rfl
section
variable {X : Cx} {W : WX} {tg : Expr} {p pos : Pos} {fa : Fn1 (List U)}
theorem jok_rng {r : Gh} {H : Hp} (lo : Int) (n : Nat) : JOk (cn X) r H (constIt (rangeU lo n)) (Itr lo n) := by
  intro i r' m' H' e C
  refine ⟨fun u hi hu => ?_, fun hi _ => by show n ≤ i; rw [← rangeU_len lo n]; exact hi⟩
  have hi' : i < n := by rw [← rangeU_len lo n]; exact hi
  refine ⟨hi', ?_⟩
  rintro y H'' ⟨rfl, rfl⟩
  have hu' : (rangeU lo n)[i]? = some u := hu
  rw [rangeU_get lo n i hi'] at hu'
  cases hu'
  exact ⟨Ext.refl _ _, C, .int _⟩
theorem bd {i : Int} (h : rngBd i = true) : -(2 ^ 62) ≤ i ∧ i < 2 ^ 62 := by
  unfold rngBd at h
  rw [Bool.and_eq_true] at h
  have a := of_decide_eq_true h.1
  have b := of_decide_eq_true h.2
  omega
theorem pi_rng1 {a : Expr} (hn : noStar a = true) (hg : Gl X "range") (hm : X.mg "range" = none) (ha : PA X [a] (tAr (cn X) W fa)) : PI X tg (.Call (.Name "range" p) [a] [] pos) (tIt (cn X) W (cRng1 fa)) := by
  refine ⟨fun pins s σ H R I ⟨r, m, t, C, E, k⟩ => (pi_range1 hg hm ha (star_cons hn)).run pins s σ H R I ⟨r, m, t, C, E, (kE.bind k).imp ?_⟩⟩
  rintro x H1 ⟨r1, m1, u, e1, C1, ru, k1⟩
  have k2 := kE_ofO k1
  unfold rngOf1 at k2
  split at k2
  · obtain ⟨v, rfl, q⟩ := ru.one
    cases q
    obtain ⟨hb, k2⟩ := k2.ite
    exact ⟨_, rfl, (bd hb).1, (bd hb).2, k2 r1 H1 _ (Ext.refl _ _) C1 (jok_rng _ _)⟩
  · exact k2.elim
theorem pi_rng2 {a b : Expr} (hn : noStar a = true) (hn2 : noStar b = true) (hg : Gl X "range") (hm : X.mg "range" = none) (ha : PA X [a, b] (tAr (cn X) W fa)) : PI X tg (.Call (.Name "range" p) [a, b] [] pos) (tIt (cn X) W (cRng2 fa)) := by
  refine ⟨fun pins s σ H R I ⟨r, m, t, C, E, k⟩ => (pi_range2 hg hm ha (by rw [star_cons hn, star_cons hn2]; rfl) (star_cons hn2)).run pins s σ H R I ⟨r, m, t, C, E, (kE.bind k).imp ?_⟩⟩
  rintro x H1 ⟨r1, m1, u, e1, C1, ru, k1⟩
  have k2 := kE_ofO k1
  unfold rngOf2 at k2
  split at k2
  · obtain ⟨v, y, rfl, q, q2⟩ := ru.two
    cases q; cases q2
    obtain ⟨hb, k2⟩ := k2.ite
    rw [Bool.and_eq_true] at hb
    exact ⟨_, _, rfl, ⟨(bd hb.1).1, (bd hb.1).2, (bd hb.2).1, (bd hb.2).2⟩, k2 r1 H1 _ (Ext.refl _ _) C1 (jok_rng _ _)⟩
  · exact k2.elim
end
/-! ### enumerate, zip, reversed -/
/-- the pairs of a list's places and items -/
def enumU (us : List U) : List U := (List.range us.length).zipWith (fun i u => .tup [.int (i : Nat), u]) us
def itEnum (u : U) (m : MH) : Option (ItU × MH) := match u with
  | .fl us => some (constIt (enumU us), m)
  | .cl us => some (constIt (enumU us), m)
  | .ref n => (match m[n]? with
    | some (.lst us) => some (⟨us.length, fun m i => ((refIt n us.length).get m i).map fun u => .tup [.int (i : Nat), u], (refIt n us.length).fin⟩, m)
    | _ => none)
  | _ => none
def one (us : List U) : Option U := match us with
  | [u] => some u
  | _ => none
def two (us : List U) : Option (U × U) := match us with
  | [u, w] => some (u, w)
  | _ => none
def cEnum (a : Fn1 (List U)) : I1 := fun t m => (a t m).bind fun us m1 => ofO ((one us).bind fun u => itEnum u m1)
theorem enumU_get (us : List U) (i : Nat) : (enumU us)[i]? = us[i]?.map fun u => .tup [.int (i : Nat), u] := by
  unfold enumU
  rw [List.getElem?_zipWith]
  by_cases h : i < us.length
  · rw [List.getElem?_range h]
    cases us[i]? <;> rfl
  · rw [List.getElem?_eq_none (by rw [List.length_range]; omega), List.getElem?_eq_none (by omega)]
    rfl
theorem enumU_len (us : List U) : (enumU us).length = us.length := by unfold enumU; rw [List.length_zipWith, List.length_range]; omega
section
variable {X : Cx} {W : WX} {tg : Expr} {p pos : Pos} {fa : Fn1 (List U)}
theorem pair_new {r : Gh} {m : MH} {H : Hp} {T : Addr} {u w : U} {x y : V} (C : Corr (cn X) r m H) (hT : H T = none) (ru : RU (cn X) r H u x) (rw' : RU (cn X) r H w y) :
    Ext r H r (upd H T (.tup [x, y])) ∧ Corr (cn X) r m (upd H T (.tup [x, y])) ∧ RU (cn X) r (upd H T (.tup [x, y])) (.tup [u, w]) (.ref T) := by
  obtain ⟨C1, e1, n1, n2⟩ := C.beside (o := .tup [x, y]) hT
  exact ⟨e1, C1, .tup (.inl ⟨n1, n2, Rd.of upd_same⟩) (.cons (ru.ext e1.w) (.cons (rw'.ext e1.w) .nil))⟩
theorem jok_enum {r : Gh} {H : Hp} {a : Addr} {xs : List V} {us : List U} (st : ∀ r' H', ExtW r H r' H' → SqL X.K H' a xs ∧ RUs (cn X) r' H' us xs) : JOk (cn X) r H (constIt (enumU us)) (Ite X.K a) := by
  intro i r' m' H' e C
  obtain ⟨h1, h2⟩ := st r' H' e
  refine ⟨fun u hi hu => ?_, fun hi _ => ⟨xs, h1, by rw [← h2.length, ← enumU_len us]; exact hi⟩⟩
  have hu' : (enumU us)[i]? = some u := hu
  rw [enumU_get, Option.map_eq_some_iff] at hu'
  obtain ⟨w, hw, rfl⟩ := hu'
  obtain ⟨x, e1, e2⟩ := h2.get hw
  refine ⟨⟨xs, x, h1, e1⟩, ?_⟩
  rintro y H'' ⟨T, z, rfl, hT, rfl, hz⟩
  have := hz xs h1
  rw [e1] at this
  cases this
  exact pair_new C hT (.int _) e2
theorem jok_enumR {r : Gh} {H : Hp} {n : Nat} {a : Addr} {k : Nat} (ha : r.r[n]? = some a) : JOk (cn X) r H ⟨k, fun m i => ((refIt n k).get m i).map fun u => .tup [.int (i : Nat), u], (refIt n k).fin⟩ (Ite X.K a) := by
  intro i r' m' H' e C
  have j := jok_ref (X := X) (H := H) (k := k) ha i r' m' H' e C
  refine ⟨fun u hi hu => ?_, fun hi hf => j.2 hi hf⟩
  have hu' : ((refIt n k).get m' i).map (fun u => U.tup [.int (i : Nat), u]) = some u := hu
  rw [Option.map_eq_some_iff] at hu'
  obtain ⟨w, hw, rfl⟩ := hu'
  obtain ⟨⟨xs, x, h1, e1⟩, q⟩ := j.1 w hi hw
  refine ⟨⟨xs, x, h1, e1⟩, ?_⟩
  rintro y H'' ⟨T, z, rfl, hT, rfl, hz⟩
  exact pair_new C hT (.int _) (q z H' ⟨rfl, hz⟩).2.2
theorem pi_enumU {e : Expr} {elts : List Expr} {kk : Nat} {tpos : Pos} (hn : noStar e = true) (hg : Gl X "enumerate") (hm : X.mg "enumerate" = none) (ha : PA X [e] (tAr (cn X) W fa)) : PI X (.Tuple elts kk tpos) (.Call (.Name "enumerate" p) [e] [] pos) (tIt (cn X) W (cEnum fa)) := by
  refine ⟨fun pins s σ H R I ⟨r, m, t, C, E, k⟩ => (pi_enum hg hm ha (star_cons hn)).run pins s σ H R I ⟨r, m, t, C, E, (kE.bind k).imp ?_⟩⟩
  rintro x H1 ⟨r1, m1, us, e1, C1, ru, k1⟩
  have k2 := kE_ofO k1
  cases e2 : one us with
  | none => rw [e2] at k2; exact k2.elim
  | some u =>
    rw [e2, Option.bind_some] at k2
    have hus : us = [u] := by
      unfold one at e2
      split at e2
      · cases e2; rfl
      · cases e2
    subst hus
    obtain ⟨v, rfl, q⟩ := ru.one
    cases q with
    | fl q1 q2 q3 qs => exact ⟨_, _, rfl, SqL.of q3, k2 r1 H1 _ (Ext.refl _ _) C1 (jok_enum fun r' H' e => ⟨SqL.of (e.keep _ _ q1 q2 q3).1, qs.ext e⟩)⟩
    | cl q qs => exact ⟨_, _, rfl, q.sq, k2 r1 H1 _ (Ext.refl _ _) C1 (jok_enum fun r' H' e => ⟨(q.ext e).sq, qs.ext e⟩)⟩
    | @ref n a q =>
      cases e3 : m1[n]? with
      | none => simp only [itEnum, e3] at k2; exact k2.elim
      | some o =>
        obtain ⟨a', ho, h1, h2, h3⟩ := C1.at_ n _ e3
        rw [q] at h1
        cases h1
        cases o with
        | lst us =>
          simp only [itEnum, e3] at k2
          cases h3 with | lst hs => exact ⟨_, _, rfl, SqL.of h2, k2 r1 H1 _ (Ext.refl _ _) C1 (jok_enumR q)⟩
        | _ => simp only [itEnum, e3] at k2; exact k2.elim
    | _ => exact k2.elim
end
end Mi
set_option Elab.async false
set_option linter.all false
set_option maxRecDepth 100000
set_option maxHeartbeats 4000000
/-! Mi, part J: list comprehensions. -/
namespace Mi
open PySem PySem.Spec PyProof.Rows L2
def wipeU (t : Env1) : List Nat → Env1
  | [] => t
  | v :: vs => (wipeU t vs).set v none
/-- no exception is let out -/
abbrev W0 : WX := fun _ _ _ _ => False
def cYes : Fn1 Bool := fun _ m => .ok true m
/-- the turns of a list comprehension -/
def lcI (it : ItU) (g : G1) (q : Fn1 Bool) (e : E1) (t0 : Env1) : Nat → Nat → List U → MH → Option (List U × MH)
  | 0, _, acc, m => if it.fin m = true then some (acc, m) else none
  | k + 1, i, acc, m => (it.get m i).bind fun u => (g u t0 m).bind fun p => match q p.1 p.2 with
    | .ok true m2 => (match e p.1 m2 with
      | .ok w m3 => lcI it g q e t0 k (i + 1) (acc ++ [w]) m3
      | _ => none)
    | .ok false m2 => lcI it g q e t0 k (i + 1) acc m2
    | _ => none
/-- the new list: unchanging, or one of the own heap -/
def flP (hp : Bool) (p : List U × MH) : U × MH := match hp with
  | true => (.ref p.2.length, p.2 ++ [.lst p.1])
  | false => (.fl p.1, p.2)
theorem Corr.adopt {c : Cn} {H : Hp} {m : MH} {D : Addr} {z R : List Addr} {ho : HO} {o : MO} (C : Corr c ⟨R, D :: z⟩ m H) (n2 : D ∉ z) (h : H D = Option.some ho) (q : RO c ⟨R, D :: z⟩ H o ho) :
    Corr c ⟨R ++ [D], z⟩ (m ++ [o]) H ∧ ExtW ⟨R, D :: z⟩ H ⟨R ++ [D], z⟩ H ∧ (R ++ [D])[m.length]? = Option.some D := by
  have n1 : D ∉ R := (C.res D List.mem_cons_self).1
  have e : ExtW ⟨R, D :: z⟩ H ⟨R ++ [D], z⟩ H := ⟨List.prefix_append R [D], fun b o' hb hz eb => ⟨eb, by
    show b ∉ R ++ [D]
    rw [List.mem_append]; rintro (x | x)
    · exact hb x
    · exact hz (by rw [List.mem_singleton.mp x]; exact List.mem_cons_self), fun x => hz (List.mem_cons_of_mem _ x)⟩⟩
  have ln : (R ++ [D])[m.length]? = Option.some D := by
    have : R.length = m.length := C.len
    rw [← this, List.getElem?_append_right (Nat.le_refl _), Nat.sub_self]; rfl
  refine ⟨⟨?_, ?_, fun i x hx => ?_, fun b hb => ⟨?_, (C.res b (List.mem_cons_of_mem _ hb)).2⟩⟩, e, ln⟩
  · have : R.length = m.length := C.len
    show (R ++ [D]).length = _
    rw [List.length_append, List.length_append, this]; rfl
  · show (R ++ [D]).Nodup
    rw [List.nodup_append]
    exact ⟨C.nd, (List.nodup_cons.mpr ⟨List.not_mem_nil, List.nodup_nil⟩), fun a ha b hb => by rw [List.mem_singleton.mp hb]; rintro rfl; exact n1 ha⟩
  · by_cases hi : i < m.length
    · rw [List.getElem?_append_left hi] at hx
      obtain ⟨a, ho', h1, h2, h3⟩ := C.at_ i x hx
      exact ⟨a, ho', pre_get e.pre h1, h2, h3.ext e⟩
    · have : i < (m ++ [o]).length := (List.getElem?_eq_some_iff.mp hx).1
      rw [List.length_append] at this
      have hi' : i = m.length := by simp at this; omega
      subst hi'
      rw [List.getElem?_append_right (Nat.le_refl _), Nat.sub_self] at hx
      cases hx
      exact ⟨D, ho, ln, h, q.ext e⟩
  · show b ∉ R ++ [D]
    rw [List.mem_append]; rintro (x | x)
    · exact (C.res b (List.mem_cons_of_mem _ hb)).1 x
    · exact n2 (List.mem_singleton.mp x ▸ hb)
def cLc (hp : Bool) (f : I1) (g : G1) (q : Fn1 Bool) (e : E1) (own : List Nat) : E1 := fun t m => (f t m).bind fun it m1 => ofO (if lineOk it.len = true then (lcI it g q e (wipeU t own) it.len 0 [] m1).map (flP hp) else none)
section
variable {c : Cn} {r : Gh} {H : Hp} {t : Env1} {s s' : L2.St}
theorem EnvR.wipe (E : EnvR c r H t s) : ∀ vs : List Nat, EnvR c r H (wipeU t vs) (L2.wipe s vs)
  | [] => E
  | v :: vs => (EnvR.wipe E vs).unset v
theorem wipe_mem : ∀ {vs : List Nat} {i : Nat}, i ∈ vs → i < s.length → (L2.wipe s vs)[i]? = some none
  | v :: vs, i, h, hl => by
    show ((L2.wipe s vs).set v none)[i]? = some none
    by_cases e : v = i
    · subst e
      exact List.getElem?_set_self (by rw [wipe_length]; exact hl)
    · rw [List.getElem?_set_ne e]
      exact wipe_mem ((List.mem_cons.mp h).resolve_left (fun z => e z.symm)) hl
theorem wipe_eq {vs : List Nat} (hl : s'.length = s.length) (h : ∀ i, i ∉ vs → s'[i]? = s[i]?) : L2.wipe s' vs = L2.wipe s vs := by
  apply List.ext_getElem?
  intro i
  by_cases hi : i ∈ vs
  · by_cases hb : i < s.length
    · rw [wipe_mem hi hb, wipe_mem hi (by rw [hl]; exact hb)]
    · rw [List.getElem?_eq_none (by rw [wipe_length, hl]; omega), List.getElem?_eq_none (by rw [wipe_length]; omega)]
  · rw [wipe_out hi, wipe_out hi, h i hi]
end
section
variable {X : Cx} {W : WX} {tg iter elt : Expr} {ifs : List Expr} {f : I1} {g : G1} {q : Fn1 Bool} {e : E1} {scope : Scope} {own : List (Str × Nat)} {pos : Pos} {L : List Nat} {hp : Bool}
theorem mpts_nil {c : Cn} {W : WX} : PTs X [] (tTs c W cYes) := ⟨fun pins s σ H Q I ⟨r, m, t, C, E, k⟩ => pts_nil.run pins s σ H Q I (kE.ok k C rfl)⟩
theorem lc_core' {J : It} {it : ItU} {r1 : Gh} {m1 : MH} {H1 : Hp} {t : Env1} {σ : L2.St} {vs : List Nat} {Q : VK} (hL : ∀ i ∈ L, i ∈ vs) (jo : JOk (cn X) r1 H1 it J) (C1 : Corr (cn X) r1 m1 H1) (E1 : EnvR (cn X) r1 H1 t σ)
    (k : kO (cn X) RU r1 H1 Q (if lineOk it.len = true then (lcI it g q e (wipeU t vs) it.len 0 [] m1).map (flP hp) else none)) (D : Addr) (hD : H1 D = none) :
    ∃ Wv : Nat → Nat → Hp → Prop, (∃ m, Wv 0 m (upd H1 D (.lst []))) ∧ ∀ i m H, Wv i m H →
      (J.stop i H ∧ Q (.ref D) H) ∨ (J.go i H ∧ ∃ Nx : Hp → Prop, (∀ H', Nx H' → ∃ m', m' < m ∧ Wv (i + 1) m' H') ∧ ∀ x H', J.yld i H x H' → tGt (cn X) L g x (L2.wipe σ vs) H' fun σ2 H2 => L2.wipe σ2 vs = L2.wipe σ vs ∧ tTs (cn X) W0 q σ2 H2 fun b H3 =>
        if b = true then tE (cn X) W0 e σ2 H3 fun y H4 => ∃ acc, H4 D = some (.lst acc) ∧ acc.length < sizeLine ∧ Nx (upd H4 D (.lst (acc ++ [y]))) else Nx H3) := by
  obtain ⟨hlen, k⟩ : lineOk it.len = true ∧ kO (cn X) RU r1 H1 Q ((lcI it g q e (wipeU t vs) it.len 0 [] m1).map (flP hp)) := by
    revert k
    by_cases h : lineOk it.len = true
    · rw [if_pos h]; exact fun k => ⟨h, k⟩
    · rw [if_neg h]; exact fun k => k.elim
  have hlen := lineOk_of hlen
  obtain ⟨nD, nDz⟩ := C1.free hD
  obtain ⟨C2, e2⟩ := C1.reserve (o := .lst []) hD
  refine ⟨fun i k H' => i + k = it.len ∧ ∃ r' m' acc ys, ExtW r1 H1 r' H' ∧ r'.z = D :: r1.z ∧ (∀ b ∈ r1.z, H' b = H1 b) ∧ Corr (cn X) r' m' H' ∧ RUs (cn X) r' H' acc ys ∧ H' D = some (.lst ys) ∧ acc.length ≤ i ∧
    kO (cn X) RU r1 H1 Q ((lcI it g q e (wipeU t vs) k i acc m').map (flP hp)), ⟨it.len, Nat.zero_add _, _, m1, [], [], e2, rfl, fun b hb => upd_ne (show b ≠ D by rintro rfl; exact nDz hb), C2, .nil, upd_same, Nat.le_refl _, k⟩, ?_⟩
  rintro i k H' ⟨hk, r', m', acc, ys, eW, hz, hres, C', R', hDy, hacc, kk⟩
  have jj := jo i r' m' H' eW C'
  cases k with
  | zero =>
    refine .inl ?_
    unfold lcI at kk
    by_cases hf : it.fin m' = true
    · rw [if_pos hf] at kk
      refine ⟨jj.2 (by omega) hf, ?_⟩
      obtain ⟨R, Z⟩ := r'
      dsimp only at hz
      subst hz
      obtain ⟨C3, e3, n3⟩ := C'.release
      cases hp with
      | false => exact kk ⟨R, r1.z⟩ H' (.ref D) ⟨eW.trans e3, rfl, hres⟩ C3 (.fl n3 nDz hDy (R'.ext e3))
      | true =>
        obtain ⟨C5, e5, g5⟩ := C'.adopt nDz hDy (RO.lst R')
        exact kk ⟨R ++ [D], r1.z⟩ H' (.ref D) ⟨eW.trans e5, rfl, hres⟩ C5 (.ref g5)
    · rw [if_neg hf] at kk; exact kk.elim
  | succ k =>
    refine .inr ?_
    unfold lcI at kk
    cases e3 : it.get m' i with
    | none => rw [e3] at kk; exact kk.elim
    | some u =>
      rw [e3, Option.bind_some] at kk
      obtain ⟨go, yl⟩ := jj.1 u (by omega) e3
      refine ⟨go, fun H2 => (i + 1) + k = it.len ∧ ∃ r' m' acc ys, ExtW r1 H1 r' H2 ∧ r'.z = D :: r1.z ∧ (∀ b ∈ r1.z, H2 b = H1 b) ∧ Corr (cn X) r' m' H2 ∧ RUs (cn X) r' H2 acc ys ∧ H2 D = some (.lst ys) ∧ acc.length ≤ i + 1 ∧
        kO (cn X) RU r1 H1 Q ((lcI it g q e (wipeU t vs) k (i + 1) acc m').map (flP hp)), fun H2 w => ⟨k, Nat.lt_succ_self _, w⟩, ?_⟩
      intro x H3 hy
      obtain ⟨e4, C4, ru⟩ := yl x H3 hy
      have ew4 := eW.trans e4.w
      refine ⟨r', m', wipeU t vs, u, C4, (E1.ext ew4).wipe vs, ru, ?_⟩
      cases e5 : g u (wipeU t vs) m' with
      | none => rw [e5] at kk; exact kk.elim
      | some p =>
        obtain ⟨t6, m6⟩ := p
        rw [e5, Option.bind_some] at kk
        dsimp only at kk
        intro r6 H6 s6 e6 C6 E6
        have e46 := e4.trans e6
        refine ⟨wipe_eq (s := L2.wipe σ vs) E6.2.1 (fun j hj => E6.2.2 j fun z => hj (hL j z)) |>.trans (wipe_eq (wipe_length σ vs) fun j hj => wipe_out hj), r6, m6, t6, C6, E6.1, ?_⟩
        cases e7 : q t6 m6 with
        | err x7 m7 => rw [e7] at kk; exact kk.elim
        | bad => rw [e7] at kk; exact kk.elim
        | ok b7 m7 =>
          rw [e7] at kk
          rintro r8 H8 b8 e8 C8 rfl
          have e48 := e46.trans e8
          have zz : ∀ {r9 : Gh} {H9 : Hp}, Ext r' H' r9 H9 → r9.z = D :: r1.z ∧ (∀ b ∈ r1.z, H9 b = H1 b) ∧ H9 D = some (.lst ys) := fun e9 =>
            ⟨e9.z.trans hz, fun b hb => (e9.res b (by rw [hz]; exact List.mem_cons_of_mem _ hb)).trans (hres b hb), (e9.res D (by rw [hz]; exact List.mem_cons_self)).trans hDy⟩
          cases b7 with
          | false =>
            dsimp only at kk
            obtain ⟨z1, z2, z3⟩ := zz e48
            exact iteF ⟨by omega, r8, m7, acc, ys, eW.trans e48.w, z1, z2, C8, R'.ext e48.w, z3, Nat.le_succ_of_le hacc, kk⟩
          | true =>
            dsimp only at kk
            refine iteT ⟨r8, m7, t6, C8, E6.1.ext e8.w, ?_⟩
            cases e9 : e t6 m7 with
            | err x9 m9 => rw [e9] at kk; exact kk.elim
            | bad => rw [e9] at kk; exact kk.elim
            | ok w9 m9 =>
              rw [e9] at kk
              intro ra Ha y ea Ca ry
              have e4a := e48.trans ea
              obtain ⟨z1, z2, z3⟩ := zz e4a
              have ly : ys.length < sizeLine := by rw [← R'.length]; omega
              refine ⟨ys, z3, ly, by omega, ?_⟩
              obtain ⟨R, Z⟩ := ra
              dsimp only at z1
              subst z1
              obtain ⟨Cb, eb⟩ := Ca.rewrite (o := .lst (ys ++ [y]))
              exact ⟨⟨R, D :: r1.z⟩, m9, acc ++ [w9], ys ++ [y], (eW.trans e4a.w).trans eb, rfl, fun b hb => (upd_ne (show b ≠ D by rintro rfl; exact nDz hb)).trans (z2 b hb), Cb, (((R'.ext e4a.w).app (.cons ry .nil))).ext eb, upd_same,
                by rw [List.length_append]; exact Nat.succ_le_succ hacc, kk⟩
theorem mi_lc (hc : X.calm = true) (hN : X.N.Nodup) (hL : ∀ i ∈ L, i ∈ own.map (·.2)) (hi : PI X tg iter (tIt (cn X) W f)) (ok : BlkOk X.N X.env.scope scope own)
    (hg : ∀ (s : Shared) (H : Hp) (C : Addr) (cl : List (Str × Addr)) (fp : List Addr), PG (X.blk s H scope (compEnvC scope cl C X.env) fp) tg (tGt (cn X) L g)) (ht : ∀ (s : Shared) (H : Hp) (C : Addr) (cl : List (Str × Addr)) (fp : List Addr), PTs (X.blk s H scope (compEnvC scope cl C X.env) fp) ifs (tTs (cn X) W0 q))
    (he : ∀ (s : Shared) (H : Hp) (C : Addr) (cl : List (Str × Addr)) (fp : List Addr), PE (X.blk s H scope (compEnvC scope cl C X.env) fp) elt (tE (cn X) W0 e)) (hs : ∀ x, foldedSetIterable iter X.env x = pure x) :
    PE X (.ListComp elt [⟨tg, iter, ifs, 0⟩] scope pos) (tE (cn X) W (cLc hp f g q e (own.map (·.2)))) := by
  refine (pe_lc hc hN hi ok hg ht he hs).weak fun s H Q ⟨r, m, t, C, E, k⟩ => ⟨r, m, t, C, E, (kE.bind k).imp ?_⟩
  rintro J H1 ⟨r1, m1, it, e1, C1, jo, k1⟩
  exact fun D hD => lc_core' hL jo C1 (E.ext e1.w) (kE_ofO k1) D hD
/-- name = [..] on one line -/
theorem ms_setLc {i : Nat} {y : Str} {py spos : Pos} (hc : X.calm = true) (hN : X.N.Nodup) (hy : X.N[i]? = some y) (hyl : X.env.scope.names.lookup y = some .local) (hsw : swapsWith (.ListComp elt [⟨tg, iter, ifs, 0⟩] scope pos) (some (.Name y py)) spos.line X.env = pure true)
    (hL : ∀ i ∈ L, i ∈ own.map (·.2)) (hi : PI X tg iter (tIt (cn X) W f)) (ok : BlkOk X.N X.env.scope scope own)
    (hg : ∀ (s : Shared) (H : Hp) (C : Addr) (cl : List (Str × Addr)) (fp : List Addr), PG (X.blk s H scope (compEnvC scope cl C X.env) fp) tg (tGt (cn X) L g)) (ht : ∀ (s : Shared) (H : Hp) (C : Addr) (cl : List (Str × Addr)) (fp : List Addr), PTs (X.blk s H scope (compEnvC scope cl C X.env) fp) ifs (tTs (cn X) W0 q))
    (he : ∀ (s : Shared) (H : Hp) (C : Addr) (cl : List (Str × Addr)) (fp : List Addr), PE (X.blk s H scope (compEnvC scope cl C X.env) fp) elt (tE (cn X) W0 e)) (hs : ∀ x, foldedSetIterable iter X.env x = pure x) :
    PS X (.Assign [.Name y py] (.ListComp elt [⟨tg, iter, ifs, 0⟩] scope pos) spos) (tS (cn X) W (sAsg (cLc hp f g q e (own.map (·.2))) (gName i))) := by
  refine (ps_setLc hc hN hy hyl hsw hi ok hg ht he hs).weak fun D s H ⟨r, m, t, C, E, k⟩ => ?_
  have k' : kE (cn X) RU W r H s (fun v H1 => D.nx (s.set i (some v)) H1) (cLc hp f g q e (own.map (·.2)) t m) := by
    refine (kS_E E k).imp ?_
    rintro x H1 ⟨r1, m1, u, e1, C1, ru, E1, k1⟩
    exact k1 r1 H1 _ (Ext.refl _ _) C1 (E1.set ru i)
  refine ⟨r, m, t, C, E, (kE.bind k').imp ?_⟩
  rintro J H1 ⟨r1, m1, it, e1, C1, jo, k1⟩
  exact fun Dd hD => lc_core' (Q := fun v H1 => D.nx (s.set i (some v)) H1) hL jo C1 (E.ext e1.w) (kE_ofO k1) Dd hD
end
end Mi
set_option Elab.async false
set_option linter.all false
set_option maxRecDepth 100000
set_option maxHeartbeats 4000000
/-! Mi, part K: methods, attributes, stores. -/
namespace Mi
open PySem PySem.Spec PyProof.Rows L2
/-! ### methods of built-in types -/
abbrev MU := U → List U → MH → Option (U × MH)
def MtU (X : Cx) (id : String) (phi : MU) : Prop := ∀ (pins : List (Addr × Obj)) (s : Shared) (σ : L2.St) (H : Hp) (x : V) (xs : List V) (v : Value) (us : List Value) (Q : VK), Inv X pins σ H s → RelV x v → Vals xs us →
  (∃ r m u ws, Corr (cn X) r m H ∧ RU (cn X) r H u x ∧ RUs (cn X) r H ws xs ∧ kO (cn X) RU r H Q (phi u ws m)) → wpAny (model X.prog X.w) X.A (call (.builtin id) (v :: us)) (EP X pins σ Q) X.xe s
def lstAt (n : Nat) (m : MH) : Option (List U) := match m[n]? with
  | some (.lst us) => some us
  | _ => none
def meAppend : MU
  | .ref n, [u], m => (lstAt n m).bind fun us => if lineOk (us.length + 1) = true then some (.non, m.set n (.lst (us ++ [u]))) else none
  | _, _, _ => none
def mePop : MU
  | .ref n, [.int i], m => (lstAt n m).bind fun us => (ixN us.length i).bind fun j => (us[j]?).map fun u => (u, m.set n (.lst (us.eraseIdx j)))
  | .ref n, [], m => (lstAt n m).bind fun us => (us[us.length - 1]?).map fun u => (u, m.set n (.lst us.dropLast))
  | _, _, _ => none
def meExtend : MU
  | .ref n, [w], m => (lstAt n m).bind fun us => (seqW w m).bind fun ws => if lineOk (us.length + ws.length) = true then some (.non, m.set n (.lst (us ++ ws))) else none
  | _, _, _ => none
def meJoin : MU
  | .str a, [w], m => (itemsU w m).bind fun us => (strsOf us).bind fun ys => if decide ((ys.map (·.length)).sum + ys.length * a.length ≤ 16777216) = true then some (.str (Txt.join a ys), m) else none
  | _, _, _ => none
def meUpper : MU
  | .str a, [], m => if decide (a.length ≤ 5592405) = true then some (.str (Txt.upper a), m) else none
  | _, _, _ => none
def meSplit : MU
  | .str a, [.str b], m => if (!(b.length == 0) && lineOk (a.length + 2)) = true then mkFl ((Txt.split a b).map U.str) m else none
  | _, _, _ => none
theorem lstAt_ok {c : Cn} {r : Gh} {H : Hp} {m : MH} (C : Corr c r m H) {n : Nat} {v : V} {us : List U} (ru : RU c r H (.ref n) v) (e : lstAt n m = some us) : ∃ a xs, v = .ref a ∧ r.r[n]? = some a ∧ H a = some (.lst xs) ∧ RUs c r H us xs := by
  cases ru with
  | ref h =>
    unfold lstAt at e
    cases q : m[n]? with
    | none => rw [q] at e; cases e
    | some o =>
      obtain ⟨a', ho, h1, h2, h3⟩ := C.at_ n _ q
      rw [h] at h1
      cases h1
      rw [q] at e
      cases o with
      | lst ws => cases e; cases h3 with | lst hs => exact ⟨_, _, rfl, h, h2, hs⟩
      | _ => cases e
theorem strs_all {c : Cn} {r : Gh} {H : Hp} : ∀ ys : List Str, RUs c r H (ys.map U.str) (ys.map V.str)
  | [] => .nil
  | y :: ys => .cons (.str y) (strs_all ys)
section
variable {X : Cx}
theorem me_append : MtU X "list.append" meAppend := by
  intro pins s σ H x xs v us Q I rx rs h
  obtain ⟨r, m, u, ws, C, ru, rw', k⟩ := h
  unfold meAppend at k
  split at k
  · rename_i n w
    obtain ⟨y, rfl, ry⟩ := rw'.one
    cases e : lstAt n m with
    | none => rw [e] at k; exact k.elim
    | some as =>
      rw [e, Option.bind_some] at k
      obtain ⟨a, zs, rfl, h1, h2, h3⟩ := lstAt_ok C ru e
      obtain ⟨hb, k⟩ := k.ite
      have hl := lineOk_of hb
      obtain ⟨C1, e1⟩ := C.put (o := .lst (as ++ [w])) (ho := .lst (zs ++ [y])) h1 (.lst (h3.app (.cons ry .nil)))
      exact mt_append pins s σ H _ _ v us Q I rx rs ⟨a, zs, y, rfl, rfl, h2, by rw [← h3.length]; exact hl, k r _ .non e1 C1 .non⟩
  · exact k.elim
theorem me_pop : MtU X "list.pop" mePop := by
  intro pins s σ H x xs v us Q I rx rs h
  obtain ⟨r, m, u, ws, C, ru, rw', k⟩ := h
  unfold mePop at k
  split at k
  · rename_i n i
    obtain ⟨y, rfl, ry⟩ := rw'.one
    cases ry
    cases e : lstAt n m with
    | none => rw [e] at k; exact k.elim
    | some as =>
      rw [e, Option.bind_some] at k
      obtain ⟨a, zs, rfl, h1, h2, h3⟩ := lstAt_ok C ru e
      cases e2 : ixN as.length i with
      | none => rw [e2] at k; exact k.elim
      | some j =>
        rw [e2, Option.bind_some] at k
        cases e3 : as[j]? with
        | none => rw [e3] at k; exact k.elim
        | some w =>
          rw [e3] at k
          obtain ⟨z, e4, e5⟩ := h3.get e3
          rw [h3.length] at e2
          obtain ⟨g1, g2, g3, g4⟩ := ixN_seq e2
          obtain ⟨C1, e1⟩ := C.put (o := .lst (as.eraseIdx j)) (ho := .lst (zs.eraseIdx j)) h1 (.lst (h3.erase j))
          have hz := (I.list (SqL.of h2 (K := X.K))).choose_spec.2.2
          have hln := line63
          exact mt_popAt pins s σ H _ _ v us Q I rx rs ⟨a, zs, i, j, z, rfl, rfl, h2, by omega, by omega, g1, e4, k r _ z e1 C1 (e5.ext e1.w)⟩
  · rename_i n
    cases rw'
    cases e : lstAt n m with
    | none => rw [e] at k; exact k.elim
    | some as =>
      rw [e, Option.bind_some] at k
      obtain ⟨a, zs, rfl, h1, h2, h3⟩ := lstAt_ok C ru e
      cases e3 : as[as.length - 1]? with
      | none => rw [e3] at k; exact k.elim
      | some w =>
        rw [e3] at k
        obtain ⟨z, e4, e5⟩ := h3.get e3
        rw [h3.length] at e4
        have hd : RUs (cn X) r H as.dropLast zs.dropLast := by
          rw [List.dropLast_eq_take, List.dropLast_eq_take, ← h3.length]
          exact h3.take _
        obtain ⟨C1, e1⟩ := C.put (o := .lst as.dropLast) (ho := .lst zs.dropLast) h1 (.lst hd)
        exact mt_pop pins s σ H _ _ v us Q I rx rs ⟨a, zs, z, rfl, rfl, h2, e4, k r _ z e1 C1 (e5.ext e1.w)⟩
  · exact k.elim
theorem me_extend : MtU X "list.extend" meExtend := by
  intro pins s σ H x xs v us Q I rx rs h
  obtain ⟨r, m, u, ws, C, ru, rw', k⟩ := h
  unfold meExtend at k
  split at k
  · rename_i n w
    obtain ⟨y, rfl, ry⟩ := rw'.one
    cases e : lstAt n m with
    | none => rw [e] at k; exact k.elim
    | some as =>
      rw [e, Option.bind_some] at k
      obtain ⟨a, zs, rfl, h1, h2, h3⟩ := lstAt_ok C ru e
      cases e2 : seqW w m with
      | none => rw [e2] at k; exact k.elim
      | some bs =>
        rw [e2, Option.bind_some] at k
        obtain ⟨b, ys, rfl, h4, h5⟩ := seqW_ok C ry e2
        obtain ⟨hb, k⟩ := k.ite
        have hl := lineOk_of hb
        obtain ⟨C1, e1⟩ := C.put (o := .lst (as ++ bs)) (ho := .lst (zs ++ ys)) h1 (.lst (h3.app h5))
        exact mt_extend pins s σ H _ _ v us Q I rx rs ⟨a, b, zs, ys, rfl, rfl, h2, h4, by rw [← h3.length, ← h5.length]; exact hl, k r _ .non e1 C1 .non⟩
  · exact k.elim
theorem me_join : MtU X "str.join" meJoin := by
  intro pins s σ H x xs v us Q I rx rs h
  obtain ⟨r, m, u, ws, C, ru, rw', k⟩ := h
  unfold meJoin at k
  split at k
  · rename_i a w
    obtain ⟨y, rfl, ry⟩ := rw'.one
    cases ru
    cases e : itemsU w m with
    | none => rw [e] at k; exact k.elim
    | some as =>
      rw [e, Option.bind_some] at k
      cases e2 : strsOf as with
      | none => rw [e2] at k; exact k.elim
      | some ys =>
        rw [e2, Option.bind_some] at k
        obtain ⟨hb, k⟩ := k.ite
        have hq := k.get C (.str _)
        have lists : seqL w m = some as → wpAny (model X.prog X.w) X.A (call (.builtin "str.join") (v :: us)) (EP X pins σ Q) X.xe s := by
          intro e3
          obtain ⟨l, zs, rfl, h1, h2⟩ := seqL_ok C ry e3
          have := strsOf_ok h2 e2
          subst this
          exact mt_join pins s σ H _ _ v us Q I rx rs ⟨_, _, ys, rfl, rfl, .inl h1, of_decide_eq_true hb, hq⟩
        cases w with
        | tup as' =>
          cases e
          cases ry with
          | tup q qs =>
            have := strsOf_ok qs e2
            subst this
            exact mt_join pins s σ H _ _ v us Q I rx rs ⟨_, _, ys, rfl, rfl, .inr q.sq, of_decide_eq_true hb, hq⟩
        | _ => exact lists e
  · exact k.elim
theorem me_upper : MtU X "str.upper" meUpper := by
  intro pins s σ H x xs v us Q I rx rs h
  obtain ⟨r, m, u, ws, C, ru, rw', k⟩ := h
  unfold meUpper at k
  split at k
  · cases ru
    cases rw'
    obtain ⟨hb, k⟩ := k.ite
    exact mt_upper pins s σ H _ _ v us Q I rx rs ⟨_, rfl, rfl, of_decide_eq_true hb, k.get C (.str _)⟩
  · exact k.elim
theorem me_split : MtU X "str.split" meSplit := by
  intro pins s σ H x xs v us Q I rx rs h
  obtain ⟨r, m, u, ws, C, ru, rw', k⟩ := h
  unfold meSplit at k
  split at k
  · cases ru
    obtain ⟨y, rfl, ry⟩ := rw'.one
    cases ry
    rename_i a b
    by_cases hb : (!(b.length == 0) && lineOk (a.length + 2)) = true
    · rw [if_pos hb] at k
      rw [Bool.and_eq_true] at hb
      have h0 : (b.length == 0) = false := by
        have := hb.1
        cases q : (b.length == 0) with
        | false => rfl
        | true => rw [q] at this; cases this
      exact mt_split pins s σ H _ _ v us Q I rx rs ⟨_, _, rfl, rfl, h0, lineOk_of hb.2, (ko_fl C (strs_all _) k).2⟩
    · rw [if_neg hb] at k; exact k.elim
  · exact k.elim
end
end Mi
/-! Mk, part B: more methods of lists. -/
namespace Mi
open PySem PySem.Spec PyProof.Rows L2
set_option linter.unusedVariables false
/-- a flat value by its Value -/
def flatOf : Value → V
  | .none => .non
  | .bool b => .bl b
  | .int i _ => .int i
  | .str x _ => .str x
  | _ => .non
theorem flatOf_rel {z : V} {y : Value} (h : RelV z y) (f : flatV z = true) : flatOf y = z := by
  cases z with
  | non => cases h; rfl
  | bl b => cases h; rfl
  | int i => obtain ⟨t, rfl⟩ := h; rfl
  | str x => obtain ⟨t, rfl⟩ := h; rfl
  | _ => cases f
/-- how often -/
def cntU (x : U) (us : List U) : Nat := us.countP fun z => PyData.eqv (toD z) (toD x)
/-- the first place, where there is one -/
def fstU (x : U) : List U → Option Nat
  | [] => none
  | z :: r => if PyData.eqv (toD z) (toD x) = true then some 0 else (fstU x r).map (· + 1)
def meCount : MU := fun u ws m => match ws with
  | [x] => (seqL u m).bind fun us => if (flatU x && us.all flatU) = true then some (.int (cntU x us : Nat), m) else none
  | _ => none
def meIndex : MU := fun u ws m => match ws with
  | [x] => (seqL u m).bind fun us => if (flatU x && us.all flatU) = true then (fstU x us).map fun j => (.int (j : Nat), m) else none
  | _ => none
def meInsert : MU
  | .ref n, [.int i, w], m => (lstAt n m).bind fun us => if (decide (0 ≤ i) && decide (i < 2 ^ 60) && lineOk (us.length + 1)) = true then some (.non, m.set n (.lst (us.take i.toNat ++ [w] ++ us.drop i.toNat))) else none
  | _, _, _ => none
def meClear : MU
  | .ref n, [], m => (lstAt n m).bind fun _ => some (.non, m.set n (.lst []))
  | _, _, _ => none
def meReverse : MU
  | .ref n, [], m => (lstAt n m).bind fun us => some (.non, m.set n (.lst us.reverse))
  | _, _, _ => none
section
variable {c : Cn} {r : Gh} {H : Hp}
theorem cnt_vals {x : V} {u : U} (ru : RU c r H u x) (fu : flatU u = true) : ∀ {us : List U} {xs : List V} {vs : List Value}, RUs c r H us xs → Vals xs vs → us.all flatU = true → vs.countP (fun y => eqV (flatOf y) x) = cntU u us
  | [], _, _, .nil, .nil, _ => rfl
  | w :: us, _, _, .cons (x := z) rw' rs, .cons rv rvs, h => by
    rw [List.all_cons, Bool.and_eq_true] at h
    have ih := cnt_vals ru fu rs rvs h.2
    unfold cntU at ih ⊢
    rw [List.countP_cons, List.countP_cons, ih, flatOf_rel rv (flat_ok rw' h.1), eqV_ok rw' ru h.1 fu]
theorem fst_vals {x : V} {u : U} (ru : RU c r H u x) (fu : flatU u = true) : ∀ {us : List U} {xs : List V} {j : Nat}, RUs c r H us xs → us.all flatU = true → fstU u us = some j → ∃ z, xs[j]? = some z ∧ eqV z x = true ∧ ∀ (m : Nat) (z' : V), m < j → xs[m]? = some z' → eqV z' x = false
  | [], _, _, .nil, _, e => by cases e
  | w :: us, _, j, .cons (x := z) rw' rs, h, e => by
    rw [List.all_cons, Bool.and_eq_true] at h
    unfold fstU at e
    have eq := eqV_ok rw' ru h.1 fu
    by_cases c0 : PyData.eqv (toD w) (toD u) = true
    · rw [if_pos c0] at e
      cases e
      exact ⟨z, rfl, eq.trans c0, fun m z' hm _ => absurd hm (Nat.not_lt_zero m)⟩
    · rw [if_neg c0, Option.map_eq_some_iff] at e
      obtain ⟨k, hk, rfl⟩ := e
      obtain ⟨z2, h1, h2, h3⟩ := fst_vals ru fu rs h.2 hk
      refine ⟨z2, h1, h2, fun m z' hm hz => ?_⟩
      cases m with
      | zero =>
        cases hz
        rw [eq]
        exact Bool.not_eq_true _ ▸ c0
      | succ m => exact h3 m z' (Nat.lt_of_succ_lt_succ hm) hz
end
section
variable {X : Cx}
theorem me_count : MtU X "list.count" meCount := by
  intro pins s σ H x xs v us Q I rx rs ⟨r, m, u, ws, C, ru, rw', k⟩
  match ws, rw', k with
  | [], _, k => exact k.elim
  | _ :: _ :: _, _, k => exact k.elim
  | [w], rw', k =>
    obtain ⟨y, rfl, ry⟩ := rw'.one
    obtain ⟨y0, rfl, rely⟩ := rs.one
    have k' : kO (cn X) RU r H Q ((seqL u m).bind fun us => if (flatU w && us.all flatU) = true then some (.int (cntU w us : Nat), m) else none) := k
    cases e : seqL u m with
    | none => rw [e] at k'; exact k'.elim
    | some as =>
      rw [e, Option.bind_some] at k'
      obtain ⟨hf, k'⟩ := k'.ite
      rw [Bool.and_eq_true] at hf
      obtain ⟨a, zs, rfl, h1, h2⟩ := seqL_ok C ru e
      cases rx
      obtain ⟨its, rv, ⟨⟨cls, dd, data, sl⟩, n, ho, hc, hdn, hd⟩, _⟩ := I.list h1
      simp only at hc hd
      subst hc hd
      have fz := flats_ok h2 hf.2
      refine call_meets PySem.F.slot_list_count ⟨_, ho, rfl⟩ PySem.F.entry_list_count (PySem.F.args_list_count_2 _ _) (SeqAt.list_countAt a its.toArray n dd sl y0 fun z => eqV (flatOf z) y) ⟨ho, fun z hz => ?_, ?_⟩
      · have hz' : z ∈ its := by simpa using hz
        obtain ⟨j, hj⟩ := List.getElem?_of_mem hz'
        have lj : j < zs.length := by rw [rv.length]; exact (List.getElem?_eq_some_iff.mp hj).1
        obtain ⟨z1, hz1, rz1⟩ := rv.get (List.getElem?_eq_getElem lj)
        rw [hj] at hz1
        cases hz1
        have fz1 : flatV zs[j] = true := List.all_eq_true.mp fz _ (List.getElem_mem lj)
        rw [flatOf_rel rz1 fz1]
        exact eqAt_V rz1 rely fz1 (flat_ok ry hf.1)
      · refine ⟨.int (cntU w as : Nat), H, I.tok _, ⟨s.toks, ?_⟩, k'.get C (.int _)⟩
        show Value.int ((its.toArray.toList.countP _ : Nat) : Int) s.toks = _
        rw [show its.toArray.toList = its from rfl, cnt_vals ry hf.1 h2 rv hf.2]
theorem me_index : MtU X "list.index" meIndex := by
  intro pins s σ H x xs v us Q I rx rs ⟨r, m, u, ws, C, ru, rw', k⟩
  match ws, rw', k with
  | [], _, k => exact k.elim
  | _ :: _ :: _, _, k => exact k.elim
  | [w], rw', k =>
    obtain ⟨y, rfl, ry⟩ := rw'.one
    have k' : kO (cn X) RU r H Q ((seqL u m).bind fun us => if (flatU w && us.all flatU) = true then (fstU w us).map fun j => (.int (j : Nat), m) else none) := k
    cases e : seqL u m with
    | none => rw [e] at k'; exact k'.elim
    | some as =>
      rw [e, Option.bind_some] at k'
      by_cases hf : (flatU w && as.all flatU) = true
      · rw [if_pos hf] at k'
        rw [Bool.and_eq_true] at hf
        obtain ⟨j, ej, k'⟩ := map_some (g := fun j : Nat => U.int (j : Int)) k'
        obtain ⟨a, zs, rfl, h1, h2⟩ := seqL_ok C ru e
        obtain ⟨z, g1, g2, g3⟩ := fst_vals ry hf.1 h2 hf.2 ej
        exact mt_index pins s σ H _ _ v us Q I rx rs ⟨a, zs, y, j, z, rfl, rfl, h1, flat_ok ry hf.1, flats_ok h2 hf.2, g1, g2, g3, k'.get C (.int _)⟩
      · rw [if_neg hf] at k'; exact k'.elim
theorem me_insert : MtU X "list.insert" meInsert := by
  intro pins s σ H x xs v us Q I rx rs ⟨r, m, u, ws, C, ru, rw', k⟩
  unfold meInsert at k
  split at k
  · rename_i n i w
    obtain ⟨y1, y2, rfl, ri, ry⟩ := rw'.two
    cases ri
    cases e : lstAt n m with
    | none => rw [e] at k; exact k.elim
    | some as =>
      rw [e, Option.bind_some] at k
      obtain ⟨a, zs, rfl, h1, h2, h3⟩ := lstAt_ok C ru e
      obtain ⟨hb, k⟩ := k.ite
      obtain ⟨b1, b2, b0⟩ := b3 hb
      have hl := lineOk_of b0
      have b1 := of_decide_eq_true b1
      have b2 := of_decide_eq_true b2
      obtain ⟨C1, e1⟩ := C.put (o := .lst (as.take i.toNat ++ [w] ++ as.drop i.toNat)) (ho := .lst (zs.take i.toNat ++ [y2] ++ zs.drop i.toNat)) h1 (.lst (((h3.take _).app (.cons ry .nil)).app (h3.drop _)))
      exact mt_insert pins s σ H _ _ v us Q I rx rs ⟨a, zs, i, y2, rfl, rfl, h2, by rw [← h3.length]; exact hl, b1, by omega, k r _ .non e1 C1 .non⟩
  · exact k.elim
theorem me_clear : MtU X "list.clear" meClear := by
  intro pins s σ H x xs v us Q I rx rs ⟨r, m, u, ws, C, ru, rw', k⟩
  unfold meClear at k
  split at k
  · rename_i n
    cases rw'
    cases rs
    cases e : lstAt n m with
    | none => rw [e] at k; exact k.elim
    | some as =>
      rw [e, Option.bind_some] at k
      obtain ⟨a, zs, rfl, h1, h2, h3⟩ := lstAt_ok C ru e
      obtain ⟨C1, e1⟩ := C.put (o := .lst []) (ho := .lst []) h1 (.lst .nil)
      exact mt_clear pins s σ H _ _ v _ Q I rx .nil ⟨a, zs, rfl, rfl, h2, k r _ .non e1 C1 .non⟩
  · exact k.elim
theorem me_reverse : MtU X "list.reverse" meReverse := by
  intro pins s σ H x xs v us Q I rx rs ⟨r, m, u, ws, C, ru, rw', k⟩
  unfold meReverse at k
  split at k
  · rename_i n
    cases rw'
    cases rs
    cases e : lstAt n m with
    | none => rw [e] at k; exact k.elim
    | some as =>
      rw [e, Option.bind_some] at k
      obtain ⟨a, zs, rfl, h1, h2, h3⟩ := lstAt_ok C ru e
      obtain ⟨C1, e1⟩ := C.put (o := .lst as.reverse) (ho := .lst zs.reverse) h1 (.lst h3.rev)
      exact mt_reverse pins s σ H _ _ v _ Q I rx .nil ⟨a, zs, rfl, rfl, h2, k r _ .non e1 C1 .non⟩
  · exact k.elim
end
end Mi
set_option Elab.async false
set_option linter.all false
set_option maxRecDepth 100000
set_option maxHeartbeats 4000000
/-! Mi, part L: what a run leans on (Tab); method calls; attributes; stores. -/
namespace Mi
open PySem PySem.Spec PyProof.Rows L2
abbrev FKey := Str × Option Str
/-- what a def, a class, a module's name is -/
structure Tab where
  call : FKey → List U → MH → Out U
  plan : FKey → Nat → List Str → Option (List U → List U → List U)
  isDef : Str → Bool
  isCls : Str → Bool
  meth : Str → Str → Bool
  fld : Str → Str → Bool
  con : Str → Option U
  glo : Str → Bool
  free : Str → Bool
  exc : Str → Bool
  sub : Str → Str → Option Bool
  isa : Str → U → Option Bool
  fuel : Nat
  heapAt : Pos → Bool
/-- the class that a value names -/
def clV (mg : Str → Option Value) : U → Value → Prop
  | .glo y, v => mg y = some v
  | .ty n, v => v = .type n
  | _, _ => False
structure TabOk (T : Tab) (P : Program) (w : World) (K : PySem.W.Frag) (mg : Str → Option Value) (base : Heap) (k : Nat) : Prop where
  sm : ∃ o, K.lookup sysModules = some o ∧ o.cls = .type "dict"
  def_ : ∀ x, T.isDef x = true → ∃ f fd ps, mg x = some (.ref f) ∧ PySem.W.keepIn K (.ref f) = true ∧ FnG P w K mg base k f fd ps (spU ⟨K, mg⟩ ps.length (T.call (x, none))) ∧ ∀ n ks g, T.plan (x, none) n ks = some g → BindU ⟨K, mg⟩ fd ps n ks g
  cls : ∀ x, T.isCls x = true → ∃ C f fd ps, mg x = some (.ref C) ∧ Mk K C f ∧ FnG P w K mg base k f fd ps (spU ⟨K, mg⟩ ps.length (T.call (x, some "__init__"))) ∧ ∀ n ks g, T.plan (x, some "__init__") n ks = some g → BindU ⟨K, mg⟩ fd ps n ks g
  meth : ∀ x m, T.meth x m = true → ∃ C f fd ps, mg x = some (.ref C) ∧ Cls K C ∧ Meth K C m f ∧ FnG P w K mg base k f fd ps (spU ⟨K, mg⟩ ps.length (T.call (x, some m))) ∧ ∀ n ks g, T.plan (x, some m) n ks = some g → BindU ⟨K, mg⟩ fd ps n ks g
  fld : ∀ x f, T.fld x f = true → ∃ C, mg x = some (.ref C) ∧ Cls K C ∧ NoAttr K C f
  con : ∀ x u, T.con x = some u → ∃ v val, mg x = some val ∧ RelV v val ∧ ∀ r H, RU ⟨K, mg⟩ r H u v
  glo : ∀ x, T.glo x = true → ∃ a, mg x = some (.ref a)
  free : ∀ x, T.free x = true → mg x = none
  exc : ∀ x, T.exc x = true → ∃ C, mg x = some (.ref C) ∧ PySem.W.excIn K C [.type "ValueError", .type "Exception", .type "BaseException", .type "object"] "ValueError.__new__" = true ∧ PySem.W.keepIn K (.ref C) = true ∧ PySem.W.subIn K (.ref C) (.type "BaseException") = some true ∧ PySem.W.typeIn K (.ref C) = some (.type "type")
  sub : ∀ x y b, T.sub x y = some b → ∃ C D, mg x = some (.ref C) ∧ mg y = some (.ref D) ∧ PySem.W.exmOne K (.ref C) (.ref D) = some b
  isa : ∀ x u b, T.isa x u = some b → ∃ C cv, mg x = some (.ref C) ∧ ExcC K C ∧ clV mg u cv ∧ PySem.W.kitOne K (.ref C) cv = some b
/-- the tables of methods -/
def listTab (name : Str) : Option MU := if name = "append" then some meAppend else if name = "pop" then some mePop else if name = "extend" then some meExtend else if name = "count" then some meCount else if name = "index" then some meIndex else if name = "insert" then some meInsert else if name = "clear" then some meClear else if name = "reverse" then some meReverse else none
def strTab (name : Str) : Option MU := if name = "join" then some meJoin else if name = "upper" then some meUpper else if name = "split" then some meSplit else none
def methTab (name : Str) (kind : String) : Option MU := if kind = "list" then listTab name else if kind = "str" then strTab name else none
def MethIs (X : Cx) (kind : String) (name : Str) (phi : MU) : Prop := ∃ id, PlainAttrs kind ∧ Slot kind name id ∧ typeOf (.builtin id) = pure (.type "method_descriptor") ∧ MtU X id phi
theorem listTab_ok {X : Cx} {name : Str} {phi : MU} (h : listTab name = some phi) : MethIs X "list" name phi := by
  unfold listTab at h
  split at h
  · rename_i hn; cases h; subst hn; exact ⟨_, PySem.F.plainAttrs_list, PySem.F.slot_list_append, PySem.F.type_list_append, me_append⟩
  split at h
  · rename_i hn; cases h; subst hn; exact ⟨_, PySem.F.plainAttrs_list, PySem.F.slot_list_pop, PySem.F.type_list_pop, me_pop⟩
  split at h
  · rename_i hn; cases h; subst hn; exact ⟨_, PySem.F.plainAttrs_list, PySem.F.slot_list_extend, PySem.F.type_list_extend, me_extend⟩
  split at h
  · rename_i hn; cases h; subst hn; exact ⟨_, PySem.F.plainAttrs_list, PySem.F.slot_list_count, PySem.F.type_list_count, me_count⟩
  split at h
  · rename_i hn; cases h; subst hn; exact ⟨_, PySem.F.plainAttrs_list, PySem.F.slot_list_index, PySem.F.type_list_index, me_index⟩
  split at h
  · rename_i hn; cases h; subst hn; exact ⟨_, PySem.F.plainAttrs_list, PySem.F.slot_list_insert, PySem.F.type_list_insert, me_insert⟩
  split at h
  · rename_i hn; cases h; subst hn; exact ⟨_, PySem.F.plainAttrs_list, PySem.F.slot_list_clear, PySem.F.type_list_clear, me_clear⟩
  split at h
  · rename_i hn; cases h; subst hn; exact ⟨_, PySem.F.plainAttrs_list, PySem.F.slot_list_reverse, PySem.F.type_list_reverse, me_reverse⟩
  cases h
theorem strTab_ok {X : Cx} {name : Str} {phi : MU} (h : strTab name = some phi) : MethIs X "str" name phi := by
  unfold strTab at h
  split at h
  · rename_i hn; cases h; subst hn; exact ⟨_, PySem.F.plainAttrs_str, PySem.F.slot_str_join, PySem.F.type_str_join, me_join⟩
  split at h
  · rename_i hn; cases h; subst hn; exact ⟨_, PySem.F.plainAttrs_str, PySem.F.slot_str_upper, PySem.F.type_str_upper, me_upper⟩
  split at h
  · rename_i hn; cases h; subst hn; exact ⟨_, PySem.F.plainAttrs_str, PySem.F.slot_str_split, PySem.F.type_str_split, me_split⟩
  cases h
theorem methTab_ok {X : Cx} {name : Str} {kind : String} {phi : MU} (h : methTab name kind = some phi) : ∃ id, PlainAttrs kind ∧ Slot kind name id ∧ typeOf (.builtin id) = pure (.type "method_descriptor") ∧ MtU X id phi := by
  unfold methTab at h
  split at h
  · rename_i hk; subst hk; exact listTab_ok h
  · split at h
    · rename_i hk; subst hk; exact strTab_ok h
    · cases h
/-- what kind of built-in thing a method is asked of -/
def recvK : U → MH → Option String
  | .str _, _ => some "str"
  | .fl _, _ => some "list"
  | .ref n, m => (match m[n]? with
    | some (.lst _) => some "list"
    | some (.dic false _) => some "dict"
    | _ => none)
  | _, _ => none
/-- an instance: its class, its attributes -/
def insAt : U → MH → Option (Str × List (Str × U))
  | .ref n, m => (match m[n]? with
    | some (.ins c fs) => some (c, fs)
    | _ => none)
  | _, _ => none
def cMeth (T : Tab) (name : Str) (n : Nat) (ks : List Str) (o : E1) (a b : Fn1 (List U)) : E1 := fun t m => (o t m).bind fun u m1 => match recvK u m1 with
  | some kind => if ks = [] then (match methTab name kind with
    | some phi => (a t m1).bind fun us m2 => if us.length = n then ofO (phi u us m2) else .bad
    | none => .bad) else .bad
  | none => (match insAt u m1 with
    | some (c, fs) => if (T.meth c name && (fs.lookup name).isNone) = true then (match T.plan (c, some name) (n + 1) ks with
      | some g => cCallK n ks.length (fun us zs => T.call (c, some name) (g (u :: us) zs)) a b t m1
      | none => .bad) else .bad
    | none => .bad)
theorem recvK_ok {c : Cn} {r : Gh} {H : Hp} {m : MH} (C : Corr c r m H) {u : U} {v : V} {kind : String} (ru : RU c r H u v) (e : recvK u m = some kind) : tyV c.K kind v H := by
  cases ru with
  | str x => cases e; rfl
  | fl h1 h2 h3 hs => cases e; exact .inl ⟨rfl, _, SqL.of h3⟩
  | @ref n a h =>
    simp only [recvK] at e
    cases q : m[n]? with
    | none => rw [q] at e; cases e
    | some o =>
      obtain ⟨a', ho, h1, h2, h3⟩ := C.at_ n _ q
      rw [h] at h1
      cases h1
      rw [q] at e
      cases o with
      | lst us => cases e; cases h3 with | lst hs => exact .inl ⟨rfl, _, SqL.of h2⟩
      | dic l kvs =>
        cases l with
        | false => cases e; cases h3 with | dic hs => exact .inr (.inr (.inl ⟨rfl, .inl ⟨_, h2⟩⟩))
        | true => cases e
      | ins x fs => cases e
  | _ => cases e
theorem insAt_ok {c : Cn} {r : Gh} {H : Hp} {m : MH} (C : Corr c r m H) {u : U} {v : V} {x : Str} {fs : List (Str × U)} (ru : RU c r H u v) (e : insAt u m = some (x, fs)) :
    ∃ n a Cc dx ps, u = .ref n ∧ v = .ref a ∧ r.r[n]? = some a ∧ H a = some (.ins Cc dx ps) ∧ c.mg x = some (.ref Cc) ∧ RFs c r H fs ps := by
  cases ru with
  | @ref n a h =>
    simp only [insAt] at e
    cases q : m[n]? with
    | none => rw [q] at e; cases e
    | some o =>
      obtain ⟨a', ho, h1, h2, h3⟩ := C.at_ n _ q
      rw [h] at h1
      cases h1
      rw [q] at e
      cases o with
      | ins x fs => cases e; cases h3 with | ins hx hf => exact ⟨n, a, _, _, _, rfl, rfl, h, h2, hx, hf⟩
      | _ => cases e
  | _ => cases e
theorem RFs.look {c : Cn} {r : Gh} {H : Hp} {f : Str} : ∀ {fs : List (Str × U)} {ps : List (Str × V)}, RFs c r H fs ps → (∀ u, fs.lookup f = some u → ∃ v, ps.lookup f = some v ∧ RU c r H u v) ∧ (fs.lookup f = none → ps.lookup f = none)
  | _, _, .nil => ⟨fun _ e => (nomatch e), fun _ => rfl⟩
  | _, _, .cons (f := g) hu hs => by
    have ih := RFs.look (f := f) hs
    rw [List.lookup_cons, List.lookup_cons]
    cases hb : (f == g) with
    | true => exact ⟨fun u e => by cases e; exact ⟨_, rfl, hu⟩, fun e => (nomatch e)⟩
    | false => exact ih
section
variable {X : Cx} {W : WX} {T : Tab} {k : Nat} {o : Expr} {name : Str} {apos pos : Pos} {args : List Expr} {kws : List Keyword} {ks : List Str} {fo : E1} {fa fb : Fn1 (List U)}
theorem few_ok {pos : Pos} {env : Env} {args : List Expr} {kws : List Keyword} {ks : List Str} (hs : args.all noStar = true) (hk : kwNames kws = some ks) (hn : decide (args.length + kws.length + 1 < 30) = true) :
    methodCallForm (args.length + kws.length) (backTo pos (starEach args env)) (backToKw pos (keywordEach kws env)) = true := by
  unfold methodCallForm
  have h1 : (backTo pos (starEach args env)).all (fun x => !x.1) = true := by
    have q := star_plain (pos := pos) (env := env) hs
    rw [List.all_eq_not_any_not]
    simp only [Bool.not_not]
    rw [q]
    rfl
  rw [h1, (kw_ok (pos := pos) (env := env) hk).1, Bool.true_and, Bool.true_and]
  have := of_decide_eq_true hn
  refine decide_eq_true ?_
  split <;> omega
theorem mi_meth (ok : TabOk T X.prog X.w X.K X.mg X.base k) (gd : X.A.guards = some []) (hr : Room k X.A) (tk : Takes X W) (hbase : attributeBase o name X.env (eval o X.env) = eval o X.env) (hline : (apos.endLine == pos.line) = true) (hs : args.all noStar = true) (hk : kwNames kws = some ks)
    (hn : decide (args.length + kws.length + 1 < 30) = true) (ho : PE X o (tE (cn X) W fo)) (ha : PA X args (tAr (cn X) W fa)) (h0 : args = [] → fa = cNil) (hb : PKw X W kws fb) :
    PE X (.Call (.Attribute o name apos) args kws pos) (tE (cn X) W (cMeth T name args.length ks fo fa fb)) := by
  refine ⟨fun pins s σ H Q I ⟨r, m, t, C, E, kk⟩ => ?_⟩
  have hform := few_ok (pos := pos) (env := X.env) hs hk hn
  have hpos : methodCallPos true o X.env apos pos = pure pos := by unfold methodCallPos; simp [hline]
  rw [arm_eval_Call, hbase]
  refine wpAny_bind (thn (ho.run pins s σ H _ I ⟨r, m, t, C, E, kE.bind kk⟩) fun ov s1 ⟨x, H1, I1, rx, r1, m1, u, e1, C1, ru, k1⟩ => ?_)
  refine wpAny_bind (wpAny_standAt ?_)
  unfold methodCall
  rw [hform]
  dsimp only at k1
  cases e2 : recvK u m1 with
  | some kind =>
    rw [e2] at k1
    dsimp only at k1
    by_cases hks : ks = []
    · rw [if_pos hks] at k1
      subst hks
      have hkws : kws = [] := by cases kws with
        | nil => rfl
        | cons q qs => exact absurd (kw_len hk) (by simp)
      subst hkws
      cases e3 : methTab name kind with
      | none => rw [e3] at k1; exact k1.elim
      | some phi =>
        rw [e3] at k1
        dsimp only at k1
        obtain ⟨id, pa, slot, hty, hphi⟩ := methTab_ok (X := X) e3
        obtain ⟨g1, g2⟩ := tyV_is I1 rx (recvK_ok C1 ru e2)
        refine wpAny_bind (wpAny_holding (getMethod_builtin g1 pa slot hty g2 ?_))
        refine wpAny_bind (wpAny_of_eq hpos ?_)
        have go : ∀ (us : List Value) (s2 : Shared), AP X pins σ (Mid (cn X) RUs r1 H1 fun r2 m2 ws vs H2 => kE (cn X) RU W r2 H2 σ Q (if ws.length = args.length then ofO (phi u ws m2) else .bad)) us s2 → wpAny (model X.prog X.w) X.A (call (.builtin id) (ov :: us)) (EP X pins σ Q) X.xe s2 := by
          rintro us s2 ⟨vs, H2, I2, rv, r2, m2, ws, e4, C4, R4, k4⟩
          by_cases hl : ws.length = args.length
          · rw [if_pos hl] at k4
            exact hphi pins s2 σ H2 x vs ov us Q I2 rx rv ⟨r2, m2, u, ws, C4, ru.ext e4.w, R4, kE_ofO k4⟩
          · rw [if_neg hl] at k4; exact k4.elim
        cases args with
        | nil =>
          rw [h0 rfl] at k1
          have k1' : kE (cn X) RU W r1 H1 σ Q (if ([] : List U).length = ([] : List Expr).length then ofO (phi u [] m1) else .bad) := k1
          refine Calls.callWith_builtin rfl (PySem.evalArgs_none ?_)
          exact go [] s1 ⟨[], H1, I1, .nil, r1, m1, [], Ext.refl _ _, C1, .nil, k1'⟩
        | cons e es =>
          have hs' : noStar e = true ∧ es.all noStar = true := by rw [List.all_cons, Bool.and_eq_true] at hs; exact hs
          have hA := thn (ha.run pos pins s1 σ H1 _ I1 ⟨r1, m1, t, C1, E.ext e1.w, kE.bind k1⟩) go
          rw [star_cons hs'.1] at hA ⊢
          exact Calls.callWith_builtin (by show (false || (backTo pos (starEach es X.env)).any (·.1)) = false; rw [star_plain hs'.2]; rfl) (Calls.evalArgs_plain hA)
    · rw [if_neg hks] at k1; exact k1.elim
  | none =>
    rw [e2] at k1
    dsimp only at k1
    cases e3 : insAt u m1 with
    | none => rw [e3] at k1; exact k1.elim
    | some p =>
      obtain ⟨c, fs⟩ := p
      rw [e3] at k1
      dsimp only at k1
      by_cases hm : (T.meth c name && (fs.lookup name).isNone) = true
      · rw [if_pos hm] at k1
        rw [Bool.and_eq_true] at hm
        cases e4 : T.plan (c, some name) (args.length + 1) ks with
        | none => rw [e4] at k1; exact k1.elim
        | some g =>
          rw [e4] at k1
          dsimp only at k1
          obtain ⟨n, a, Cc, dx, ps, rfl, rfl, hra, hHa, hmg, hfs⟩ := insAt_ok C1 ru e3
          obtain ⟨C', f, fd, prm, hmg', hcl, hme, hF, hpl⟩ := ok.meth c name hm.1
          have : X.mg c = some (.ref Cc) := hmg
          rw [hmg'] at this
          cases this
          have hno : ps.lookup name = none := (RFs.look hfs).2 (Option.isNone_iff_eq_none.mp hm.2)
          cases rx
          refine wpAny_bind (wpAny_holding (getmeth_ok I1 hHa hcl hme hno ?_))
          refine wpAny_bind (wpAny_of_eq hpos ?_)
          refine args_then (first := [.ref a]) (n := args.length) (phi := fun us zs => T.call (c, some name) (g (.ref n :: us) zs)) hs hk ha h0 hb I1 hme.kp C1 (E.ext e1.w) k1 fun s2 H2 us ws vs zs I2 rv rz lz ⟨r2, m2, as, bs, e5, C5, R5, R6, la, k5⟩ => ?_
          have cw := callW_fn (W := W) tk hF gd hr (hpl _ _ _ e4)
          exact cw pins s2 σ H2 (.ref a :: us) ws (.ref a :: vs) zs Q I2 (.cons rfl rv) rz lz ⟨r2, m2, .ref n :: as, bs, C5, .cons (ru.ext e5.w) R5, R6, congrArg (· + 1) la, k5⟩
      · rw [if_neg hm] at k1; exact k1.elim
end
end Mi
set_option Elab.async false
set_option linter.all false
set_option maxRecDepth 100000
set_option maxHeartbeats 4000000
/-! Mi, part M: attributes read and stored, items stored, augmented stores. -/
namespace Mi
open PySem PySem.Spec PyProof.Rows L2
def cFld (T : Tab) (f : Str) (a : E1) : E1 := fun t m => (a t m).bind fun u m1 => match insAt u m1 with
  | some (c, fs) => if T.fld c f = true then (match fs.lookup f with
    | some w => .ok w m1
    | none => .bad) else .bad
  | none => .bad
/-- an attribute stored: in its place, or behind -/
def putFU (f : Str) (u : U) : List (Str × U) → List (Str × U)
  | [] => [(f, u)]
  | (g, x) :: r => if g = f then (g, u) :: r else (g, x) :: putFU f u r
def setFld (T : Tab) (f : Str) (o u : U) (m : MH) : Option MH := match o with
  | .ref n => (match insAt (.ref n) m with
    | some (c, fs) => if (T.fld c f && decide (fs.length < 900)) = true then some (m.set n (.ins c (putFU f u fs))) else none
    | none => none)
  | _ => none
/-- a dict's entry -/
def putU (q : Key) (k u : U) (kvs : List (U × U)) : List (U × U) :=
  if (kvs.any fun kv => decide (keyU kv.1 = some q)) = true then kvs.map (fun kv => if keyU kv.1 = some q then (kv.1, u) else kv) else kvs ++ [(k, u)]
def setU (o i u : U) (m : MH) : Option MH := match o with
  | .ref n => (match m[n]? with
    | some (.lst us) => (match i with
      | .int k => (ixN us.length k).map fun j => m.set n (.lst (us.set j u))
      | _ => none)
    | some (.dic false kvs) => (keyU i).bind fun q => if lineOk (kvs.length + 1) = true then some (m.set n (.dic false (putU q i u kvs))) else none
    | _ => none)
  | _ => none
/-- an item stored -/
def gSubU (fo fi : E1) : G1 := fun u t m => match fo t m with
  | .ok o m1 => (match fi t m1 with
    | .ok i m2 => (setU o i u m2).map fun m3 => (t, m3)
    | _ => none)
  | _ => none
def gFldU (T : Tab) (f : Str) (fo : E1) : G1 := fun u t m => match fo t m with
  | .ok o m1 => (setFld T f o u m1).map fun m3 => (t, m3)
  | _ => none
section
variable {c : Cn} {r : Gh} {H : Hp}
theorem RFs.put {f : Str} {u : U} {x : V} (ru : RU c r H u x) : ∀ {fs : List (Str × U)} {ps : List (Str × V)}, RFs c r H fs ps → RFs c r H (putFU f u fs) (putF f x ps)
  | _, _, .nil => .cons ru .nil
  | _, _, .cons (f := g) h hs => by
    unfold putFU putF
    by_cases e : g = f
    · rw [if_pos e, if_pos e]; exact .cons ru hs
    · rw [if_neg e, if_neg e]; exact .cons h (RFs.put ru hs)
theorem RFs.len : ∀ {fs : List (Str × U)} {ps : List (Str × V)}, RFs c r H fs ps → fs.length = ps.length
  | _, _, .nil => rfl
  | _, _, .cons _ h => congrArg (· + 1) (RFs.len h)
theorem RKs.any {q : Key} : ∀ {kvs : List (U × U)} {ps : List (Key × V)}, RKs c r H kvs ps → (kvs.any fun kv => decide (keyU kv.1 = some q)) = ps.any fun kv => decide (kv.1 = q)
  | _, _, .nil => rfl
  | _, _, .cons (q := q') hk hu hs => by
    rw [List.any_cons, List.any_cons, RKs.any hs, hk]
    congr 1
    by_cases e : q' = q
    · subst e; simp
    · rw [decide_eq_false e, decide_eq_false (fun z => e (Option.some.inj z))]
theorem RKs.map {q : Key} {u : U} {x : V} (ru : RU c r H u x) : ∀ {kvs : List (U × U)} {ps : List (Key × V)}, RKs c r H kvs ps → RKs c r H (kvs.map fun kv => if keyU kv.1 = some q then (kv.1, u) else kv) (ps.map fun kv => if kv.1 = q then (kv.1, x) else kv)
  | _, _, .nil => .nil
  | _, _, .cons (k := k) (u := u') (q := q') (x := x') hk hu hs => by
    rw [List.map_cons, List.map_cons]
    by_cases e : q' = q
    · subst e
      rw [if_pos hk, if_pos rfl]
      exact .cons hk ru (RKs.map ru hs)
    · have ne : ¬ keyU k = some q := fun z => e (Option.some.inj (hk.symm.trans z))
      rw [if_neg ne, if_neg e]
      exact .cons hk hu (RKs.map ru hs)
theorem RKs.app : ∀ {kvs kvs' : List (U × U)} {ps ps' : List (Key × V)}, RKs c r H kvs ps → RKs c r H kvs' ps' → RKs c r H (kvs ++ kvs') (ps ++ ps')
  | _, _, _, _, .nil, b => b
  | _, _, _, _, .cons k h hs, b => .cons k h (RKs.app hs b)
theorem RKs.put {q : Key} {k u : U} {x : V} (hk : keyU k = some q) (ru : RU c r H u x) {kvs : List (U × U)} {ps : List (Key × V)} (h : RKs c r H kvs ps) : RKs c r H (putU q k u kvs) (putK ps q x) := by
  unfold putU putK
  rw [h.any]
  by_cases e : (ps.any fun kv => decide (kv.1 = q)) = true
  · rw [if_pos e, if_pos e]; exact h.map ru
  · rw [if_neg e, if_neg e]; exact h.app (.cons hk ru .nil)
end
section
variable {X : Cx} {W : WX} {T : Tab} {k : Nat} {o i e : Expr} {f : Str} {pos pos' : Pos} {fo fi fe : E1}
theorem mi_fld (ok : TabOk T X.prog X.w X.K X.mg X.base k) (ho : PE X o (tE (cn X) W fo)) (hb : attributeBase o f X.env (eval o X.env) = eval o X.env) : PE X (.Attribute o f pos) (tE (cn X) W (cFld T f fo)) := by
  refine (pe_fld ho hb).weak fun s H Q ⟨r, m, t, C, E, kk⟩ => ⟨r, m, t, C, E, (kE.bind kk).imp ?_⟩
  rintro x H1 ⟨r1, m1, u, e1, C1, ru, k1⟩
  cases e2 : insAt u m1 with
  | none => rw [e2] at k1; exact k1.elim
  | some p =>
    obtain ⟨cl, fs⟩ := p
    rw [e2] at k1
    dsimp only at k1
    obtain ⟨n, a, Cc, dx, ps, rfl, rfl, hra, hHa, hmg, hfs⟩ := insAt_ok C1 ru e2
    by_cases hf : T.fld cl f = true
    · rw [if_pos hf] at k1
      cases e3 : fs.lookup f with
      | none => rw [e3] at k1; exact k1.elim
      | some w =>
        rw [e3] at k1
        obtain ⟨C', hm, hc, hn⟩ := ok.fld cl f hf
        have e0 : C' = Cc := by
          have : X.mg cl = some (.ref Cc) := hmg
          rw [hm] at this
          injection this with q; injection q
        subst e0
        obtain ⟨v, e4, e5⟩ := (RFs.look hfs).1 w e3
        exact ⟨a, C', dx, ps, v, rfl, hHa, hc, hn, e4, kE.ok (R := RU) k1 C1 e5⟩
    · rw [if_neg hf] at k1; exact k1.elim
theorem setFld_ok (ok : TabOk T X.prog X.w X.K X.mg X.base k) {r : Gh} {m m' : MH} {H : Hp} {o u : U} {x y : V} (C : Corr (cn X) r m H) (ro : RU (cn X) r H o x) (ru : RU (cn X) r H u y) (e : setFld T f o u m = some m') :
    ∃ a Cc dx ps, x = .ref a ∧ H a = some (.ins Cc dx ps) ∧ Cls X.K Cc ∧ NoAttr X.K Cc f ∧ ps.length < 1000 ∧ Corr (cn X) r m' (upd H a (.ins Cc dx (putF f y ps))) ∧ Ext r H r (upd H a (.ins Cc dx (putF f y ps))) := by
  cases o with
  | ref n =>
    simp only [setFld] at e
    cases e2 : insAt (.ref n) m with
    | none => rw [e2] at e; cases e
    | some p =>
      obtain ⟨cl, fs⟩ := p
      rw [e2] at e
      dsimp only at e
      by_cases hf : (T.fld cl f && decide (fs.length < 900)) = true
      · rw [if_pos hf] at e
        cases e
        rw [Bool.and_eq_true] at hf
        obtain ⟨n', a, Cc, dx, ps, hn', rfl, hra, hHa, hmg, hfs⟩ := insAt_ok C ro e2
        cases hn'
        obtain ⟨C', hm, hc, hn⟩ := ok.fld cl f hf.1
        have e0 : C' = Cc := by
          have : X.mg cl = some (.ref Cc) := hmg
          rw [hm] at this
          injection this with q; injection q
        subst e0
        have hl := of_decide_eq_true hf.2
        rw [hfs.len] at hl
        obtain ⟨C1, e1⟩ := C.put (o := .ins cl (putFU f u fs)) (ho := .ins C' dx (putF f y ps)) hra (.ins hmg (hfs.put ru))
        exact ⟨a, C', dx, ps, rfl, hHa, hc, hn, by omega, C1, e1⟩
      · rw [if_neg hf] at e; cases e
  | _ => cases e
theorem pset_U (hu : X.A.units + 1 < cLine) : PSet X (fun x y v H Q => ∃ r m o i u, Corr (cn X) r m H ∧ RU (cn X) r H o x ∧ RU (cn X) r H i y ∧ RU (cn X) r H u v ∧ ∃ m', setU o i u m = some m' ∧ ∀ r' H', Ext r H r' H' → Corr (cn X) r' m' H' → Q H') := by
  intro pins s σ H x y v ov iv uv Q I rx ry rv ⟨r, m, o, i, u, C, ro, ri, ru, m', e, k⟩
  cases o with
  | ref n =>
    simp only [setU] at e
    cases q : m[n]? with
    | none => rw [q] at e; cases e
    | some ob =>
      cases ro with
      | @ref _ a h =>
        obtain ⟨a', ho, h1, h2, h3⟩ := C.at_ n _ q
        rw [h] at h1
        cases h1
        rw [q] at e
        cases ob with
        | lst us =>
          dsimp only at e
          cases h3 with
          | lst hs =>
            cases ri with
            | int z =>
              rw [Option.map_eq_some_iff] at e
              obtain ⟨j, e1, rfl⟩ := e
              obtain ⟨C1, e2⟩ := C.put (o := .lst (us.set j u)) h (.lst (hs.set j ru))
              rw [hs.length] at e1
              exact set_list pins s σ H _ _ _ ov iv uv Q I rx ry rv ⟨_, _, _, _, rfl, rfl, h2, e1, k _ _ e2 C1⟩
            | _ => cases e
        | dic l kvs =>
          cases l with
          | true => cases e
          | false =>
            dsimp only at e
            cases h3 with
            | @dic _ ps hs =>
              cases e1 : keyU i with
              | none => rw [e1] at e; cases e
              | some qk =>
                rw [e1, Option.bind_some] at e
                by_cases hl : lineOk (kvs.length + 1) = true
                · rw [if_pos hl] at e
                  cases e
                  have hb := kV_of ri e1
                  subst hb
                  obtain ⟨C1, e2⟩ := C.put (o := .dic false (putU qk i u kvs)) (ho := .dK (putK ps qk v)) h (.dic (hs.put e1 ru))
                  have hv : ov = Value.ref a := rx
                  subst hv
                  have hlen := lineOk_of hl
                  rw [hs.length] at hlen
                  exact d_setItem hu I (DPut.k h2 hlen) ry rv fun s' I' => ⟨_, I', k _ _ e2 C1⟩
                · rw [if_neg hl] at e; cases e
        | ins x fs => cases e
  | _ => cases e
theorem mg_sub (hu : X.A.units + 1 < cLine) (ho : PE X o (tE (cn X) W fo)) (hi : PE X i (tE (cn X) W fi)) (h0 : noSlice i = true) : PG X (.Subscript o i pos) (tGt (cn X) [] (gSubU fo fi)) := by
  refine ⟨fun pins s σ H v u Q I rv ⟨r, m, t, w, C, E, ru, k⟩ => (pg_sub ho hi (pset_U hu) (by intro _; cases i <;> first | rfl | (exact nomatch (show false = true from h0)))).run pins s σ H v u Q I rv ?_⟩
  unfold gSubU at k
  refine ⟨r, m, t, C, E, ?_⟩
  cases e1 : fo t m with
  | err x m1 => rw [e1] at k; exact k.elim
  | bad => rw [e1] at k; exact k.elim
  | ok a m1 =>
    rw [e1] at k
    dsimp only at k
    intro r1 H1 x ex C1 ra
    refine ⟨r1, m1, t, C1, E.ext ex.w, ?_⟩
    cases e2 : fi t m1 with
    | err x m2 => rw [e2] at k; exact k.elim
    | bad => rw [e2] at k; exact k.elim
    | ok b m2 =>
      rw [e2] at k
      dsimp only at k
      intro r2 H2 y ey C2 rb
      cases e3 : setU a b w m2 with
      | none => rw [e3] at k; exact k.elim
      | some m3 =>
        rw [e3] at k
        have e12 := ex.trans ey
        exact ⟨r2, m2, a, b, w, C2, ra.ext ey.w, rb, ru.ext e12.w, m3, e3, fun r' H' e4 C4 => k r' H' σ (e12.trans e4) C4 ⟨(E.ext e12.w).ext e4.w, rfl, fun _ _ => rfl⟩⟩
theorem mg_fld (ok : TabOk T X.prog X.w X.K X.mg X.base k) (ho : PE X o (tE (cn X) W fo)) : PG X (.Attribute o f pos) (tGt (cn X) [] (gFldU T f fo)) := by
  refine ⟨fun pins s σ H v u Q I rv ⟨r, m, t, w, C, E, ru, k⟩ => ?_⟩
  unfold gFldU at k
  show wpAny _ _ (do
    let ov ← holding [u] (eval o X.env)
    standAt pos.atName
    holding [u, ov] (setAttr ov f u)
    release [u, ov] []) _ _ s
  cases e1 : fo t m with
  | err x m1 => rw [e1] at k; exact k.elim
  | bad => rw [e1] at k; exact k.elim
  | ok a m1 =>
    rw [e1] at k
    dsimp only at k
    cases e3 : setFld T f a w m1 with
    | none => rw [e3] at k; exact k.elim
    | some m3 =>
      rw [e3] at k
      have kk : kE (cn X) RU W r H σ (fun x H1 => ∃ r1, Ext r H r1 H1 ∧ Corr (cn X) r1 m1 H1 ∧ RU (cn X) r1 H1 a x) (fo t m) := by
        rw [e1]
        exact fun r1 H1 x ex C1 ra => ⟨r1, ex, C1, ra⟩
      refine wpAny_bind (wpAny_holding (thn (ho.run pins s σ H _ I ⟨r, m, t, C, E, kk⟩) fun ov s1 ⟨x, H1, I1, rx, r1, ex, C1, ra⟩ => ?_))
      refine wpAny_bind (wpAny_standAt ?_)
      obtain ⟨ad, Cc, dx, ps, rfl, hH, hc, hn, hl, C2, e2⟩ := setFld_ok ok C1 ra (ru.ext ex.w) e3
      have hov : ov = Value.ref ad := rx
      subst hov
      refine wpAny_bind (wpAny_holding (setattr_ok I1 hH hc hn hl rv fun s2 I2 => ?_))
      refine wpAny_release ?_
      exact ⟨σ, _, I2, k r1 _ σ (ex.trans e2) C2 ⟨(E.ext ex.w).ext e2.w, rfl, fun _ _ => rfl⟩⟩
end
end Mi
/-! Mi, part N: and/or as values, isinstance of exceptions, new dicts, turned lists, raise, try. -/
namespace Mi
open PySem PySem.Spec PyProof.Rows L2
/-! ### and, or, not as values -/
def cAndV (a b : E1) : E1 := fun t m => (a t m).bind fun u m1 => match truU u m1 with
  | some true => b t m1
  | some false => .ok u m1
  | none => .bad
def cOrV (a b : E1) : E1 := fun t m => (a t m).bind fun u m1 => match truU u m1 with
  | some true => .ok u m1
  | some false => b t m1
  | none => .bad
def cNotV (a : E1) : E1 := fun t m => (a t m).bind fun u m1 => match truU u m1 with
  | some b => .ok (.bl (!b)) m1
  | none => .bad
section
variable {X : Cx} {W : WX} {a b : Expr} {fa fb : E1} {rest : List Expr} {pos : Pos}
theorem mi_andV (ha : PE X a (tE (cn X) W fa)) (hb : PE X (.BoolOp .And (b :: rest) pos) (tE (cn X) W fb)) : PE X (.BoolOp .And (a :: b :: rest) pos) (tE (cn X) W (cAndV fa fb)) := by
  refine (pe_andT ha hb).weak fun s H Q h => ?_
  obtain ⟨r, m, t, C, E, k⟩ := h
  refine ⟨r, m, t, C, E, (kE.bind (R := RU) k).imp fun v H1 hm => ?_⟩
  obtain ⟨r1, m1, u, e1, C1, ru, k1⟩ := hm
  cases e : truU u m1 with
  | none =>
    rw [e] at k1
    exact (show False from k1).elim
  | some b =>
    rw [e] at k1
    refine ⟨b, tru_U C1 ru e, ?_⟩
    cases b with
    | true =>
      rw [if_pos rfl]
      exact ⟨r1, m1, t, C1, E.ext e1.w, k1⟩
    | false =>
      rw [if_neg Bool.false_ne_true]
      exact k1 _ _ _ (Ext.refl _ _) C1 ru
theorem mi_orV (ha : PE X a (tE (cn X) W fa)) (hb : PE X (.BoolOp .Or (b :: rest) pos) (tE (cn X) W fb)) : PE X (.BoolOp .Or (a :: b :: rest) pos) (tE (cn X) W (cOrV fa fb)) := by
  refine (pe_orT ha hb).weak fun s H Q h => ?_
  obtain ⟨r, m, t, C, E, k⟩ := h
  refine ⟨r, m, t, C, E, (kE.bind (R := RU) k).imp fun v H1 hm => ?_⟩
  obtain ⟨r1, m1, u, e1, C1, ru, k1⟩ := hm
  cases e : truU u m1 with
  | none =>
    rw [e] at k1
    exact (show False from k1).elim
  | some b =>
    rw [e] at k1
    refine ⟨b, tru_U C1 ru e, ?_⟩
    cases b with
    | true =>
      rw [if_pos rfl]
      exact k1 _ _ _ (Ext.refl _ _) C1 ru
    | false =>
      rw [if_neg Bool.false_ne_true]
      exact ⟨r1, m1, t, C1, E.ext e1.w, k1⟩
theorem mi_notV (ha : PE X a (tE (cn X) W fa)) : PE X (.UnaryOp .Not a pos) (tE (cn X) W (cNotV fa)) := by
  refine (pe_notT ha).weak fun s H Q h => ?_
  obtain ⟨r, m, t, C, E, k⟩ := h
  refine ⟨r, m, t, C, E, (kE.bind (R := RU) k).imp fun v H1 hm => ?_⟩
  obtain ⟨r1, m1, u, e1, C1, ru, k1⟩ := hm
  cases e : truU u m1 with
  | none =>
    rw [e] at k1
    exact (show False from k1).elim
  | some b =>
    rw [e] at k1
    exact ⟨b, tru_U C1 ru e, k1 _ _ _ (Ext.refl _ _) C1 (.bl _)⟩
/-! ### a new dict; a list turned round -/
def mkDic (m : MH) : U × MH := (.ref m.length, m ++ [.dic false []])
def cDic : E1 := fun _ m => .ok (.ref m.length) (m ++ [.dic false []])
theorem mi_dic : PE X (.Dict [] [] pos) (tE (cn X) W cDic) := by
  refine pe_dnewK.weak fun s H Q h => ?_
  obtain ⟨r, m, t, C, E, k⟩ := h
  intro p hp
  obtain ⟨C', e', g⟩ := C.new (o := .dic false []) hp (RO.dic RKs.nil)
  exact k _ _ _ e' C' (.ref g)
def revU : B1 := fun u m => (seqL u m).map fun us => (.fl us.reverse, m)
theorem mi_rev {e : Expr} {fe : E1} {k : Nat} {p1 p2 p3 : Pos} (he : PE X e (tE (cn X) W fe)) : PE X (.Subscript e (.Slice none none (some (.UnaryOp .USub (.Constant (.int 1) k p1) p2)) p3) pos) (tE (cn X) W (cUn revU fe)) := by
  refine (pe_revL he).weak fun s H Q h => ?_
  obtain ⟨r, m, t, C, E, k⟩ := h
  refine ⟨r, m, t, C, E, (kE.bind (R := RU) k).imp fun v H1 hm => ?_⟩
  obtain ⟨r1, m1, u, e1, C1, ru, k1⟩ := hm
  have k2 := kE_ofO k1
  cases e : seqL u m1 with
  | none =>
    unfold revU at k2
    rw [e] at k2
    exact (show False from k2).elim
  | some us =>
    unfold revU at k2
    rw [e] at k2
    obtain ⟨a, xs, rfl, hq, hs⟩ := seqL_ok C1 ru e
    refine ⟨a, xs, rfl, hq, fun p hp => ?_⟩
    obtain ⟨C', e', n1, n2⟩ := C1.beside (o := .lst xs.reverse) hp
    exact k2 _ _ _ e' C' (.fl n1 n2 upd_same (hs.rev.ext e'.w))
end
/-! ### isinstance, exceptions too -/
/-- one class -/
def isa1 (T : Tab) (u cl : U) (m : MH) : Option Bool := match u, cl with
  | .exn x, cl => T.isa x cl
  | u, .ty n => (tyU u m).bind fun a => if tys.contains n = true then some (isT a n) else none
  | _, _ => none
def isaN (T : Tab) (u : U) (m : MH) : List U → Option Bool
  | [] => some false
  | cl :: r => (isa1 T u cl m).bind fun b => match b with
    | true => some true
    | false => isaN T u m r
def biIsa (T : Tab) : FU
  | [u, .tup (c0 :: cls)], m => (isaN T u m (c0 :: cls)).map fun b => (.bl b, m)
  | [_, .tup []], _ => none
  | [u, cl], m => (isa1 T u cl m).map fun b => (.bl b, m)
  | _, _ => none
section
variable {X : Cx} {T : Tab} {k : Nat}
/-- what kind of thing isinstance asks -/
theorem isa_kit (ok : TabOk T X.prog X.w X.K X.mg X.base k) {pins : List (Addr × Obj)} {σ : L2.St} {s : Shared} {r : Gh} {m : MH} {H : Hp} {u : U} {x : V} {v : Value} (I : Inv X pins σ H s) (C : Corr (cn X) r m H) (ru : RU (cn X) r H u x) (rv : RelV x v) {cl0 : U} {b0 : Bool} (e0 : isa1 T u cl0 m = some b0) :
    ∃ (t : Value) (P : Heap → Prop), PySem.W.KitX X.K v t P ∧ P s.heap ∧ v ≠ .builtin "__main__.__loader__#opaque" ∧ ∀ cl b, isa1 T u cl m = some b → ∃ cv, clV X.mg cl cv ∧ PySem.W.kitOne X.K t cv = some b := by
  by_cases hx : ∃ y, u = .exn y
  · obtain ⟨y, rfl⟩ := hx
    obtain ⟨D, cv0, g0, X0, _, _⟩ := ok.isa _ _ _ (show T.isa y cl0 = some b0 from e0)
    cases ru with
    | @exn _ C1 a h1 h2 h3 h4 =>
      have ec : C1 = D := Value.ref.inj (Option.some.inj (h1.symm.trans g0))
      subst ec
      cases (show v = Value.ref a from rv)
      obtain ⟨⟨oe, vs, hg, hz, hd⟩, _, _⟩ := (show ObjOk X.prog X.w H s.heap a (ExC (.ref C1) none a) from I.hok a _ h4)
      have J : PySem.W.InstAt s.heap a oe C1 none := by
        obtain ⟨oc, od, oda, osl⟩ := oe
        obtain ⟨z1, z2⟩ := hz
        dsimp only at z1 z2 hd
        subst z1 z2 hd
        exact ⟨hg, rfl, rfl, trivial⟩
      refine ⟨_, _, PySem.W.handS_kitx_exc X0.hg X0.hk X0.hs X0.hd X0.ha X0.hn X0.ht X0.hm, J, fun z => (nomatch z), fun cl b e => ?_⟩
      obtain ⟨D2, cv, g2, _, h5, h6⟩ := ok.isa _ _ _ (show T.isa y cl = some b from e)
      have ec2 : C1 = D2 := Value.ref.inj (Option.some.inj (h1.symm.trans g2))
      subst ec2
      exact ⟨cv, h5, h6⟩
  · have ha : ∀ cl b, isa1 T u cl m = some b → ∃ n a, cl = .ty n ∧ tyU u m = some a ∧ tys.contains n = true ∧ b = isT a n := by
      intro cl b e
      have e1 : isa1 T u cl m = (match cl with
        | .ty n => (tyU u m).bind fun a => if tys.contains n = true then some (isT a n) else none
        | _ => none) := by
        cases u <;> first | exact absurd ⟨_, rfl⟩ hx | (cases cl <;> rfl)
      rw [e1] at e
      cases cl with
      | ty n =>
        dsimp only at e
        cases e2 : tyU u m with
        | none =>
          rw [e2] at e
          cases e
        | some a =>
          rw [e2] at e
          dsimp only [Option.bind] at e
          by_cases hc : tys.contains n = true
          · rw [if_pos hc] at e
            cases e
            exact ⟨n, a, rfl, rfl, hc, rfl⟩
          · rw [if_neg hc] at e
            cases e
      | _ => cases e
    obtain ⟨n0, a, rfl, ea, _, _⟩ := ha _ _ e0
    obtain ⟨ty, ht⟩ := tyU_ok C ru ea
    obtain ⟨P, Z, p, hx2⟩ := kit_of I rv ty
    refine ⟨_, P, Z, p, hx2, fun cl b e => ?_⟩
    obtain ⟨n, a', rfl, ea', hc, rfl⟩ := ha _ _ e
    rw [ea] at ea'
    cases ea'
    exact ⟨.type n, rfl, kit_ty (kitB_tab _ ht _ (by simpa using hc))⟩
theorem cl_val {r : Gh} {H : Hp} {u : U} {x : V} {v cv : Value} (ru : RU (cn X) r H u x) (rv : RelV x v) (h : clV X.mg u cv) : v = cv := by
  cases u with
  | glo y =>
    cases ru with
    | glo h1 =>
      have h2 : X.mg y = some cv := h
      have h3 : X.mg y = some _ := h1
      rw [h3] at h2
      cases h2
      exact rv
  | ty n =>
    cases ru
    rw [show cv = .type n from h]
    exact rv
  | _ => exact (show False from h).elim
theorem isaN_kit {t : Value} {u : U} {m : MH} {r : Gh} {H : Hp} (h : ∀ cl b, isa1 T u cl m = some b → ∃ cv, clV X.mg cl cv ∧ PySem.W.kitOne X.K t cv = some b) : ∀ {cls : List U} {xs : List V} {vs : List Value} {b : Bool}, RUs (cn X) r H cls xs → Vals xs vs → isaN T u m cls = some b → PySem.W.kitAny X.K t vs = some b
  | [], _, _, b, .nil, .nil, e => by
    cases e
    rfl
  | cl :: cls, _, _, b, .cons rc rs, .cons rv rvs, e => by
    unfold isaN at e
    cases e1 : isa1 T u cl m with
    | none =>
      rw [e1] at e
      cases e
    | some b1 =>
      rw [e1] at e
      obtain ⟨cv, c1, c2⟩ := h _ _ e1
      have ev := cl_val rc rv c1
      subst ev
      unfold PySem.W.kitAny
      rw [c2]
      cases b1 with
      | true => exact e
      | false => exact isaN_kit h rs rvs e
theorem bi_isa (ok : TabOk T X.prog X.w X.K X.mg X.base k) : CallR X (.builtin "isinstance") (rF (cn X) (biIsa T)) := by
  intro pins s σ H xs vs Q I rv h
  obtain ⟨r, m, us, C, rs, kk⟩ := h
  match us, rs, kk with
  | [u, w], rs, kk =>
    obtain ⟨x, y, rfl, ru, rw'⟩ := rs.two
    obtain ⟨v1, v2, rfl, r1, r2⟩ := vals2 rv
    by_cases hw : ∃ cls, w = .tup cls
    · obtain ⟨cls, rfl⟩ := hw
      match cls, rw', kk with
      | [], _, kk => exact (show False from kk).elim
      | c0 :: cls, rw', kk =>
        obtain ⟨b, e, kk2⟩ := map_some (show kO (cn X) RU r H Q ((isaN T u m (c0 :: cls)).map fun b => (.bl b, m)) from kk)
        cases rw' with
        | @tup _ a xs hT hs =>
          obtain ⟨its, rv2, ⟨o, h1, h2, n, h3⟩, hz⟩ := I.tuple hT.sq
          cases (show v2 = Value.ref a from r2)
          obtain ⟨oc, od, dt, sl⟩ := o
          simp only at h2 h3
          subst h2 h3
          have e0 : ∃ b0, isa1 T u c0 m = some b0 := by
            unfold isaN at e
            cases e1 : isa1 T u c0 m with
            | none =>
              rw [e1] at e
              cases e
            | some b1 => exact ⟨b1, rfl⟩
          obtain ⟨b0, e0⟩ := e0
          obtain ⟨t, P, Z, p, hx, hk⟩ := isa_kit ok I C ru r1 e0
          exact PySem.W.kia_tup Z I.kIn p h1 (isaN_kit hk hs rv2 e) hx fun tk => ⟨.bl b, H, I.tok tk, rfl, kk2.get C (.bl b)⟩
    · have e : biIsa T [u, w] m = (isa1 T u w m).map fun b => (.bl b, m) := by
        cases w <;> first | exact absurd ⟨_, rfl⟩ hw | rfl
      rw [e] at kk
      obtain ⟨b, e, kk2⟩ := map_some kk
      obtain ⟨t, P, Z, p, hx, hk⟩ := isa_kit ok I C ru r1 e
      obtain ⟨cv, c1, c2⟩ := hk _ _ e
      have ev := cl_val rw' r2 c1
      subst ev
      exact PySem.W.kia_one Z I.kIn p c2 hx fun tk => ⟨.bl b, H, I.tok tk, rfl, kk2.get C (.bl b)⟩
  | [], _, kk => exact (show False from kk).elim
  | [_], _, kk => exact (show False from kk).elim
  | _ :: w :: _ :: _, rs, kk =>
    cases w with
    | tup l => cases l <;> exact (show False from kk).elim
    | _ => exact (show False from kk).elim
end
end Mi
/-! Mi, part O: raise, try. -/
namespace Mi
open PySem PySem.Spec PyProof.Rows L2
/-! ### raise -/
/-- raise C('..') -/
def sRaise (x : Str) : S1 := fun t m => .err ⟨x, []⟩ t m
section
variable {X : Cx} {W : WX} {T : Tab} {k : Nat}
theorem ms_raise {x z : Str} {j : Nat} {p p2 p3 pos : Pos} (ok : TabOk T X.prog X.w X.K X.mg X.base k) (hc : X.calm = true) (tk : Takes X W) (hx : T.exc x = true) (hg : Gl X x) (hdb : (x == ("__debug__" : Str)) = false) :
    PS X (.Raise (some (.Call (.Name x p) [.Constant (.str z) j p2] [] p3)) none pos) (tS (cn X) W (sRaise x)) := by
  obtain ⟨C, h1, h2, h3, h4, h5⟩ := ok.exc x hx
  refine (ps_raise hc tk (pmk_own PySem.F.excBase_ValueError h2 h1 h3 (raises_own h4 h5) hg hdb)).weak fun D s H h => ?_
  obtain ⟨r, m, t, Co, E, kk⟩ := h
  exact kk r H s _ _ (Ext.refl _ _) Co E ⟨C, h1, rfl, .inl ⟨rfl, rfl⟩⟩
end
/-! ### a caught exception is taken up as a thing that is known -/
section
variable {X : Cx} {pins : List (Addr × Obj)} {σ : L2.St} {H : Hp} {s : Shared}
theorem inv_adopt {a : Addr} {o : HO} {oe : Obj} {vs : Array Value} (I : Inv X pins σ H s) (h0 : X.s_0.heap.get? a = none) (hn : H a = none) (he : s.heap.get? a = some oe) (hd : oe.data = .fields vs) (nL : a ≠ X.env.locals) (hp : ∀ p ∈ X.pn ++ pins, p.1 ≠ a)
    (new : ObjOk X.prog X.w (upd H a o) s.heap a o) : Inv X pins σ (upd H a o) s where
  ok := I.ok
  os := I.os
  bare := I.bare
  base :=
    { keep := I.base.keep
      slot := I.base.slot
      free := fun b ob e n hx => by
        rw [upd_ne (fun z => by rw [z, h0] at e; cases e)]
        exact I.base.free b ob e n hx
      there := I.base.there
      tups := fun b xs e => by
        have q := I.base.tups b xs e
        rw [upd_ne (ne_of_none q hn)]
        exact q
      frzs := fun b ob u e => by
        have q := I.base.frzs b ob u e
        rw [upd_ne (ne_of_none q hn)]
        exact q
      tbls := fun b ps e => by
        obtain ⟨m, q⟩ := I.base.tbls b ps e
        exact ⟨m, by rw [upd_ne (ne_of_none q hn)]; exact q⟩ }
  loc := I.loc
  cell := I.cell
  free := by rw [upd_ne (Ne.symm nL)]; exact I.free
  freeC := fun x c e => by
    obtain ⟨v, ob, ho, hv⟩ := I.cell x c e
    rw [upd_ne (fun z => by rw [z, he] at ho; cases ho; rw [hd] at hv; cases hv)]
    exact I.freeC x c e
  pin := fun p h => by
    obtain ⟨e, n, ne, nf, d⟩ := I.pin p h
    exact ⟨e, by rw [upd_ne (hp p h)]; exact n, ne, nf, d⟩
  hok := I.hok.laidN (fun _ _ q => q) hn new
  len := I.len
theorem inv_unsuite {a : Addr} {pn' : List (Addr × Obj)} (I : Inv (X.suite a (X.pn ++ pins)) pn' σ H s) (ok : X.Ok) : Inv X pins σ H s :=
  ⟨ok, I.os, I.bare, I.base, I.loc, I.cell, I.free, I.freeC, fun p hp => I.pin p (List.mem_append_left _ hp), I.hok, I.len⟩
theorem inv_suite {a : Addr} (I : Inv X pins σ H s) : Inv (X.suite a (X.pn ++ pins)) [] σ H s :=
  ⟨I.ok.suite _ _, I.os, I.bare, I.base, I.loc, I.cell, I.free, I.freeC, fun p hp => I.pin p (by rw [List.append_nil] at hp; exact hp), I.hok, I.len⟩
end
/-- the ends of a suite that bears a name -/
def dropD (oi : Option Nat) (D : Ends) : Ends := match oi with
  | none => D
  | some i => { nx := fun σ' H' => D.nx (σ'.set i none) H', rt := D.rt, bk := fun σ' H' => D.bk (σ'.set i none) H', ct := fun σ' H' => D.ct (σ'.set i none) H' }
def setO (oi : Option Nat) (a : Addr) (σ : L2.St) : L2.St := match oi with
  | none => σ
  | some i => σ.set i (some (.ref a))
/-- what the clauses wish of an exception of the body, one after the other -/
def wHd (K : PySem.W.Frag) (Wout : WX) (D : Ends) : List (Value × Option Nat × TS) → WX
  | [] => Wout
  | (c, oi, ts) :: r => fun cls d σ H => ∃ b, PySem.W.exmOne K cls c = some b ∧ (b = true → d = none ∧ ∀ a, H a = none → ts (dropD oi D) (setO oi a σ) (upd H a (ExC cls none a))) ∧ (b = false → wHd K Wout D r cls d σ H)
inductive HdU (X : Cx) : List ExceptHandler → List (Value × Option Nat × TS) → Prop
  | nil : HdU X [] []
  | cons {x : Str} {c : Value} {ts : TS} {b₀ : Stmt} {suite : List Stmt} {np pos' : Pos} {hds : List ExceptHandler} {l : List (Value × Option Nat × TS)} (hc : Names X x c)
      (hsu : ∀ (a : Addr) (pn : List (Addr × Obj)), PSs (X.suite a pn) (b₀ :: suite) ts) (r : HdU X hds l) :
      HdU X (.ExceptHandler (some (.Name x np)) none (b₀ :: suite) pos' :: hds) ((c, none, ts) :: l)
  | named {x n : Str} {i : Nat} {c : Value} {ts : TS} {b₀ : Stmt} {suite : List Stmt} {np pos' : Pos} {hds : List ExceptHandler} {l : List (Value × Option Nat × TS)} (hc : Names X x c) (hN : X.N.Nodup) (hi : X.N[i]? = some n) (hln : X.env.kindOf n = some .local)
      (hsu : ∀ (a : Addr) (pn : List (Addr × Obj)), PSs (X.suite a pn) (b₀ :: suite) ts) (r : HdU X hds l) :
      HdU X (.ExceptHandler (some (.Name x np)) (some n) (b₀ :: suite) pos' :: hds) ((c, some i, ts) :: l)
section
variable {X : Cx} {body : List Stmt} {h₀ : ExceptHandler} {hds : List ExceptHandler} {l : List (Value × Option Nat × TS)} {pos : Pos} {tb : WX → TS} {Wout : WX}
theorem ps_tryU (hex : X.ex = []) (hs : X.stack = X.env :: X.outer) (hf : X.env.frame = some X.env.locals) (tk : Takes X Wout)
    (hb : ∀ (W : WX) (pn : List (Addr × Obj)) (xe : Value → Shared → Prop), Takes (X.tr pn xe) W → PassesOwn (model X.prog X.w) X.A X.env xe → PSs (X.tr pn xe) body (tb W))
    (hh : HdU X (h₀ :: hds) l) : PS X (.Try body (h₀ :: hds) [] [] pos) (fun D σ H => tb (wHd X.K Wout D l) D σ H) := by
  refine ⟨fun pins s σ H D I h => ?_⟩
  have ok := I.ok
  have hfr : X.A.frames = some (X.env :: X.outer) := by rw [ok.frames, hs]
  refine wpAny_Try_except ?_
  refine wpAny_mono ((hb (wHd X.K Wout D l) (X.pn ++ pins) (fun e s₁ => wpAny (model X.prog X.w) X.A (noteFrame e X.env) (fun _ s₂ => wpAny (model X.prog X.w) X.A (setFlight e none) (fun _ s₃ =>
    wpAny (model X.prog X.w) X.A (handleBy e X.env (h₀ :: hds)) (SP X pins D) X.xe s₃) X.xe s₂) X.xe s₁) (fun u s' xx => ?_) PassesOwn.looking).run [] s σ H D (I.toTry _) h) (fun f s1 hsp => ?_) (fun e s1 he => he)
  · -- the catch
    obtain ⟨a, B, sI, pins', σ', H', cls, d, rfl, J', nb, up, sky, na, os, ag, w⟩ := xx
    have J : Inv X pins σ' H' sI := J'.ofTry ok
    have sky' : Sky B (X.env :: X.outer) a (Zc cls d) X.env.locals s'.heap := by rw [← hs]; exact sky
    show wpAny (model X.prog X.w) X.A (noteFrame (.ref a) X.env) _ _ _
    refine Sky.land Zc.steady hfr hf sky' fun h3 fl3 up3 => ?_
    have J3 : Inv X pins σ' H' { s' with heap := h3 } := J.landed nb fl3.1 (up.trans up3) os ag
    obtain ⟨oe3, vs3, he3, hz3, hd3⟩ := fl3.there
    have notFr : ∀ {h : Heap} {o : Obj} {vs : Array Value}, h.FunFrames B (X.env :: X.outer) → h.get? a = some o → o.data = .fields vs → a ∉ frs (X.env :: X.outer) := fun {h o vs} ff e dd hm => by
      obtain ⟨_, o', e', hnf⟩ := ff.mem hm
      rw [e] at e'; cases e'
      exact hnf _ dd
    have nfr := notFr fl3.2.2.1 he3 hd3
    have nL : a ≠ X.env.locals := fun z => nfr (List.mem_filterMap.mpr ⟨X.env, List.mem_cons_self, by rw [hf, z]⟩)
    have nI : sI.heap.get? a = none := by
      cases e : sI.heap.get? a with
      | none => rfl
      | some o =>
        have z := nb a o e (by rw [hs]; exact nfr)
        rw [fl3.2.1] at z
        cases z
    have n0 : X.s_0.heap.get? a = none := by
      cases e : X.s_0.heap.get? a with
      | none => rfl
      | some o =>
        obtain ⟨o', z⟩ := J.base.there a o e (by rw [hex]; exact fun z => nomatch z)
        rw [nI] at z
        cases z
    have nP : ∀ p ∈ X.pn ++ pins, p.1 ≠ a := fun p hp z => by
      have q := (J.pin p hp).1
      rw [z, nI] at q
      cases q
    have adopt : ∀ {h4 : Heap} {oe4 : Obj} {vs4 : Array Value}, d = none → Inv X pins σ' H' { s' with heap := h4 } → h4.get? a = some oe4 → Zc cls d oe4 → oe4.data = .fields vs4 → Inv X pins σ' (upd H' a (ExC cls none a)) { s' with heap := h4 } := fun {h4 oe4 vs4} hd J4 he4 hz4 hd4 => by
      subst hd
      exact inv_adopt (s := { s' with heap := h4 }) J4 n0 na he4 hd4 nL nP ⟨⟨oe4, vs4, he4, hz4, hd4⟩, ⟨oe4, he4⟩, fun _ _ ⟨o, v, q, z⟩ kk => ⟨o, v, kk o q, z⟩⟩
    have S3 := inv_suite (a := a) J3
    have LT : PySem.W.Looks (model X.prog X.w) h3 (typeOf (.ref a)) cls := fun A Q E s k q => wpAny_typeOf_ref (k _ _ he3) (by rw [hz3.1]; exact q)
    have test : ∀ {x : Str} {c : Value} {np : Pos} {Q : Value → Shared → Prop} {E : Value → Shared → Prop}, Names X x c → Q c { s' with heap := h3 } → wpAny (model X.prog X.w) (X.A.mark (some (.ref a))) (eval (.Name x np) X.env) Q E { s' with heap := h3 } := fun {x c np Q E} hc q => by
      obtain ⟨hg, hdbg, hm | ⟨hm, hv, hnn⟩⟩ := hc
      · exact ld_glob (X := X.suite a (X.pn ++ pins)) S3 hg hm q hdbg
      · exact ld_blt (X := X.suite a (X.pn ++ pins)) S3 hg hm hv q hnn hdbg
    have go : ∀ {hds' : List ExceptHandler} {l' : List (Value × Option Nat × TS)}, HdU X hds' l' → wHd X.K Wout D l' cls d σ' H' →
        wpAny (model X.prog X.w) X.A (handleBy (.ref a) X.env hds') (SP X pins D) X.xe { s' with heap := h3 } := by
      intro hds' l' hk
      induction hk with
      | nil =>
        intro w
        refine wpAny_handleBy_nil ?_
        obtain ⟨k1, k2, k3, oe, vs, T, oT, ts', he, hz, hd, h1, hr⟩ := id fl3
        unfold PySem.passOn
        refine wpAny_bind (wpAny_field he hd h1 ?_)
        rw [if_neg (show ¬ ((Value.ref T == Value.none) = true) from by simp)]
        have fin : wpAny (model X.prog X.w) X.A (setFlight (.ref a) X.env.frame) (fun _ s4 => wpAny (model X.prog X.w) X.A (throw (.ref a) : Sem Flow) (SP X pins D) X.xe s4) X.xe { s' with heap := h3 } := by
          rw [hf]
          refine HandSPX.setFlight_upZ fl3 fun h4 hh4 up4 => wpAny_throw (tk _ _ ?_)
          exact ⟨a, B, sI, pins, σ', H', cls, d, rfl, J, nb, (up.trans up3).trans up4, .inr (.inr (by rw [hs]; exact hh4)), na, os, ag, w⟩
        first
          | exact wpAny_bind (wpAny_pure (wpAny_bind fin))
          | exact wpAny_bind fin
      | @cons x c ts b₀ suite np pos' hds2 l2 hc hsu r ih =>
        intro w
        obtain ⟨b, hb1, hyes, hno⟩ := w
        refine wpAny_handleBy_cons (codeAny_handlers_test ?_) (by intro q; cases q)
        have LM := PySem.W.exm_one (M := model X.prog X.w) (J3.kIn) LT hb1
        refine test hc (LM.here ?_)
        cases b with
        | true =>
          obtain ⟨hd0, hyes⟩ := hyes rfl
          refine codeAny_handlers_suite ?_
          refine HandSPX.lands_againZ fl3 fun h4 fl4 up4 => ?_
          have J4 : Inv X pins σ' H' { s' with heap := h4 } := J.landed nb fl4.1 ((up.trans up3).trans up4) os ag
          obtain ⟨oe4, vs4, he4, hz4, hd4⟩ := fl4.there
          have S4 := inv_suite (a := a) (adopt hd0 J4 he4 hz4 hd4)
          refine wpAny_mono ((hsu a (X.pn ++ pins)).run [] _ _ _ _ S4 (hyes a na)) (fun f s6 hsp => ?_) (fun _ _ z => False.elim z)
          cases f with
          | next =>
            obtain ⟨σ6, H6, S6, q6⟩ := hsp
            exact ⟨_, _, inv_unsuite S6 ok, q6⟩
          | brk =>
            obtain ⟨σ6, H6, S6, q6⟩ := hsp
            exact ⟨_, _, inv_unsuite S6 ok, q6⟩
          | cont =>
            obtain ⟨σ6, H6, S6, q6⟩ := hsp
            exact ⟨_, _, inv_unsuite S6 ok, q6⟩
          | ret u =>
            obtain ⟨v6, σ6, H6, S6, r6, q6⟩ := hsp
            exact ⟨_, _, _, inv_unsuite S6 ok, r6, q6⟩
        | false =>
          show wpAny _ X.A (handleBy (.ref a) X.env hds2) _ _ _
          exact ih (hno rfl)
      | @named x n i c ts b₀ suite np pos' hds2 l2 hc hN hi hln hsu r ih =>
        intro w
        obtain ⟨b, hb1, hyes, hno⟩ := w
        refine wpAny_handleBy_cons (codeAny_handlers_test ?_) (by intro q; cases q)
        have LM := PySem.W.exm_one (M := model X.prog X.w) (J3.kIn) LT hb1
        refine test hc (LM.here ?_)
        cases b with
        | true =>
          obtain ⟨hd0, hyes⟩ := hyes rfl
          refine codeAny_handlers_suite_as ?_
          refine HandSPX.lands_againZ fl3 fun h4 fl4 up4 => ?_
          have J4 : Inv X pins σ' H' { s' with heap := h4 } := J.landed nb fl4.1 ((up.trans up3).trans up4) os ag
          obtain ⟨oe4, vs4, he4, hz4, hd4⟩ := fl4.there
          have S4 := inv_suite (a := a) (adopt hd0 J4 he4 hz4 hd4)
          refine store_ok (X := X.suite a (X.pn ++ pins)) (v := .ref a) S4 hN hi (.inl hln) rfl (fun s5 S5 => ?_) (.inr hln)
          refine wpAny_mono ((hsu a (X.pn ++ pins)).run [] s5 _ _ _ S5 (hyes a na)) (fun f s6 hsp => ?_) (fun _ _ z => False.elim z)
          have end_ : ∀ {σ6 : L2.St} {H6 : Hp} {Q : Shared → Prop}, Inv (X.suite a (X.pn ++ pins)) [] σ6 H6 s6 → (∀ s7, Inv X pins (σ6.set i none) H6 s7 → Q s7) →
              wpAny (model X.prog X.w) X.A (do bindName X.env n .none; unbindBehindTheSuite X.env n pos') (fun _ s7 => Q s7) X.xe s6 := fun {σ6 H6 Q} S6 hq => gone_ok (inv_unsuite S6 ok) hN hi hln hq
          cases f with
          | next =>
            obtain ⟨σ6, H6, S6, q6⟩ := hsp
            exact end_ S6 fun s7 J7 => ⟨_, _, J7, q6⟩
          | brk =>
            obtain ⟨σ6, H6, S6, q6⟩ := hsp
            exact end_ S6 fun s7 J7 => ⟨_, _, J7, q6⟩
          | cont =>
            obtain ⟨σ6, H6, S6, q6⟩ := hsp
            exact end_ S6 fun s7 J7 => ⟨_, _, J7, q6⟩
          | ret u =>
            obtain ⟨v6, σ6, H6, S6, r6, q6⟩ := hsp
            exact end_ S6 fun s7 J7 => ⟨_, _, _, J7, r6, q6⟩
        | false =>
          show wpAny _ X.A (handleBy (.ref a) X.env hds2) _ _ _
          exact ih (hno rfl)
    exact go hh w
  · cases f with
    | next =>
      obtain ⟨σ', H', J', q⟩ := hsp
      exact wpAny_execs_nil ⟨σ', H', J'.ofTry ok, q⟩
    | brk =>
      obtain ⟨σ', H', J', q⟩ := hsp
      exact ⟨σ', H', J'.ofTry ok, q⟩
    | cont =>
      obtain ⟨σ', H', J', q⟩ := hsp
      exact ⟨σ', H', J'.ofTry ok, q⟩
    | ret u =>
      obtain ⟨v, σ', H', J', r, q⟩ := hsp
      exact ⟨v, σ', H', J'.ofTry ok, r, q⟩
end
/-! ### try, by own values -/
structure Hd where
  cls : Str
  slot : Option Nat
  suite : S1
def unSlot (oi : Option Nat) : SO → SO
  | .nx t m => (match oi with
    | none => .nx t m
    | some i => .nx (t.set i none) m)
  | .bk t m => (match oi with
    | none => .bk t m
    | some i => .bk (t.set i none) m)
  | .ct t m => (match oi with
    | none => .ct t m
    | some i => .ct (t.set i none) m)
  | .rt u m => .rt u m
  | .err _ _ _ => .bad
  | .bad => .bad
def handle (T : Tab) (x : Ex) : List Hd → S1
  | [] => fun t m => .err x t m
  | h :: hs => fun t m => match T.sub x.cls h.cls with
    | some true => if x.fs.isEmpty = true then (match h.slot with
      | none => unSlot none (h.suite t m)
      | some i => unSlot (some i) (h.suite (t.set i (some (.exn x.cls))) m)) else .bad
    | some false => handle T x hs t m
    | none => .bad
def sTry (T : Tab) (fb : S1) (hs : List Hd) : S1 := fun t m => match fb t m with
  | .err x t' m' => handle T x hs t' m'
  | o => o
inductive HdM (X : Cx) : List ExceptHandler → List Hd → Prop
  | nil : HdM X [] []
  | cons {x : Str} {f : S1} {b₀ : Stmt} {suite : List Stmt} {np pos' : Pos} {hds : List ExceptHandler} {l : List Hd} (hg : Gl X x) (hdb : (x == ("__debug__" : Str)) = false)
      (hsu : ∀ (a : Addr) (pn : List (Addr × Obj)), PSs (X.suite a pn) (b₀ :: suite) (tS (cn X) W0 f)) (r : HdM X hds l) :
      HdM X (.ExceptHandler (some (.Name x np)) none (b₀ :: suite) pos' :: hds) (⟨x, none, f⟩ :: l)
  | named {x n : Str} {i : Nat} {f : S1} {b₀ : Stmt} {suite : List Stmt} {np pos' : Pos} {hds : List ExceptHandler} {l : List Hd} (hg : Gl X x) (hdb : (x == ("__debug__" : Str)) = false) (hN : X.N.Nodup) (hi : X.N[i]? = some n) (hln : X.env.kindOf n = some .local)
      (hsu : ∀ (a : Addr) (pn : List (Addr × Obj)), PSs (X.suite a pn) (b₀ :: suite) (tS (cn X) W0 f)) (r : HdM X hds l) :
      HdM X (.ExceptHandler (some (.Name x np)) (some n) (b₀ :: suite) pos' :: hds) (⟨x, some i, f⟩ :: l)
section
variable {X : Cx} {T : Tab} {k : Nat}
/-- every class that a clause names stands at the top -/
def HdK (X : Cx) (l : List Hd) : Prop := ∀ h ∈ l, ∃ D, X.mg h.cls = some (.ref D)
theorem hdU_of : ∀ {hds : List ExceptHandler} {l : List Hd}, HdM X hds l → HdK X l → ∃ l' : List (Value × Option Nat × TS), HdU X hds l' ∧
    Paired (fun (h : Hd) (p : Value × Option Nat × TS) => X.mg h.cls = some p.1 ∧ h.slot = p.2.1 ∧ p.2.2 = tS (cn X) W0 h.suite) l l'
  | _, _, .nil, _ => ⟨[], .nil, .nil⟩
  | _, _, .cons hg hdb hsu r, hk => by
    obtain ⟨D, hD⟩ := hk _ List.mem_cons_self
    obtain ⟨l', h1, h2⟩ := hdU_of r fun h hh => hk h (List.mem_cons_of_mem _ hh)
    exact ⟨(.ref D, none, _) :: l', .cons ⟨hg, hdb, .inl hD⟩ hsu h1, .cons ⟨hD, rfl, rfl⟩ h2⟩
  | _, _, .named hg hdb hN hi hln hsu r, hk => by
    obtain ⟨D, hD⟩ := hk _ List.mem_cons_self
    obtain ⟨l', h1, h2⟩ := hdU_of r fun h hh => hk h (List.mem_cons_of_mem _ hh)
    exact ⟨(.ref D, some _, _) :: l', .named ⟨hg, hdb, .inl hD⟩ hN hi hln hsu h1, .cons ⟨hD, rfl, rfl⟩ h2⟩
/-- from a suite's end -/
theorem kS_unSlot {c : Cn} {W : WX} {r : Gh} {H : Hp} {D : Ends} {oi : Option Nat} {o : SO} (h : kS c W r H D (unSlot oi o)) : kS c W0 r H (dropD oi D) o := by
  cases o with
  | nx t m => cases oi with
    | none => exact h
    | some i => exact fun r' H' s' e C E => h r' H' _ e C (E.unset i)
  | bk t m => cases oi with
    | none => exact h
    | some i => exact fun r' H' s' e C E => h r' H' _ e C (E.unset i)
  | ct t m => cases oi with
    | none => exact h
    | some i => exact fun r' H' s' e C E => h r' H' _ e C (E.unset i)
  | rt u m => cases oi with
    | none => exact h
    | some i => exact h
  | err x t m => exact h.elim
  | bad => exact h.elim
theorem wHd_of (ok : TabOk T X.prog X.w X.K X.mg X.base k) {Wout : WX} {D : Ends} {x : Ex} : ∀ {l : List Hd} {l' : List (Value × Option Nat × TS)}, Paired (fun (h : Hd) (p : Value × Option Nat × TS) => X.mg h.cls = some p.1 ∧ h.slot = p.2.1 ∧ p.2.2 = tS (cn X) W0 h.suite) l l' →
    ∀ {r : Gh} {H : Hp} {t : Env1} {m : MH} {s : L2.St} {cls : Value} {d : Option Addr}, Corr (cn X) r m H → EnvR (cn X) r H t s → XR (cn X) r H x cls d → kS (cn X) Wout r H D (handle T x l t m) → wHd X.K Wout D l' cls d s H
  | _, _, .nil, r, H, t, m, s, cls, d, C, E, xr, h => h r H s cls d (Ext.refl _ _) C E xr
  | h0 :: l, (c, oi, ts) :: l', .cons ⟨h1, h2, h3⟩ hr, r, H, t, m, s, cls, d, C, E, xr, h => by
    obtain ⟨y, sl, su⟩ := h0
    dsimp only at h1 h2 h3
    subst h2 h3
    unfold handle at h
    dsimp only at h
    cases e : T.sub x.cls y with
    | none =>
      rw [e] at h
      exact h.elim
    | some b =>
      rw [e] at h
      obtain ⟨Cc, Dd, g1, g2, g3⟩ := ok.sub _ _ _ e
      obtain ⟨C0, g4, rfl, g5⟩ := xr
      have ec : C0 = Cc := Value.ref.inj (Option.some.inj ((show X.mg x.cls = some (.ref C0) from g4).symm.trans g1))
      subst ec
      have ed : c = .ref Dd := Option.some.inj (h1.symm.trans g2)
      subst ed
      refine ⟨b, g3, fun hb => ?_, fun hb => ?_⟩
      · subst hb
        dsimp only at h
        by_cases hf : x.fs.isEmpty = true
        · rw [if_pos hf] at h
          have hd : d = none := by
            rcases g5 with ⟨_, z⟩ | ⟨a, ps, z, _⟩
            · exact z
            · exact absurd (List.isEmpty_iff.mp hf) z
          subst hd
          refine ⟨rfl, fun a ha => ?_⟩
          obtain ⟨C', e', n1, n2⟩ := C.beside (o := ExC (.ref C0) none a) ha
          cases sl with
          | none => exact ⟨r, m, t, C', E.ext e'.w, (kS_unSlot h).from e'⟩
          | some i => exact ⟨r, m, _, C', (E.ext e'.w).set (.exn g4 n1 n2 upd_same) i, (kS_unSlot h).from e'⟩
        · rw [if_neg hf] at h
          exact h.elim
      · subst hb
        exact wHd_of ok hr C E ⟨C0, g4, rfl, g5⟩ h
theorem ms_try {body : List Stmt} {h₀ : ExceptHandler} {hds : List ExceptHandler} {l : List Hd} {pos : Pos} {fb : S1} {W : WX} (ok : TabOk T X.prog X.w X.K X.mg X.base k) (hex : X.ex = []) (hs : X.stack = X.env :: X.outer) (hf : X.env.frame = some X.env.locals) (tk : Takes X W)
    (hb : ∀ (W : WX) (pn : List (Addr × Obj)) (xe : Value → Shared → Prop), Takes (X.tr pn xe) W → PassesOwn (model X.prog X.w) X.A X.env xe → PSs (X.tr pn xe) body (tS (cn X) W fb))
    (hh : HdM X (h₀ :: hds) l) (hk : HdK X l) : PS X (.Try body (h₀ :: hds) [] [] pos) (tS (cn X) W (sTry T fb l)) := by
  obtain ⟨l', h1, h2⟩ := hdU_of hh hk
  refine (ps_tryU (tb := fun W => tS (cn X) W fb) hex hs hf tk hb h1).weak fun D s H h => ?_
  obtain ⟨r, m, t, C, E, kk⟩ := h
  refine ⟨r, m, t, C, E, ?_⟩
  unfold sTry at kk
  cases e : fb t m with
  | err x t' m' =>
    rw [e] at kk
    exact fun r' H' s' cls d ex C' E' xr => wHd_of ok h2 C' E' xr (kk.from ex)
  | nx t' m' => rw [e] at kk; exact kk
  | rt u m' => rw [e] at kk; exact kk
  | bk t' m' => rw [e] at kk; exact kk
  | ct t' m' => rw [e] at kk; exact kk
  | bad => rw [e] at kk; exact kk
end
end Mi
/-! Na, part A: targets with a star. -/
namespace Mi
open PySem PySem.Spec PyProof.Rows L2
set_option linter.unusedVariables false
section
variable {X : Cx} {pins : List (Addr × Obj)} {σ : L2.St} {H : Hp} {s : Shared}
/-- what is drawn ahead of the star, the new list, what stands behind it -/
theorem star_end {first rest : List Value} {xf xm xl : List V} {s1 : Shared} {Q : List Value → Shared → Prop} {k : Nat} (I : Inv X pins σ H s1) (hz : rest.length ≤ sizeLine)
    (rf : Vals xf first) (rm : Vals xm (rest.take k)) (rl : Vals xl (rest.drop k))
    (hQ : ∀ (p : Addr) (vs : List Value) (s' : Shared), H p = none → Inv X pins σ (upd H p (.lst xm)) s' → Vals (xf ++ .ref p :: xl) vs → Q vs s') :
    wpAny (model X.prog X.w) X.A (newList (rest.take k) >>= fun d => pure (first ++ [d] ++ rest.drop k)) Q X.xe s1 := by
  refine wpAny_bind (wpAny_newList ?_ (by rw [List.length_take]; omega))
  have hf : H s1.heap.objs.size = none := I.hok.fresh (Nat.le_refl _)
  have J := I.laid (a := s1.heap.objs.size) (o := .lst xm) (t' := s1.toks) (fun b u e => Heap.get?_push_of_some _ e) (Nat.le_refl _) ⟨by rw [rm.length, List.length_take]; omega, _, 0, rm, Heap.get?_push_size _ rfl⟩
  refine wpAny_pure (hQ _ _ _ hf J ?_)
  rw [List.append_assoc]
  exact rf.append (.cons rfl rl)
theorem starT {a : Addr} {xs : List V} {n i : Nat} {Q : List Value → Shared → Prop} (I : Inv X pins σ H s) (hh : X.A.handled = none) (h : SqT X.K H a xs) (hi : i < n) (hn : n ≤ xs.length + 1)
    (hQ : ∀ (p : Addr) (vs : List Value) (s' : Shared), H p = none → Inv X pins σ (upd H p (.lst ((xs.drop i).take (xs.length + 1 - n)))) s' → Vals (xs.take i ++ .ref p :: (xs.drop i).drop (xs.length + 1 - n)) vs → Q vs s') :
    wpAny (model X.prog X.w) X.A (unpackItems (.ref a) n (some i)) Q X.xe s := by
  obtain ⟨its, rv, hl, hz⟩ := I.tuple h
  have el : xs.length = its.length := rv.length
  have ez : its.toArray.size = its.length := List.size_toArray
  have lt : a < s.heap.objs.size := by obtain ⟨o, ho, _⟩ := hl; exact Heap.lt_size ho
  have ne : a ≠ s.heap.objs.size := Nat.ne_of_lt lt
  unfold unpackItems notIterableAtAll
  refine wpAny_bind (wpAny_bind (wpAny_specialOf hl.typeIs slot_tuple_iter.lookup (wpAny_pure ?_)))
  simp only [Bool.false_eq_true, if_false]
  refine wpAny_bind (wpAny_holding (iter_tuple hl ?_))
  refine wpAny_bind (wpAny_holding (draw_tuple ne i 0 _ _ ⟨_, Heap.get?_push_size _ rfl, rfl, rfl⟩ (hl.push _) (by omega) fun h1 it1 sb => ?_))
  have hl1 : IsTup h1 a its.toArray := (hl.push _).extBut sb.extBut ne
  rw [Nat.zero_add] at it1
  have l1 : s.heap.objs.size < h1.objs.size := by obtain ⟨o, ho, _⟩ := id it1; exact Heap.lt_size ho
  have l2 : a < h1.objs.size := by obtain ⟨o, ho, _⟩ := id hl1; exact Heap.lt_size ho
  have e0 : (its.toArray.toList.drop 0).take i = its.take i := by rw [List.drop_zero]
  rw [e0, if_neg (by rw [List.length_take]; omega)]
  refine wpAny_bind (wpAny_holding (PySem.W.kun_collect (s := { s with heap := h1 }) (T := "tuple_iterator") (.inr (.inr (.inr rfl))) (Walks.tuple (A := X.A.in1) hh s.heap.objs.size a ne its.toArray) (fun j u st => st.1.typeIs) (k := i) (by omega) ⟨it1, hl1⟩ l1 l2 (fun h2 tk hk => ?_) (by omega)))
  have J : Inv X pins σ H { s with heap := h2, toks := tk } := I.kept (t' := tk) fun b o e => hk b o (Nat.ne_of_lt (Heap.lt_size e)) (sb.extBut b o (Nat.ne_of_lt (Heap.lt_size e)) (Heap.get?_push_of_some _ e))
  have ed : its.toArray.toList.drop i = its.drop i := rfl
  have ek : (its.drop i).length - (n - 1 - i) = xs.length + 1 - n := by rw [List.length_drop]; omega
  show wpAny _ _ (if (its.drop i).length < n - 1 - i then _ else (newList ((its.drop i).take ((its.drop i).length - (n - 1 - i))) >>= fun d => pure (its.take i ++ [d] ++ (its.drop i).drop ((its.drop i).length - (n - 1 - i))))) _ _ _
  rw [if_neg (by rw [List.length_drop]; omega), ek]
  exact star_end J (by rw [List.length_drop]; omega) (rv.take i) ((rv.drop i).take _) ((rv.drop i).drop _) hQ
theorem starL {a : Addr} {xs : List V} {n i : Nat} {Q : List Value → Shared → Prop} (I : Inv X pins σ H s) (hh : X.A.handled = none) (h : SqL X.K H a xs) (hi : i < n) (hn : n ≤ xs.length + 1)
    (hQ : ∀ (p : Addr) (vs : List Value) (s' : Shared), H p = none → Inv X pins σ (upd H p (.lst ((xs.drop i).take (xs.length + 1 - n)))) s' → Vals (xs.take i ++ .ref p :: (xs.drop i).drop (xs.length + 1 - n)) vs → Q vs s') :
    wpAny (model X.prog X.w) X.A (unpackItems (.ref a) n (some i)) Q X.xe s := by
  obtain ⟨its, rv, pl, hz0⟩ := I.list h
  have hl : s.heap.IsList a its.toArray := pl.isList
  have el : xs.length = its.length := rv.length
  have ez : its.toArray.size = its.length := List.size_toArray
  have hz : its.toArray.size ≤ sizeLine := by rw [ez]; omega
  have lt : a < s.heap.objs.size := by obtain ⟨o, ho, _⟩ := hl; exact Heap.lt_size ho
  have ne : a ≠ s.heap.objs.size := Nat.ne_of_lt lt
  unfold unpackItems notIterableAtAll
  refine wpAny_bind (wpAny_bind (wpAny_specialOf hl.typeIs slot_list_iter.lookup (wpAny_pure ?_)))
  simp only [Bool.false_eq_true, if_false]
  refine wpAny_bind (wpAny_holding (wpAny_pyIter_list hl ?_))
  refine wpAny_bind (wpAny_holding (PySem.W.kun_draw ne i 0 _ _ ⟨_, Heap.get?_push_size _ rfl, rfl, rfl⟩ (hl.push _) (by omega) fun h1 it1 sb => ?_))
  have hl1 : h1.IsList a its.toArray := (hl.push _).extBut sb.extBut ne
  rw [Nat.zero_add] at it1
  have l1 : s.heap.objs.size < h1.objs.size := by obtain ⟨o, ho, _⟩ := id it1; exact Heap.lt_size ho
  have l2 : a < h1.objs.size := by obtain ⟨o, ho, _⟩ := id hl1; exact Heap.lt_size ho
  have e0 : (its.toArray.toList.drop 0).take i = its.take i := by rw [List.drop_zero]
  rw [e0, if_neg (by rw [List.length_take]; omega)]
  refine wpAny_bind (wpAny_holding (PySem.W.kun_collect (s := { s with heap := h1 }) (T := "list_iterator") (.inr (.inr (.inl rfl))) (Walks.list (A := X.A.in1) hh s.heap.objs.size a ne its.toArray) (fun j u st => st.1.typeIs) (k := i) (by omega) ⟨it1, hl1⟩ l1 l2 (fun h2 tk hk => ?_) (by omega)))
  have J : Inv X pins σ H { s with heap := h2, toks := tk } := I.kept (t' := tk) fun b o e => hk b o (Nat.ne_of_lt (Heap.lt_size e)) (sb.extBut b o (Nat.ne_of_lt (Heap.lt_size e)) (Heap.get?_push_of_some _ e))
  have ek : (its.drop i).length - (n - 1 - i) = xs.length + 1 - n := by rw [List.length_drop]; omega
  show wpAny _ _ (if (its.drop i).length < n - 1 - i then _ else (newList ((its.drop i).take ((its.drop i).length - (n - 1 - i))) >>= fun d => pure (its.take i ++ [d] ++ (its.drop i).drop ((its.drop i).length - (n - 1 - i))))) _ _ _
  rw [if_neg (by rw [List.length_drop]; omega), ek]
  exact star_end J (by rw [List.length_drop]; omega) (rv.take i) ((rv.drop i).take _) ((rv.drop i).drop _) hQ
end
/-- what the targets get: i the star's place -/
def starU (i n : Nat) (us : List U) : List U := us.take i ++ .fl ((us.drop i).take (us.length + 1 - n)) :: (us.drop i).drop (us.length + 1 - n)
def gStar (i : Nat) (gs : List G1) : G1 := fun u t m => (itemsU u m).bind fun us => if i < gs.length ∧ gs.length ≤ us.length + 1 then gAll gs (starU i gs.length us) t m else none
/-- without its star -/
def unStar : Expr → Expr
  | .Starred t _ => t
  | e => e
/-- the star's place, where there is just one -/
def starAt : List Expr → Option Nat
  | [] => none
  | .Starred _ _ :: r => if r.all noStar = true then some 0 else none
  | _ :: r => (starAt r).map (· + 1)
section
variable {X : Cx} {es : List Expr} {gs : List G1} {pos : Pos}
theorem each_star {env : Env} : ∀ {es : List Expr} {i : Nat}, starAt es = some i → (assignEach es env).findIdx? (·.1) = some i ∧ (assignEach es env).map (·.2) = (es.map unStar).map (fun e => assign e env) ∧ i < es.length
  | [], i, h => by cases h
  | e :: r, i, h => by
    by_cases hs : ∃ t p, e = .Starred t p
    · obtain ⟨t, p, rfl⟩ := hs
      unfold starAt at h
      by_cases ha : r.all noStar = true
      · rw [if_pos ha] at h
        cases h
        refine ⟨rfl, ?_, Nat.succ_pos _⟩
        show assign t env :: (assignEach r env).map (·.2) = assign t env :: (r.map unStar).map (fun e => assign e env)
        congr 1
        induction r with
        | nil => rfl
        | cons x r ih =>
          rw [List.all_cons, Bool.and_eq_true] at ha
          rw [each_cons ha.1, ih ha.2]
          have : unStar x = x := by cases x <;> first | rfl | (exact nomatch (show false = true from ha.1))
          rw [List.map_cons, List.map_cons, this]
      · rw [if_neg ha] at h
        cases h
    · have hn : noStar e = true := by cases e <;> first | rfl | exact absurd ⟨_, _, rfl⟩ hs
      have hstep : starAt (e :: r) = (starAt r).map (· + 1) := by cases e <;> first | rfl | exact absurd ⟨_, _, rfl⟩ hs
      rw [hstep, Option.map_eq_some_iff] at h
      obtain ⟨j, hj, rfl⟩ := h
      obtain ⟨h1, h2, h3⟩ := each_star (env := env) hj
      have e1 : (assignEach (e :: r) env) = (false, assign e env) :: assignEach r env := by cases e <;> first | rfl | exact absurd ⟨_, _, rfl⟩ hs
      have eu : unStar e = e := by cases e <;> first | rfl | exact absurd ⟨_, _, rfl⟩ hs
      refine ⟨?_, ?_, Nat.succ_lt_succ h3⟩
      · rw [e1, List.findIdx?_cons, h1]
        rfl
      · rw [e1, List.map_cons, h2, List.map_cons, List.map_cons, eu]
theorem all_unStar : ∀ {es : List Expr}, (es.map unStar).all noStar = true → ∀ {env : Env}, (assignEach (es.map unStar) env).map (·.2) = (es.map unStar).map (fun e => assign e env)
  | [], _, _ => rfl
  | e :: r, h, env => by
    rw [List.map_cons, List.all_cons, Bool.and_eq_true] at h
    rw [List.map_cons, each_cons h.1, all_unStar h.2, List.map_cons]
theorem mg_star {n i : Nat} (hc : X.calm = true) (hs : starAt es = some i) (ha : (es.map unStar).all noStar = true) {L : List Nat} (h : PGs X (es.map unStar) (tGts (cn X) L gs)) (hl : es.length = gs.length) : PG X (.Tuple es n pos) (tGt (cn X) L (gStar i gs)) := by
  refine ⟨fun pins s σ H v u Q I rv ⟨r, m, t, w, C, E, ru, k⟩ => ?_⟩
  unfold gStar at k
  obtain ⟨f1, f2, f3⟩ := each_star (env := X.env) hs
  cases e1 : itemsU w m with
  | none => rw [e1] at k; exact k.elim
  | some ws =>
    rw [e1, Option.bind_some] at k
    by_cases hn : i < gs.length ∧ gs.length ≤ ws.length + 1
    · rw [if_pos hn] at k
      have fin : ∀ (xs : List V), RUs (cn X) r H ws xs → ∀ (p : Addr) (vs : List Value) (s' : Shared), H p = none → Inv X pins σ (upd H p (.lst ((xs.drop i).take (xs.length + 1 - gs.length)))) s' → Vals (xs.take i ++ .ref p :: (xs.drop i).drop (xs.length + 1 - gs.length)) vs →
          wpAny (model X.prog X.w) X.A (assignInOrder ((assignEach es X.env).map (·.2)) vs) (fun _ s' => ∃ σ' H', Inv X pins σ' H' s' ∧ Q σ' H') X.xe s' := by
        intro xs rs p vs s' hp J rvs
        rw [f2, ← all_unStar ha]
        obtain ⟨C1, e2, n1, n2⟩ := C.beside (o := .lst ((xs.drop i).take (xs.length + 1 - gs.length))) hp
        refine h.run pins s' σ _ _ vs Q J rvs ⟨r, m, t, starU i gs.length ws, C1, E.ext e2.w, ?_, kO.from k e2⟩
        have r2 := rs.ext e2.w
        have el : ws.length = xs.length := rs.length
        unfold starU
        rw [el]
        exact (r2.take i).app (.cons (.fl n1 n2 upd_same ((r2.drop i).take _)) ((r2.drop i).drop _))
      have hle : (assignEach es X.env).length = gs.length := each_len.trans hl
      have lists : seqL w m = some ws → wpAny (model X.prog X.w) X.A (assign (.Tuple es n pos) X.env u) (fun _ s' => ∃ σ' H', Inv X pins σ' H' s' ∧ Q σ' H') X.xe s := by
        intro e2
        obtain ⟨a, xs, rfl, h1, h2⟩ := seqL_ok C ru e2
        cases (show u = Value.ref a from rv)
        rw [PyProof.Rows.assign_Tuple]
        refine wpAny_bind (wpAny_standAt ?_)
        unfold unpack
        rw [hle, f1]
        exact wpAny_bind (wpAny_holding (starL I (I.ok.hd hc) h1 hn.1 (by rw [← h2.length]; exact hn.2) (fin xs h2)))
      cases w with
      | tup us =>
        cases e1
        cases ru with
        | tup q qs =>
          cases (show u = Value.ref _ from rv)
          rw [PyProof.Rows.assign_Tuple]
          refine wpAny_bind (wpAny_standAt ?_)
          unfold unpack
          rw [hle, f1]
          exact wpAny_bind (wpAny_holding (starT I (I.ok.hd hc) q.sq hn.1 (by rw [← qs.length]; exact hn.2) (fin _ qs)))
      | _ => exact lists e1
    · rw [if_neg hn] at k; exact k.elim
end
end Mi
/-! Na, part B: dict displays. -/
namespace Mi
open PySem PySem.Spec PyProof.Rows L2
set_option linter.unusedVariables false
/-- keys and values by turns, as they are evaluated -/
def cFlat : List (E1 × E1) → Fn1 (List U)
  | [] => cNil
  | (k, v) :: r => cCons k (cCons v (cFlat r))
def pairU : List U → Option (List (U × U))
  | [] => some []
  | k :: v :: r => (pairU r).map ((k, v) :: ·)
  | [_] => none
def keysU : List (U × U) → Option (List Key)
  | [] => some []
  | (k, _) :: r => (keyU k).bind fun q => (keysU r).map (q :: ·)
def nodupB : List Key → Bool
  | [] => true
  | q :: r => !(r.any fun x => decide (x = q)) && nodupB r
theorem nodupB_ok : ∀ {ks : List Key}, nodupB ks = true → ks.Nodup
  | [], _ => List.nodup_nil
  | q :: r, h => by
    have h' : (!(r.any fun x => decide (x = q)) && nodupB r) = true := h
    rw [Bool.and_eq_true, Bool.not_eq_true'] at h'
    refine List.nodup_cons.mpr ⟨fun hm => ?_, nodupB_ok h'.2⟩
    have := List.any_eq_false.mp h'.1 q hm
    exact this (decide_eq_true rfl)
/-- a dict of unlike keys; hp: in the own heap -/
def mkDict (hp : Bool) (us : List U) (m : MH) : Option (U × MH) := (pairU us).bind fun kvs => (keysU kvs).bind fun ks => if nodupB ks = true then some (match hp with
  | true => (.ref m.length, m ++ [.dic false kvs])
  | false => (.fd ks (kvs.map (·.2)), m)) else none
def cDict (hp : Bool) (l : List (E1 × E1)) : E1 := fun t m => match cFlat l t m with
  | .ok us m1 => ofO (mkDict hp us m1)
  | _ => .bad
def RPs : Rel (List U) (List (V × V)) := fun c r H us ps => RUs c r H us (ps.flatMap fun p => [p.1, p.2])
section
variable {c : Cn} {W : WX}
theorem pairs_run : ∀ (l : List (E1 × E1)) {r : Gh} {m : MH} {H : Hp} {t : Env1} {s : L2.St} {Q : List (V × V) → Hp → Prop}, Corr c r m H → EnvR c r H t s → kE c RPs W r H s Q (cFlat l t m) → tPairs (l.map fun p => (tE c W p.1, tE c W p.2)) s H Q
  | [], r, m, H, t, s, Q, C, E, k => k r H [] (Ext.refl r H) C .nil
  | (fk, fv) :: l, r, m, H, t, s, Q, C, E, k => by
    have k1 : kE c RPs W r H s Q ((fk t m).bind fun u m1 => ((fv t m1).bind fun w m2 => (cFlat l t m2).bind fun us m3 => .ok (w :: us) m3).bind fun us m3 => .ok (u :: us) m3) := k
    have k2 : kE c RU W r H s (Mid c RU r H fun r1 m1 u x H1 => kE c RPs W r1 H1 s Q (((fv t m1).bind fun w m2 => (cFlat l t m2).bind fun us m3 => .ok (w :: us) m3).bind fun us m3 => .ok (u :: us) m3)) (fk t m) := kE.bind k1
    refine ⟨r, m, t, C, E, k2.imp ?_⟩
    rintro x H1 ⟨r1, m1, u, e1, C1, ru, k3⟩
    have k4 : kE c RU W r1 H1 s (Mid c RU r1 H1 fun r2 m2 w y H2 => kE c RPs W r2 H2 s Q ((cFlat l t m2).bind fun us m3 => .ok (u :: w :: us) m3)) (fv t m1) := by
      refine kE.bind ?_
      cases e : fv t m1 with
      | ok w m2 =>
        rw [e] at k3
        simp only [Out.bind_ok] at k3 ⊢
        cases e2 : cFlat l t m2 with
        | ok us m3 => rw [e2] at k3; exact k3
        | err x m3 => rw [e2] at k3; exact k3
        | bad => rw [e2] at k3; exact k3
      | err x m2 => rw [e] at k3; exact k3
      | bad => rw [e] at k3; exact k3
    refine ⟨r1, m1, t, C1, E.ext e1.w, k4.imp ?_⟩
    rintro y H2 ⟨r2, m2, w, e2, C2, rw2, k5⟩
    refine pairs_run l C2 ((E.ext e1.w).ext e2.w) ?_
    cases e3 : cFlat l t m2 with
    | ok us m3 =>
      rw [e3] at k5
      intro r' H' ps ex C' rp
      exact k5 r' H' ((x, y) :: ps) ex C' (.cons ((ru.ext e2.w).ext ex.w) (.cons (rw2.ext ex.w) rp))
    | err x m3 => rw [e3] at k5; exact k5
    | bad => rw [e3] at k5; exact k5
theorem RUs.pairs {r : Gh} {H : Hp} : ∀ {us : List U} {kvs : List (U × U)} {ks : List Key} {ps : List (V × V)}, RUs c r H us (ps.flatMap fun p => [p.1, p.2]) → pairU us = some kvs → keysU kvs = some ks →
    ∃ xs : List V, ps = (ks.zip xs).map (fun kv => (kV kv.1, kv.2)) ∧ RKs c r H kvs (ks.zip xs) ∧ RUs c r H (kvs.map (·.2)) xs ∧ ks.length = xs.length
  | [], kvs, ks, ps, h, e, e2 => by
    cases e
    cases e2
    cases ps with
    | nil => exact ⟨[], rfl, .nil, .nil, rfl⟩
    | cons p ps => cases h
  | [_], kvs, ks, ps, h, e, e2 => by cases e
  | k :: v :: us, kvs, ks, ps, h, e, e2 => by
    unfold pairU at e
    rw [Option.map_eq_some_iff] at e
    obtain ⟨kvs', h1, rfl⟩ := e
    unfold keysU at e2
    cases e3 : keyU k with
    | none => rw [e3] at e2; cases e2
    | some q =>
      rw [e3, Option.bind_some, Option.map_eq_some_iff] at e2
      obtain ⟨ks', h2, rfl⟩ := e2
      cases ps with
      | nil => cases h
      | cons p ps =>
        obtain ⟨x, y⟩ := p
        cases h with
        | cons hk h => cases h with
          | cons hv h =>
            obtain ⟨xs, e4, r1, r2, hl⟩ := RUs.pairs h h1 h2
            have hx := kV_of hk e3
            subst hx
            exact ⟨y :: xs, by rw [e4]; rfl, .cons e3 hv r1, .cons hv r2, congrArg (· + 1) hl⟩
end
theorem merge_new : ∀ (ks : List Key) (xs : List V) (acc : List (Key × V)), ks.Nodup → (∀ q ∈ ks, ∀ p ∈ acc, p.1 ≠ q) → ks.length = xs.length → mergeK acc (ks.zip xs) = acc ++ ks.zip xs
  | [], xs, acc, _, _, _ => by
    show mergeK acc [] = acc ++ []
    rw [List.append_nil]
    rfl
  | q :: ks, [], acc, _, _, hl => by cases hl
  | q :: ks, x :: xs, acc, hn, ha, hl => by
    have hn' := List.nodup_cons.mp hn
    show mergeK (putK acc q x) (ks.zip xs) = acc ++ (q, x) :: ks.zip xs
    have e : putK acc q x = acc ++ [(q, x)] := by
      unfold putK
      rw [if_neg]
      intro z
      obtain ⟨p, hp, hq⟩ := List.any_eq_true.mp z
      exact ha q List.mem_cons_self p hp (of_decide_eq_true hq)
    rw [e, merge_new ks xs (acc ++ [(q, x)]) hn'.2 (fun k hk p hp => ?_) (Nat.succ.inj hl), List.append_assoc]
    · rfl
    · rcases List.mem_append.mp hp with h | h
      · exact ha k (List.mem_cons_of_mem _ hk) p h
      · rw [List.mem_singleton.mp h]
        rintro rfl
        exact hn'.1 hk
theorem pairU_len : ∀ {us : List U} {kvs : List (U × U)}, pairU us = some kvs → us.length = 2 * kvs.length
  | [], _, h => by cases h; rfl
  | [_], _, h => by cases h
  | _ :: _ :: r, _, h => by
    unfold pairU at h
    rw [Option.map_eq_some_iff] at h
    obtain ⟨kvs', h1, rfl⟩ := h
    have := pairU_len h1
    simp only [List.length_cons]
    omega
theorem keysU_len : ∀ {kvs : List (U × U)} {ks : List Key}, keysU kvs = some ks → ks.length = kvs.length
  | [], _, h => by cases h; rfl
  | (k, v) :: r, ks, h => by
    unfold keysU at h
    cases e : keyU k with
    | none => rw [e] at h; cases h
    | some q =>
      rw [e, Option.bind_some, Option.map_eq_some_iff] at h
      obtain ⟨ks', h2, rfl⟩ := h
      exact congrArg (· + 1) (keysU_len h2)
theorem cFlat_len : ∀ {l : List (E1 × E1)} {t : Env1} {m m1 : MH} {us : List U}, cFlat l t m = .ok us m1 → us.length = 2 * l.length
  | [], t, m, m1, us, h => by cases h; rfl
  | (k, v) :: l, t, m, m1, us, h => by
    have h' : ((k t m).bind fun u m1 => ((v t m1).bind fun w m2 => (cFlat l t m2).bind fun us m3 => .ok (w :: us) m3).bind fun us m3 => .ok (u :: us) m3) = Out.ok us m1 := h
    cases e1 : k t m with
    | ok u m2 =>
      rw [e1, Out.bind_ok] at h'
      cases e2 : v t m2 with
      | ok w m3 =>
        rw [e2, Out.bind_ok] at h'
        cases e3 : cFlat l t m3 with
        | ok us' m4 =>
          rw [e3, Out.bind_ok, Out.bind_ok] at h'
          cases h'
          have := cFlat_len e3
          simp only [List.length_cons]
          omega
        | err _ _ => rw [e3] at h'; cases h'
        | bad => rw [e3] at h'; cases h'
      | err _ _ => rw [e2] at h'; cases h'
      | bad => rw [e2] at h'; cases h'
    | err _ _ => rw [e1] at h'; cases h'
    | bad => rw [e1] at h'; cases h'
section
variable {X : Cx} {W : WX} {pos : Pos} {keys : List (Option Expr)} {vals : List Expr}
theorem mi_dict {hp : Bool} {l : List (E1 × E1)} (h : PPs X pos keys vals (l.map fun p => (tE (cn X) W0 p.1, tE (cn X) W0 p.2))) (hall : keys.all (·.isSome) = true) (hl : keys.length = vals.length) (h0 : keys ≠ []) (h15 : keys.length ≤ 15) (hk : l.length ≤ 15) :
    PE X (.Dict keys vals pos) (tE (cn X) W (cDict hp l)) := by
  refine (pe_disp h hall hl h0 h15).weak fun s H Q ⟨r, m, t, C, E, k⟩ => fun p hpn => ?_
  unfold cDict at k
  cases e : cFlat l t m with
  | err x m1 => rw [e] at k; exact k.elim
  | bad => rw [e] at k; exact k.elim
  | ok us m1 =>
    rw [e] at k
    dsimp only at k
    have k1 := kE_ofO k
    obtain ⟨np, nz⟩ := C.free hpn
    obtain ⟨C1, e1⟩ := C.reserve (o := .dK []) hpn
    refine pairs_run l C1 (E.ext e1) ?_
    rw [e]
    intro r2 H2 ps ex C2 rp
    have z2 : r2.z = p :: r.z := ex.z
    refine ⟨(ex.res p List.mem_cons_self).trans upd_same, ?_⟩
    unfold mkDict at k1
    cases e2 : pairU us with
    | none => rw [e2] at k1; exact k1.elim
    | some kvs =>
      rw [e2, Option.bind_some] at k1
      cases e3 : keysU kvs with
      | none => rw [e3] at k1; exact k1.elim
      | some ks =>
        rw [e3, Option.bind_some] at k1
        obtain ⟨nd, k1⟩ := k1.ite
        obtain ⟨xs, rfl, r3, r4, lk⟩ := RUs.pairs rp e2 e3
        have lk2 := keysU_len e3
        have lk3 := pairU_len e2
        have lk4 := cFlat_len e
        refine ⟨ks.zip xs, rfl, ?_, ?_⟩
        · rw [List.length_zip]
          omega
        · rw [merge_new ks xs [] (nodupB_ok nd) (fun _ _ _ z => nomatch z) lk, List.nil_append]
          obtain ⟨R, Z⟩ := r2
          dsimp only at z2
          subst z2
          obtain ⟨C3, e4⟩ := C2.rewrite (o := .dK (ks.zip xs))
          have eW := (e1.trans ex.w).trans e4
          have keep : ∀ b ∈ r.z, upd H2 p (.dK (ks.zip xs)) b = H b := fun b hb => by
            have nb : b ≠ p := by rintro rfl; exact nz hb
            rw [upd_ne nb, ex.res b (List.mem_cons_of_mem _ hb), upd_ne nb]
          cases hp with
          | false =>
            obtain ⟨C4, e5, n5⟩ := C3.release
            exact k1 ⟨R, r.z⟩ _ (.ref p) ⟨eW.trans e5, rfl, keep⟩ C4 (.fd n5 nz upd_same (by rw [List.length_map, lk2]) (nodupB_ok nd) ((r4.ext e4).ext e5))
          | true =>
            obtain ⟨C4, e5, g5⟩ := C3.adopt nz upd_same (RO.dic (r3.ext e4))
            exact k1 ⟨R ++ [p], r.z⟩ _ (.ref p) ⟨eW.trans e5, rfl, keep⟩ C4 (.ref g5)
/-- an empty one that never changes -/
def cDic0 : E1 := fun _ m => .ok (.fd [] []) m
theorem mi_dic0 : PE X (.Dict [] [] pos) (tE (cn X) W cDic0) := by
  refine pe_dnewK.weak fun s H Q ⟨r, m, t, C, E, k⟩ => fun p hp => ?_
  obtain ⟨C', e', n1, n2⟩ := C.beside (o := .dK []) hp
  exact k _ _ _ e' C' (.fd n1 n2 upd_same rfl List.nodup_nil .nil)
end
end Mi
/-! Na, part C: augmented assignments (whole numbers), of names, fields, entries of dicts. -/
namespace Mi
open PySem PySem.Spec PyProof.Rows L2
set_option linter.unusedVariables false
def augI : Operator → Option (Int → Int → Int)
  | .Add => some (fun i j => i + j)
  | .Sub => some (fun i j => i - j)
  | _ => none
theorem augI_ip {X : Cx} {op : Operator} {p : Int → Int → Int} (h : augI op = some p) : PIp X op (ipI p) := by
  cases op <;> cases h
  · exact ip_add
  · exact ip_sub
def rI2 (p : Int → Int → Int) : V → V → Hp → VK → Prop := fun x y H Q => ∃ i j, x = .int i ∧ y = .int j ∧ Q (.int (p i j)) H
theorem augI_in {X : Cx} {op : Operator} {p : Int → Int → Int} (h : augI op = some p) : InOp X op (rI2 p) := by
  cases op <;> cases h
  · exact in_add
  · exact in_sub
/-- name op= e -/
def sAug (i : Nat) (p : Int → Int → Int) (f : E1) : S1 := fun t m => match t[i]? with
  | some (some (.int a)) => sE f (fun w t' m' => match w with
    | .int b => .nx (t'.set i (some (.int (p a b)))) m'
    | _ => .bad) t m
  | _ => .bad
section
variable {X : Cx} {W : WX} {e : Expr} {f : E1} {pos pos' : Pos} {op : Operator} {p : Int → Int → Int}
theorem ms_aug {i : Nat} {x : Str} (hN : X.N.Nodup) (hi : X.N[i]? = some x) (hx : Loc X.env.scope x) (hf : X.fn x = true ∨ X.env.scope.names.lookup x = some .local) (hp : augI op = some p) (he : PE X e (tE (cn X) W f)) :
    PS X (.AugAssign (.Name x pos') op e pos) (tS (cn X) W (sAug i p f)) := by
  refine (ps_aug hN hi hx he (augI_ip hp) hf).weak fun D s H ⟨r, m, t, C, E, k⟩ => ?_
  unfold sAug at k
  split at k
  · rename_i a ht
    obtain ⟨x0, h1, h2⟩ := E.get i _ ht
    cases h2
    refine ⟨_, h1, r, m, t, C, E, (kS_E E k).imp ?_⟩
    rintro y H1 ⟨r1, m1, u, e1, C1, ru, E1, k1⟩
    cases u with
    | int b =>
      cases ru
      exact ⟨a, b, rfl, rfl, k1 r1 H1 _ (Ext.refl _ _) C1 (E1.set (.int _) i)⟩
    | _ => exact k1.elim
  · exact k.elim
end
/-- o.f op= e -/
def sAugF (T : Tab) (f : Str) (p : Int → Int → Int) (fo fe : E1) : S1 := sE fo fun o t m => match insAt o m with
  | some (c, fs) => (match T.fld c f, fs.lookup f with
    | true, some (.int a) => sE fe (fun w t' m' => match w with
      | .int b => (match insAt o m' with
        | some (c2, _) => if c2 = c then (match setFld T f o (.int (p a b)) m' with
          | some m3 => .nx t' m3
          | none => .bad) else .bad
        | none => .bad)
      | _ => .bad) t m
    | _, _ => .bad)
  | none => .bad
/-- d[k] op= e -/
def sAugD (p : Int → Int → Int) (fd fk fe : E1) : S1 := sE fd fun o => sE fk fun k t m => match o with
  | .ref n => (match (dicAt n m).bind fun kvs => (keyU k).bind fun q => lookK q kvs with
    | some (.int a) => sE fe (fun w t' m' => match w with
      | .int b => (match m'[n]? with
        | some (.dic false _) => (match setU o k (.int (p a b)) m' with
          | some m3 => .nx t' m3
          | none => .bad)
        | _ => .bad)
      | _ => .bad) t m
    | _ => .bad)
  | _ => .bad
section
variable {X : Cx} {W : WX} {T : Tab} {k0 : Nat} {o i e : Expr} {fo fi fe : E1} {pos tpos : Pos} {op : Operator} {p : Int → Int → Int} {f : Str}
theorem ms_augF (ok : TabOk T X.prog X.w X.K X.mg X.base k0) (hp : augI op = some p) (ho : PE X o (tE (cn X) W fo)) (he : PE X e (tE (cn X) W fe)) : PS X (.AugAssign (.Attribute o f tpos) op e pos) (tS (cn X) W (sAugF T f p fo fe)) := by
  refine (ps_fldaug ho he (augI_in hp)).weak fun D s H ⟨r, m, t, C, E, k⟩ => ?_
  refine ⟨r, m, t, C, E, (kS_E E k).imp ?_⟩
  rintro x H1 ⟨r1, m1, u, e1, C1, ru, E1, k1⟩
  cases e2 : insAt u m1 with
  | none => rw [e2] at k1; exact k1.elim
  | some q =>
    obtain ⟨cl, fs⟩ := q
    rw [e2] at k1
    dsimp only at k1
    split at k1
    · rename_i a hf hl
      obtain ⟨n, ad, Cc, dx, ps, rfl, rfl, hra, hHa, hmg, hfs⟩ := insAt_ok C1 ru e2
      obtain ⟨C', hm, hc, hn⟩ := ok.fld cl f hf
      have e0 : C' = Cc := by
        have : X.mg cl = some (.ref Cc) := hmg
        rw [hm] at this
        injection this with q; injection q
      subst e0
      obtain ⟨v, e4, e5⟩ := (RFs.look hfs).1 _ hl
      cases e5
      refine ⟨ad, C', dx, ps, _, rfl, hHa, hc, hn, e4, r1, m1, t, C1, E1, (kS_E E1 k1).imp ?_⟩
      rintro y H2 ⟨r2, m2, w, e6, C2, rw2, E2, k2⟩
      cases w with
      | int b =>
        cases rw2
        dsimp only at k2
        cases e9 : insAt (.ref n) m2 with
        | none => rw [e9] at k2; exact k2.elim
        | some q2 =>
          obtain ⟨cl2, fs2⟩ := q2
          rw [e9] at k2
          dsimp only at k2
          by_cases ec : cl2 = cl
          · rw [if_pos ec] at k2
            subst ec
            cases e7 : setFld T f (.ref n) (.int (p a b)) m2 with
            | none => rw [e7] at k2; exact k2.elim
            | some m3 =>
              rw [e7] at k2
              obtain ⟨ad2, Cc2, dx2, ps2, ex, hH, hc2, hn2, hl2, C3, e8⟩ := setFld_ok ok C2 (ru.ext e6.w) (.int (p a b)) e7
              cases ex
              obtain ⟨n3, ad3, Cc3, dx3, ps3, h31, h32, hra3, hHa3, hmg3, hfs3⟩ := insAt_ok C2 (ru.ext e6.w) e9
              cases h32
              rw [hH] at hHa3
              cases hHa3
              have e0 : Cc2 = C' := by
                have : X.mg cl2 = some (.ref Cc2) := hmg3
                rw [hm] at this
                injection this with q; injection q with q; exact q.symm
              subst e0
              exact ⟨a, b, rfl, rfl, dx2, ps2, hH, hl2, k2 r2 _ _ e8 C3 (E2.ext e8.w)⟩
          · rw [if_neg ec] at k2; exact k2.elim
      | _ => exact k2.elim
    · exact k1.elim
theorem ms_augD (hu : X.A.units + 1 < cLine) (h0 : noSlice i = true) (hp : augI op = some p) (ho : PE X o (tE (cn X) W fo)) (hi : PE X i (tE (cn X) W fi)) (he : PE X e (tE (cn X) W fe)) : PS X (.AugAssign (.Subscript o i tpos) op e pos) (tS (cn X) W (sAugD p fo fi fe)) := by
  refine (ps_daug hu ho hi he (augI_in hp) (by intro _ _ _; cases i <;> first | rfl | (exact nomatch (show false = true from h0)))).weak fun D s H ⟨r, m, t, C, E, k⟩ => ?_
  refine ⟨r, m, t, C, E, (kS_E E k).imp ?_⟩
  rintro x H1 ⟨r1, m1, u, e1, C1, ru, E1, k1⟩
  refine ⟨r1, m1, t, C1, E1, (kS_E E1 k1).imp ?_⟩
  rintro y H2 ⟨r2, m2, ik, e2, C2, ri, E2, k2⟩
  have ru2 := ru.ext e2.w
  cases u with
  | ref n =>
    dsimp only at k2
    split at k2
    · rename_i a hl
      cases e3 : dicAt n m2 with
      | none => rw [e3] at hl; cases hl
      | some kvs =>
        rw [e3, Option.bind_some] at hl
        cases e4 : keyU ik with
        | none => rw [e4] at hl; cases hl
        | some q =>
          rw [e4, Option.bind_some] at hl
          obtain ⟨ad, ps, rfl, h1, h2⟩ := dic_ok C2 ru2 e3
          have hy := kV_of ri e4
          subst hy
          obtain ⟨w, e5, e6⟩ := (RKs.look (q := q) h2).1 _ hl
          cases e6
          refine ⟨ad, _, rfl, .inl ⟨ps, q, h1, rfl, e5.symm⟩, r2, m2, t, C2, E2, (kS_E E2 k2).imp ?_⟩
          rintro z H3 ⟨r3, m3, w, e7, C3, rw3, E3, k3⟩
          cases w with
          | int b =>
            cases rw3
            dsimp only at k3
            refine ⟨a, b, rfl, rfl, ?_⟩
            split at k3
            · rename_i kvs3 hm3
              cases e8 : setU (.ref n) ik (.int (p a b)) m3 with
              | none => rw [e8] at k3; exact k3.elim
              | some m4 =>
                rw [e8] at k3
                have hh := e8
                simp only [setU, hm3, e4, Option.bind_some] at hh
                by_cases hz : lineOk (kvs3.length + 1) = true
                · rw [if_pos hz] at hh
                  cases hh
                  cases ru2.ext e7.w with
                  | ref hr =>
                    obtain ⟨a9, ho9, g1, g2, g3⟩ := C3.at_ n _ hm3
                    rw [hr] at g1
                    cases g1
                    cases g3 with
                    | @dic _ ps3 hs3 =>
                      obtain ⟨C4, e10⟩ := C3.put (o := .dic false (putU q ik (.int (p a b)) kvs3)) (ho := .dK (putK ps3 q (.int (p a b)))) hr (.dic (hs3.put e4 (.int _)))
                      have hlen := lineOk_of hz
                      rw [hs3.length] at hlen
                      exact ⟨_, DPut.k g2 hlen, k3 r3 _ _ e10 C4 (E3.ext e10.w)⟩
                · rw [if_neg hz] at hh; cases hh
            · exact k3.elim
          | _ => exact k3.elim
    · exact k2.elim
  | _ => exact k2.elim
end
end Mi
/-! Na, part D: tuples turned round; repr. -/
namespace Mi
open PySem PySem.Spec PyProof.Rows L2
set_option linter.unusedVariables false
/-! ### t[::-1] -/
section
variable {prog : Program} {w : World} {A : Around} {E : Value → Shared → Prop} {s : Shared}
theorem adj_back (n : Nat) : Builtin.Slice.sliceAdjust none none (-1) (n : Int) = ((n : Int) - 1, -1) := by
  unfold Builtin.Slice.sliceAdjust
  rfl
theorem places_back (n : Nat) : Builtin.Slice.slicePlaces ((n : Int) - 1) (-1) (-1) = n := by
  unfold Builtin.Slice.slicePlaces
  rw [if_neg (by decide)]
  by_cases h : n = 0
  · subst h; rfl
  · rw [if_pos (by omega)]
    have : ((n : Int) - 1 - -1 - 1) / - -1 + 1 = n := by
      rw [Int.neg_neg, Int.ediv_one]
      omega
    rw [this]
    exact Int.toNat_natCast n
theorem pick_back (xs : Array Value) : ((List.range xs.size).filterMap fun (k : Nat) => xs[((xs.size : Int) - 1 + (k : Int) * -1).toNat]?).toArray = xs.toList.reverse.toArray := by
  congr 1
  apply List.ext_getElem?
  intro i
  have e : ((List.range xs.size).filterMap fun (k : Nat) => xs[((xs.size : Int) - 1 + (k : Int) * -1).toNat]?) = (List.range xs.size).map fun k => xs.toList.reverse.getD k .none := by
    have step : ∀ l : List Nat, (∀ k ∈ l, k < xs.size) → (l.filterMap fun (k : Nat) => xs[((xs.size : Int) - 1 + (k : Int) * -1).toNat]?) = l.map fun k => xs.toList.reverse.getD k .none := by
      intro l
      induction l with
      | nil => intro _; rfl
      | cons k l ih =>
        intro hk
        have hk' := hk k List.mem_cons_self
        have e1 : ((xs.size : Int) - 1 + (k : Int) * -1).toNat = xs.size - 1 - k := by omega
        have h1 : xs.size - 1 - k < xs.size := by omega
        have h2 : k < xs.toList.reverse.length := by rw [List.length_reverse, Array.length_toList]; exact hk'
        have e2 : xs[((xs.size : Int) - 1 + (k : Int) * -1).toNat]? = some (xs.toList.reverse.getD k .none) := by
          rw [e1, Array.getElem?_eq_getElem h1, List.getD_eq_getElem?_getD, List.getElem?_eq_getElem h2, Option.getD_some, List.getElem_reverse]
          simp
        rw [List.filterMap_cons, e2, ih fun j hj => hk j (List.mem_cons_of_mem _ hj)]
        rfl
    exact step _ fun k hk => List.mem_range.mp hk
  rw [e, List.getElem?_map]
  by_cases hi : i < xs.size
  · rw [List.getElem?_range hi, Option.map_some, List.getD_eq_getElem?_getD]
    have h2 : i < xs.toList.reverse.length := by rw [List.length_reverse, Array.length_toList]; exact hi
    rw [List.getElem?_eq_getElem h2]
    rfl
  · rw [List.getElem?_eq_none (by rw [List.length_range]; omega), List.getElem?_eq_none (by rw [List.length_reverse, Array.length_toList]; omega)]
    rfl
theorem tup_back {t sl : Addr} {items : Array Value} {k : Tok} {Q : Value → Shared → Prop} (ht : IsTup s.heap t items) (hs : s.heap.IsSliceOf sl .none .none (.int (-1) k))
    (h : Q (.ref s.heap.objs.size) { s with heap := s.heap.push { cls := .type "tuple", data := .seq items.toList.reverse.toArray } }) (hsz : items.size ≤ sizeLine) : wpAny (model prog w) A (getItem (.ref t) (.ref sl)) Q E s := by
  have hz : sizeOk (.seq items.toList.reverse.toArray) := by
    show items.toList.reverse.toArray.size ≤ sizeLine
    rw [List.size_toArray, List.length_reverse, Array.length_toList]
    exact hsz
  obtain ⟨os, hos, hcs, hds⟩ := id hs
  have ty : s.TypeIs (.ref sl) "slice" := ⟨os, hos, hcs⟩
  unfold getItem
  try with_reducible refine wpAny_holding ?_
  first | refine wpAny_bind (wpAny_pure ?_) | skip
  refine wpAny_bind (wpAny_sequenceKey ht.typeIs (by decide) ?_)
  refine wpAny_bind (wpAny_callSpecial?_slot (name := Str.ofString "__getitem__") ht.typeIs slot_tuple_getitem (wpAny_call_entry slot_tuple_getitem ht.typeIs entry_tuple_getitem ?_ (args_tuple_getitem _ _)))
  show wpAny _ _ (Builtin.Tuple.tupleItemsOf (.ref t) >>= _) _ _ s
  refine wpAny_bind (tupleItemsOf_ ht (wpAny_bind (wpAny_typeOf ty ?_)))
  rw [if_pos (by decide)]
  refine wpAny_bind ?_
  unfold Builtin.Slice.sliceApplied Builtin.Slice.sliceFields
  refine wpAny_bind (wpAny_bind (wpAny_field hos hds (x := .none) rfl (wpAny_bind (wpAny_field hos hds (x := .none) rfl (wpAny_bind (wpAny_field hos hds (x := .int (-1) k) rfl (wpAny_pure ?_)))))))
  refine wpAny_bind (slicePart_int ?_)
  show wpAny _ _ (if ((-1 : Int) == 0) = true then _ else _) _ _ s
  rw [if_neg (by decide)]
  refine wpAny_bind (slicePart_none (wpAny_bind (slicePart_none (wpAny_bind (wpAny_pure ?_)))))
  show wpAny _ _ (match Builtin.Slice.sliceAdjust none none (-1) (items.size : Int) with | (lo, hi) => pure (lo, (-1 : Int), Builtin.Slice.slicePlaces lo hi (-1))) _ _ s
  rw [adj_back]
  show wpAny _ _ (pure ((items.size : Int) - 1, (-1 : Int), Builtin.Slice.slicePlaces ((items.size : Int) - 1) (-1) (-1))) _ _ s
  rw [places_back]
  refine wpAny_pure ?_
  show wpAny _ _ (if (((items.size : Int) - 1 == 0) && (-1 : Int) == 1 && items.size == items.size) = true then _ else _) _ _ s
  rw [if_neg (by rw [show ((-1 : Int) == 1) = false from rfl, Bool.and_false, Bool.false_and]; exact Bool.false_ne_true), pick_back]
  first
    | exact wpAny_bind (m := Builtin.Tuple.tupleExact _) (wpAny_newObj_type (wpAny_pure ⟨_, rfl, wpAny_pure h⟩) hz)
    | exact wpAny_bind (m := Builtin.Tuple.tupleExact _) (wpAny_newObj_type (wpAny_bind (wpAny_pure (wpAny_pure ⟨_, rfl, wpAny_pure h⟩))) hz)
    | exact wpAny_bind (wpAny_bind (m := Builtin.Tuple.tupleExact _) (wpAny_newObj_type (wpAny_pure (wpAny_pure ⟨_, rfl, wpAny_pure h⟩)) hz))
    | exact wpAny_bind (wpAny_bind (m := Builtin.Tuple.tupleExact _) (wpAny_newObj_type (wpAny_pure ⟨_, rfl, wpAny_pure h⟩) hz))
end
/-- turned round: a list, a tuple -/
def rev2U : B1 := fun u m => match u with
  | .tup us => if lineOk us.length = true then some (.tup us.reverse, m) else none
  | u => revU u m
section
variable {X : Cx} {W : WX}
theorem pe_rev2 {e : Expr} {te : TE} {k : Nat} {p1 p2 p3 pos : Pos} (he : PE X e te) : PE X (.Subscript e (.Slice none none (some (.UnaryOp .USub (.Constant (.int 1) k p1) p2)) p3) pos)
    (fun σ H Q => te σ H fun x H1 => ∃ a xs, x = .ref a ∧ ((SqL X.K H1 a xs ∧ ∀ p, H1 p = none → Q (.ref p) (upd H1 p (.lst xs.reverse))) ∨ (SqT X.K H1 a xs ∧ ∀ p, H1 p = none → Q (.ref p) (upd H1 p (.tup xs.reverse))))) := by
  refine ⟨fun pins s σ H Q I h => Subscript_ (thn (he.run pins s σ H _ I h) ?_)⟩
  rintro v s1 ⟨x, H1, I1, r1, a, xs, rfl, hq⟩
  cases (show v = Value.ref a from r1)
  have part : PO X (some (.UnaryOp .USub (.Constant (.int 1) k p1) p2)) (tPart (tUn (rU fun i => .int (-i)) (tC (.int 1)))) := po_some (pe_un un_neg pe_int)
  refine wpAny_Slice (thn (po_none.run pins s1 σ H1 (fun o H2 => o = none ∧ H2 = H1) I1 ⟨rfl, rfl⟩) ?_)
  rintro v1 s2 ⟨o1, H2, I2, g1, rfl, rfl⟩
  refine thn (po_none.run pins s2 σ H2 (fun o H3 => o = none ∧ H3 = H2) I2 ⟨rfl, rfl⟩) ?_
  rintro v2 s3 ⟨o2, H3, I3, g2, rfl, rfl⟩
  refine thn (part.run pins s3 σ H3 (fun o H4 => o = some (-1) ∧ H4 = H3) I3 ⟨1, rfl, -1, rfl, rfl, rfl⟩) ?_
  rintro v3 s4 ⟨o3, H4, I4, g3, rfl, rfl⟩
  have J : Inv X pins σ H4 { s4 with heap := s4.heap.push { cls := .type "slice", data := .fields #[v1, v2, v3] } } := I4.kept (t' := s4.toks) fun b ob q => Heap.get?_push_of_some _ q
  rcases hq with ⟨hx, q⟩ | ⟨hx, q⟩
  · obtain ⟨its, r, ht, hz⟩ := J.list hx
    have hlen := r.length
    refine tail_any (value := e) (slice := .Slice none none (some (.UnaryOp .USub (.Constant (.int 1) k p1) p2)) p3) (ops := [.ref a, .ref s4.heap.objs.size]) ht.isList.typeIs (PySem.slot_list_getitem.lookup) ?_ (by with_unfolding_all rfl)
    refine wpAny_getItem_list_slice ht.isList (Heap.IsSliceOf.new _ v1 v2 v3) g1 g2 g3 (by decide) ?_ (by rw [List.size_toArray]; omega)
    rw [PySem.W.krv_pick]
    exact ⟨.ref _, _, J.laid (t' := s4.toks) (o := .lst xs.reverse) (fun b ob q => Heap.get?_push_of_some _ q) (Nat.le_refl _) ⟨by rw [List.length_reverse]; exact hz, _, 0, r.reverse, Heap.get?_push_size _ rfl⟩, rfl, q _ (J.hok.fresh (Nat.le_refl _))⟩
  · obtain ⟨its, r, ht, hz⟩ := J.tuple hx
    have hlen := r.length
    refine tail_any (value := e) (slice := .Slice none none (some (.UnaryOp .USub (.Constant (.int 1) k p1) p2)) p3) (ops := [.ref a, .ref s4.heap.objs.size]) ht.typeIs (slot_tuple_getitem.lookup) ?_ (by with_unfolding_all rfl)
    cases g1
    cases g2
    cases g3
    refine tup_back ht (Heap.IsSliceOf.new _ _ _ _) ?_ (by rw [List.size_toArray]; omega)
    exact ⟨.ref _, _, J.laid (t' := s4.toks) (o := .tup xs.reverse) (fun b ob q => Heap.get?_push_of_some _ q) (Nat.le_refl _) ⟨by rw [List.length_reverse]; exact hz, _, r.reverse, IsTup.new _ _⟩, rfl, q _ (J.hok.fresh (Nat.le_refl _))⟩
theorem mi_rev2 {e : Expr} {fe : E1} {k : Nat} {p1 p2 p3 pos : Pos} (he : PE X e (tE (cn X) W fe)) : PE X (.Subscript e (.Slice none none (some (.UnaryOp .USub (.Constant (.int 1) k p1) p2)) p3) pos) (tE (cn X) W (cUn rev2U fe)) := by
  refine (pe_rev2 he).weak fun s H Q ⟨r, m, t, C, E, k⟩ => ⟨r, m, t, C, E, (kE.bind (R := RU) k).imp ?_⟩
  rintro v H1 ⟨r1, m1, u, e1, C1, ru, k1⟩
  have k2 := kE_ofO k1
  have lists : kO (cn X) RU r1 H1 Q (revU u m1) → ∃ a xs, v = .ref a ∧ ((SqL X.K H1 a xs ∧ ∀ p, H1 p = none → Q (.ref p) (upd H1 p (.lst xs.reverse))) ∨ (SqT X.K H1 a xs ∧ ∀ p, H1 p = none → Q (.ref p) (upd H1 p (.tup xs.reverse)))) := by
    intro k2
    cases e : seqL u m1 with
    | none =>
      unfold revU at k2
      rw [e] at k2
      exact (show False from k2).elim
    | some us =>
      unfold revU at k2
      rw [e] at k2
      obtain ⟨a, xs, rfl, hq, hs⟩ := seqL_ok C1 ru e
      refine ⟨a, xs, rfl, .inl ⟨hq, fun p hp => ?_⟩⟩
      obtain ⟨C', e', n1, n2⟩ := C1.beside (o := .lst xs.reverse) hp
      exact k2 _ _ _ e' C' (.fl n1 n2 upd_same (hs.rev.ext e'.w))
  cases u with
  | tup us =>
    obtain ⟨hl, k2⟩ := (show kO (cn X) RU r1 H1 Q (if lineOk us.length = true then some (.tup us.reverse, m1) else none) from k2).ite
    cases ru with
    | @tup _ a xs h hs =>
      refine ⟨a, xs, rfl, .inr ⟨h.sq, fun p hp => ?_⟩⟩
      obtain ⟨C', e', n1, n2⟩ := C1.beside (o := .tup xs.reverse) hp
      exact k2 _ _ _ e' C' (.tup (.inl ⟨n1, n2, Rd.of upd_same⟩) (hs.rev.ext e'.w))
  | _ => exact lists k2
end
/-! ### repr -/
mutual
/-- data all through, nothing of the own heap in it -/
def rdU : U → Bool
  | .non => true
  | .bl _ => true
  | .int _ => true
  | .str _ => true
  | .tup us => rdUs us
  | .fl us => rdUs us
  | .cl us => rdUs us
  | .fd _ us => rdUs us
  | _ => false
def rdUs : List U → Bool
  | [] => true
  | u :: us => rdU u && rdUs us
end
section
variable {X : Cx} {pins : List (Addr × Obj)} {σ : L2.St} {H : Hp} {s : Shared} {r : Gh}
theorem not_sm (I : Inv X pins σ H s) (hm : ∃ o, X.K.lookup sysModules = some o ∧ o.cls = .type "dict") {a : Addr} {o : Obj} (e : s.heap.get? a = some o) (hc : o.cls = .type "list") : sysModules ≠ a := by
  obtain ⟨o', h1, h2⟩ := hm
  rintro rfl
  have := I.kIn _ _ h1
  rw [e] at this
  cases this
  rw [hc] at h2
  injection h2 with h3
  exact absurd h3 (by decide)
theorem pairs_keys : ∀ {es : List DictEntry} {vs : List (Key × Value)}, Pairs (mixKind X.prog X.w) es vs → ∃ as : List Addr, ReadsAll s.heap (es.map (·.key)) ((vs.map (·.1)).map keyD) as ∧ sysModules ∉ as ∧ es.map (·.val) = vs.map (·.2)
  | _, _, .nil => ⟨[], .nil, List.not_mem_nil, rfl⟩
  | _, _, .cons (e := en) (kv := kv) h1 h2 h3 => by
    obtain ⟨as, r1, n1, e1⟩ := pairs_keys h3
    obtain ⟨k, v⟩ := kv
    obtain ⟨ek, ev, eh⟩ := en
    dsimp only at h1 h2
    rcases keyIs_shape (show keyIs k _ = true from h1) with ⟨i, t, rfl, e⟩ | ⟨x, t, rfl, e⟩
    · first | subst e | skip
      refine ⟨[] ++ as, .cons ?_ r1, n1, ?_⟩
      · first | exact .int i t | (rw [e]; exact .int i t)
      · show _ :: _ = _ :: _
        rw [e1]
        simp only [h2]
    · first | subst e | skip
      refine ⟨[] ++ as, .cons ?_ r1, n1, ?_⟩
      · first | exact .str x t | (rw [e]; exact .str x t)
      · show _ :: _ = _ :: _
        rw [e1]
        simp only [h2]
mutual
theorem RU.reads (I : Inv X pins σ H s) (hm : ∃ o, X.K.lookup sysModules = some o ∧ o.cls = .type "dict") : ∀ {u : U} {v : V} {w : Value}, rdU u = true → RU (cn X) r H u v → RelV v w → ∃ as, Reads s.heap w (toD u) as ∧ sysModules ∉ as
  | _, _, _, _, .non, rv => by cases rv; exact ⟨[], .none, List.not_mem_nil⟩
  | _, _, _, _, .bl b, rv => by cases rv; exact ⟨[], .bool b, List.not_mem_nil⟩
  | _, _, _, _, .int i, rv => by obtain ⟨t, rfl⟩ := rv; exact ⟨[], .int i t, List.not_mem_nil⟩
  | _, _, _, _, .str x, rv => by obtain ⟨t, rfl⟩ := rv; exact ⟨[], .str x t, List.not_mem_nil⟩
  | .tup us, _, _, l, .tup (xs := xs) h hs, rv => by
    cases rv
    obtain ⟨its, ra, ⟨o, ho, hc, n, hd⟩, _⟩ := I.tuple h.sq
    obtain ⟨as, hr, hn⟩ := RUs.reads I hm (us := us) l hs ra
    exact ⟨as, .tuple ho hc hd hr, hn⟩
  | .fl us, _, _, l, .fl h1 h2 h3 hs, rv => by
    cases rv
    obtain ⟨its, ra, ⟨o, n, ho, hc, _, hd⟩, _⟩ := I.list (SqL.of (K := X.K) h3)
    obtain ⟨as, hr, hn⟩ := RUs.reads I hm (us := us) l hs ra
    exact ⟨_ :: as, .list ho hc hd hr, by rw [List.mem_cons]; rintro (z | z); exact not_sm I hm ho hc z; exact hn z⟩
  | .cl us, _, _, l, .cl h hs, rv => by
    cases rv
    obtain ⟨its, ra, ⟨o, n, ho, hc, _, hd⟩, _⟩ := I.list h.sq
    obtain ⟨as, hr, hn⟩ := RUs.reads I hm (us := us) l hs ra
    exact ⟨_ :: as, .list ho hc hd hr, by rw [List.mem_cons]; rintro (z | z); exact not_sm I hm ho hc z; exact hn z⟩
  | .fd ks us, _, _, l, .fd (xs := xs) h1 h2 h3 h4 h5 hs, rv => by
    cases rv
    obtain ⟨_, ns, vs, kv, o, es, ep, ho, hx, hd, _, pr, _⟩ := dk_of I.hok h3
    have ns' := (beq_eq_false_iff_ne.mp ns).symm
    obtain ⟨as, hr, hn, ev⟩ := pairs_keys (X := X) (s := s) pr
    have lk : ks.length = xs.length := h4.trans hs.length
    have vals : Vals xs (vs.map (·.2)) ∧ vs.map (·.1) = ks := by
      clear h3 pr hr hd
      have key : ∀ {ks : List Key} {xs : List V} {vs : List (Key × Value)}, KV (ks.zip xs) vs → ks.length = xs.length → Vals xs (vs.map (·.2)) ∧ vs.map (·.1) = ks := by
        intro ks
        induction ks with
        | nil =>
          intro xs vs h hl
          cases xs with
          | nil => cases h; exact ⟨.nil, rfl⟩
          | cons _ _ => cases hl
        | cons k ks ih =>
          intro xs vs h hl
          cases xs with
          | nil => cases hl
          | cons x xs =>
            cases h with
            | cons hh ht =>
              obtain ⟨i1, i2⟩ := ih ht (Nat.succ.inj hl)
              exact ⟨.cons hh.2 i1, by rw [List.map_cons, i2, ← hh.1]⟩
      exact key kv lk
    obtain ⟨bs, hr2, hn2⟩ := RUs.reads I hm (us := us) l hs vals.1
    have lz : (ks.map keyD).length = (toDs us).length := by
      have : ∀ us : List U, (toDs us).length = us.length := fun us => by
        induction us with
        | nil => rfl
        | cons u us ih => exact congrArg (· + 1) ih
      rw [List.length_map, this, h4]
    refine ⟨_ :: as ++ bs, .dict (kvs := (ks.map keyD).zip (toDs us)) ho hx.1 hd ?_ ?_, ?_⟩
    · rw [List.map_fst_zip (Nat.le_of_eq lz), ← vals.2]
      exact hr
    · rw [List.map_snd_zip (Nat.le_of_eq lz.symm), ev]
      exact hr2
    · rw [List.cons_append, List.mem_cons, List.mem_append]
      rintro (z | z | z)
      · exact ns' z
      · exact hn z
      · exact hn2 z
  | .ref _, _, _, l, _, _ => nomatch (show false = true from l)
  | .glo _, _, _, l, _, _ => nomatch (show false = true from l)
  | .ty _, _, _, l, _, _ => nomatch (show false = true from l)
  | .exn _, _, _, l, _, _ => nomatch (show false = true from l)
theorem RUs.reads (I : Inv X pins σ H s) (hm : ∃ o, X.K.lookup sysModules = some o ∧ o.cls = .type "dict") : ∀ {us : List U} {vs : List V} {ws : List Value}, rdUs us = true → RUs (cn X) r H us vs → Vals vs ws → ∃ as, ReadsAll s.heap ws (toDs us) as ∧ sysModules ∉ as
  | _, _, _, _, .nil, rv => by cases rv; exact ⟨[], .nil, List.not_mem_nil⟩
  | u :: us, _, _, l, .cons h hs, rv => by
    have l' : (rdU u && rdUs us) = true := l
    rw [Bool.and_eq_true] at l'
    cases rv with
    | cons r1 r2 =>
      obtain ⟨as, q1, n1⟩ := RU.reads I hm l'.1 h r1
      obtain ⟨bs, q2, n2⟩ := RUs.reads I hm l'.2 hs r2
      exact ⟨as ++ bs, .cons q1 q2, by rw [List.mem_append]; exact fun z => z.elim n1 n2⟩
end
end
def repOk (u : U) : Bool := rdU u && (toD u).showable && decide ((toD u).depth ≤ 60) && lineOk (toD u).shown.length
def biRepr : FU
  | [u], m => if repOk u = true then some (.str (toD u).shown, m) else none
  | _, _ => none
theorem bi_repr {X : Cx} (gd : X.A.guards = some []) (hu : X.A.units + 65 < cLine) (hm : ∃ o, X.K.lookup sysModules = some o ∧ o.cls = .type "dict") : CallR X (.builtin "repr") (rF (cn X) biRepr) := by
  intro pins s σ H xs vs Q I rv ⟨r, m, us, C, R, k⟩
  match us, R, k with
  | [], _, k => exact k.elim
  | _ :: _ :: _, _, k => exact k.elim
  | [u], R, k =>
    obtain ⟨x, rfl, ru⟩ := R.one
    obtain ⟨w, rfl, rx⟩ := rv.one
    obtain ⟨ok, k⟩ := (show kO (cn X) RU r H Q (if repOk u = true then some (.str (toD u).shown, m) else none) from k).ite
    unfold repOk at ok
    simp only [Bool.and_eq_true] at ok
    obtain ⟨⟨⟨o1, o2⟩, o3⟩, o4⟩ := ok
    have kq : Q (.str (toD u).shown) H := k.get C (.str _)
    have o3 := of_decide_eq_true o3
    have o4 := lineOk_of o4
    have refs : ∀ a, w = .ref a → wpAny (model X.prog X.w) X.A (call (.builtin "repr") [w]) (EP X pins σ Q) X.xe s := by
      rintro a rfl
      obtain ⟨as, rd, ns⟩ := RU.reads I hm o1 ru rx
      exact repr_of_reads' rd o2 (fun _ => ns) gd (by omega) (fun _ _ e => e) (fun h' u' tk hk => ⟨.str _, H, I.kept (t' := tk) hk, ⟨_, rfl⟩, kq⟩) o4
    cases ru with
    | non => cases rx; exact PySem.P.repr_of_none ⟨.str _, H, I.tok _, ⟨_, rfl⟩, kq⟩
    | bl b => cases rx; exact PySem.P.repr_of_bool ⟨.str _, H, I.tok _, ⟨_, by cases b <;> rfl⟩, kq⟩
    | int i => obtain ⟨t, rfl⟩ := rx; exact PySem.P.repr_of_int (of_decide_eq_true o2) ⟨.str _, H, I.tok _, ⟨_, rfl⟩, kq⟩
    | str z => obtain ⟨t, rfl⟩ := rx; exact PySem.P.repr_of_str ⟨.str _, H, I.tok _, ⟨_, rfl⟩, kq⟩ o4
    | tup _ _ => exact refs _ rx
    | fl _ _ _ _ => exact refs _ rx
    | cl _ _ => exact refs _ rx
    | fd _ _ _ _ _ _ => exact refs _ rx
    | ref _ => exact nomatch (show false = true from o1)
    | glo _ => exact nomatch (show false = true from o1)
    | ty _ => exact nomatch (show false = true from o1)
    | exn _ _ _ _ => exact nomatch (show false = true from o1)
end Mi
/-! Na, part E: set(list of whole numbers), sorted. -/
namespace Mi
open PySem PySem.Spec PyProof.Rows L2
set_option linter.unusedVariables false
/-- a new set -/
abbrev newS (w : World) : Obj := { cls := .type "set", dict := none, data := .set #[] 0 (.fresh 0 0 (!w.params.followText "set-order")) }
section
variable {P : Program} {w : World} {A : Around} {E : Value → Shared → Prop} {s : Shared}
set_option maxRecDepth 100000 in
set_option maxHeartbeats 3200000 in
theorem set_listI {l : Addr} {xs : Array Value} (ns : List Int) {Q : Value → Shared → Prop} (hh : A.handled = none) (hl : s.heap.IsList l xs) (hi : IntsAre xs.toList ns) (hb : ns.length + 1 < scanBound)
    (h : ∀ (h2 : Heap) (tk c : Nat), SetR w h2 s.heap.objs.size (fun j => decide (j ∈ ns)) c → c ≤ ns.length → (∀ b o, s.heap.get? b = some o → h2.get? b = some o) → Q (.ref s.heap.objs.size) { s with heap := h2, toks := tk }) :
    wpAny (model P w) A (call (.type "set") [.ref l]) Q E s := by
  have size : xs.size = ns.length := (Array.length_toList (xs := xs)).symm.trans (IntsAre.length hi)
  obtain ⟨c0, t0, mro⟩ := F.called_set.mro
  have f1 := F.called_set.made
  have f2 := F.called_set.sub
  refine wpAny_call (codeAny_of_tree ?_)
  show wpAny _ _ (callAny (.type "set") _) _ _ _
  refine wpAny_pure ⟨Code.quiet_builtin _ (by decide +kernel), ?_⟩
  refine codeAny_builtin F.entry_type_call ?_
  rw [Around.under_plain (weight_type_call_type "set" [.ref l] []) rfl]
  have f3 := F.called_set.notType
  have f4 := F.called_set.canCreate
  have f5 := F.typeCall_set_1 (.ref l)
  repeat (any_goals (first | assumption | wp_step))
  have gotS : (s.heap.push (newS w)).get? s.heap.objs.size = some (newS w) := Heap.get?_push_size _ rfl
  refine codeAny_mono (code_set_led1 (.ref l) (E := E) (Q₁ := fun v z => v = .ref s.heap.objs.size ∧ z = { s with heap := s.heap.push (newS w) }) ⟨rfl, rfl⟩) ?_
  intro r1 z1 hr1
  match r1, hr1 with
  | .error e, hr1 => exact hr1
  | .ok .next, hr1 => exact hr1
  | .ok .brk, hr1 => exact hr1
  | .ok .cont, hr1 => exact hr1
  | .ok (.ret obj), hr1 =>
    obtain ⟨rfl, rfl⟩ := hr1
    have ty : Shared.TypeIs { s with heap := s.heap.push (newS w) } (.ref s.heap.objs.size) "set" := ⟨_, gotS, rfl⟩
    have i1 := F.called_set.init.lookup
    have i2 := F.called_set.init.bind (.ref s.heap.objs.size)
    repeat (any_goals (first | assumption | wp_step))
    refine codeAny_mono (codeAny_call_builtin (R := wants (fun v z => v = .none ∧ ∃ h2 tk c, z = { s with heap := h2, toks := tk } ∧ SetR w h2 s.heap.objs.size (fun j => decide (j ∈ ns)) c ∧ c ≤ ns.length ∧ ∀ b o, s.heap.get? b = some o → h2.get? b = some o) E) F.called_set.init.plain F.entry_set_init (check_set_init_1 ty ?_)) ?_
    · obtain ⟨ol, hol, k1, k2, k3⟩ := hl
      obtain ⟨oc, od, ox, os⟩ := ol
      simp only at k1 k3
      subst k1 k3
      have hol2 : (s.heap.push (newS w)).get? l = some ⟨.type "list", od, .seq xs k2, os⟩ := Heap.get?_push_of_some _ hol
      have n1 := F.sub_list_set
      have n2 := F.sub_list_frozenset
      have n3 : (Value.type "list" == Value.type "dict") = false := by decide
      have isl : (s.heap.push (newS w)).IsList l xs := ⟨_, hol2, rfl, k2, rfl⟩
      unfold Builtin.«set.__init__» noKeywords Builtin.Frozenset.updateFrom
      generalize hp : pyIter = PI
      wp_walk
      subst hp
      refine wpAny_pyIter_list isl (wpAny_bind (wpAny_runValue ?_))
      have lt : l < s.heap.objs.size := Heap.lt_size hol
      have hh3 : A.in1.in1.in1.handled = none := by simp [hh]
      have ne : l ≠ (s.heap.push (newS w)).objs.size := by
        rw [Heap.size_push]
        exact Nat.ne_of_lt (Nat.lt_succ_of_lt lt)
      have out : s.heap.objs.size ∉ [(s.heap.push (newS w)).objs.size, l] := by
        rw [Heap.size_push]
        simp only [List.mem_cons, List.not_mem_nil, or_false, not_or]
        exact ⟨Nat.ne_of_lt (Nat.lt_succ_self _), Nat.ne_of_gt lt⟩
      have val : ∀ (i : Nat) (v : Value), xs[i]? = some v → ∃ k t, ns[i]? = some k ∧ v = .int k t := by
        intro i v hv
        have lti : i < ns.length := by rw [← size]; exact (Array.getElem?_eq_some_iff.mp hv).1
        obtain ⟨t, e⟩ := PyProof.Rows.IntsAre.int_at hi i v (by rw [Array.getElem?_toList]; exact hv)
        exact ⟨ns[i], t, List.getElem?_eq_getElem lti, by rw [e, List.getD_eq_getElem?_getD, List.getElem?_eq_getElem lti] <;> rfl⟩
      refine set_update_ints ((Walks.list hh3 _ l ne xs).toS) s.heap.objs.size out ns size hb val (xs.size - 0) 0 _ (by omega) (Nat.zero_le _) ⟨⟨_, Heap.get?_push_size _ rfl, rfl, rfl⟩, isl.push _⟩ ⟨0, Nat.le_refl 0, setR_new_at (Heap.get?_push_of_some _ gotS)⟩ ?_
      intro s2 c2 hm hc2 hS2
      obtain ⟨h2, g2, d2, t2, o2⟩ := s2
      have eg : g2 = s.gens := hm.gens
      have ed : d2 = s.drawn := hm.drawn
      have eo : o2 = s.os := hm.os
      subst eg ed eo
      show wpAny _ _ _ _ _ _
      refine wpAny_pure ?_
      show wpAny _ _ (ret Value.none) _ _ _
      refine wpAny_pure ⟨rfl, h2, t2, c2, rfl, hS2, by rw [← size]; exact hc2, fun b o e => ?_⟩
      have b0 : b < s.heap.objs.size := Heap.lt_size e
      refine hm.heap b o ?_ (Heap.get?_push_of_some _ (Heap.get?_push_of_some _ e))
      rw [Heap.size_push]
      simp only [List.mem_cons, List.not_mem_nil, or_false, not_or]
      exact ⟨Nat.ne_of_lt b0, Nat.ne_of_lt (Nat.lt_succ_of_lt b0)⟩
    · intro r2 z2 hr2
      match r2, hr2 with
      | .error e, hr2 => exact hr2
      | .ok .next, hr2 => exact hr2
      | .ok .brk, hr2 => exact hr2
      | .ok .cont, hr2 => exact hr2
      | .ok (.ret v), hr2 =>
        obtain ⟨rfl, h2, tk, c, rfl, k1, k2, k3⟩ := hr2
        have fin := h h2 tk c k1 k2 k3
        repeat (any_goals (first | assumption | wp_step))
end
end Mi
/-! Na, part F: sorted; sorted(set(..)). -/
namespace Mi
open PySem PySem.Spec PyProof.Rows L2
set_option linter.unusedVariables false
/-- the whole numbers, rising -/
def sortI (ns : List Int) : List Int := ns.mergeSort fun i j => decide (i ≤ j)
theorem sortI_perm (ns : List Int) : (sortI ns).Perm ns := List.mergeSort_perm _ _
theorem sortI_rise (ns : List Int) : (sortI ns).Pairwise (· ≤ ·) := by
  have := List.pairwise_mergeSort (le := fun i j : Int => decide (i ≤ j)) (fun a b c h1 h2 => by simp at *; omega) (fun a b => by simp; omega) ns
  exact this.imp fun h => of_decide_eq_true h
theorem sortI_eq {ns ms : List Int} (p : ms.Perm ns) (h : ms.Pairwise (· ≤ ·)) : ms = sortI ns :=
  List.Perm.eq_of_pairwise (fun a b _ _ h1 h2 => Int.le_antisymm h1 h2) h (sortI_rise ns) (p.trans (sortI_perm ns).symm)
/-- a number put into a rising list, once -/
def insI (k : Int) : List Int → List Int
  | [] => [k]
  | x :: r => if k < x then k :: x :: r else if k = x then x :: r else x :: insI k r
def riseI : List Int → List Int
  | [] => []
  | k :: r => insI k (riseI r)
theorem insI_mem {k j : Int} : ∀ {l : List Int}, j ∈ insI k l ↔ j = k ∨ j ∈ l
  | [] => by simp [insI]
  | x :: r => by
    unfold insI
    split
    · simp
    · split
      · rename_i h
        simp [h]
      · have ih := insI_mem (k := k) (j := j) (l := r)
        simp only [List.mem_cons, ih]
        constructor
        · rintro (h | h | h) <;> simp [h]
        · rintro (h | h | h) <;> simp [h]
theorem insI_rise {k : Int} : ∀ {l : List Int}, l.Pairwise (· < ·) → (insI k l).Pairwise (· < ·)
  | [], _ => by simp [insI]
  | x :: r, h => by
    have h' := List.pairwise_cons.mp h
    unfold insI
    split
    · rename_i hk
      refine List.pairwise_cons.mpr ⟨fun y hy => ?_, h⟩
      rcases List.mem_cons.mp hy with rfl | hy
      · exact hk
      · exact Int.lt_trans hk (h'.1 y hy)
    · split
      · exact h
      · rename_i h1 h2
        refine List.pairwise_cons.mpr ⟨fun y hy => ?_, insI_rise h'.2⟩
        rcases insI_mem.mp hy with rfl | hy
        · omega
        · exact h'.1 y hy
theorem riseI_mem {j : Int} : ∀ {l : List Int}, j ∈ riseI l ↔ j ∈ l
  | [] => Iff.rfl
  | k :: r => by
    show j ∈ insI k (riseI r) ↔ _
    rw [insI_mem, riseI_mem (l := r), List.mem_cons]
theorem riseI_rise : ∀ (l : List Int), (riseI l).Pairwise (· < ·)
  | [] => List.Pairwise.nil
  | k :: r => insI_rise (riseI_rise r)
theorem rise_eq : ∀ {l m : List Int}, l.Pairwise (· < ·) → m.Pairwise (· < ·) → (∀ k, k ∈ l ↔ k ∈ m) → l = m
  | [], [], _, _, _ => rfl
  | [], y :: m, _, _, h => absurd ((h y).mpr List.mem_cons_self) List.not_mem_nil
  | x :: l, [], _, _, h => absurd ((h x).mp List.mem_cons_self) List.not_mem_nil
  | x :: l, y :: m, h1, h2, h => by
    have a := List.pairwise_cons.mp h1
    have b := List.pairwise_cons.mp h2
    have e : x = y := by
      rcases List.mem_cons.mp ((h x).mp List.mem_cons_self) with e | e
      · exact e
      · rcases List.mem_cons.mp ((h y).mpr List.mem_cons_self) with e2 | e2
        · exact e2.symm
        · have := a.1 y e2
          have := b.1 x e
          omega
    subst e
    congr 1
    refine rise_eq a.2 b.2 fun k => ⟨fun hk => ?_, fun hk => ?_⟩
    · rcases List.mem_cons.mp ((h k).mp (List.mem_cons_of_mem _ hk)) with e | e
      · subst e; have := a.1 k hk; omega
      · exact e
    · rcases List.mem_cons.mp ((h k).mpr (List.mem_cons_of_mem _ hk)) with e | e
      · subst e; have := b.1 k hk; omega
      · exact e
theorem intsOf_map {c : Cn} {r : Gh} {H : Hp} : ∀ {us : List U} {vs : List V} {bs : List Int}, RUs c r H us vs → intsOf us = some bs → us = bs.map U.int
  | [], _, bs, _, h => by cases h; rfl
  | .int i :: us, _, bs, .cons _ hs, h => by
    unfold intsOf at h
    rw [Option.map_eq_some_iff] at h
    obtain ⟨l, h1, rfl⟩ := h
    rw [List.map_cons, ← intsOf_map hs h1]
/-- the keys of a dict in the own heap, all whole numbers -/
def keyInts : List (U × U) → Option (List Int)
  | [] => some []
  | (.int i, _) :: r => (keyInts r).map (i :: ·)
  | _ :: _ => none
def biSorted : FU
  | [.ref n], m => (match seqL (.ref n) m with
    | some us => (intsOf us).bind fun ns => mkFl ((sortI ns).map U.int) m
    | none => ((dicAt n m).bind keyInts).bind fun ns => if decide (ns.length < 64) = true then some (.fl ((sortI ns).map U.int), m) else none)
  | [u], m => ((seqL u m).bind intsOf).bind fun ns => mkFl ((sortI ns).map U.int) m
  | _, _ => none
/-- sorted(set(list)) -/
def biRise : FU
  | [u], m => ((seqL u m).bind intsOf).bind fun ns => if decide (ns.length < 64) = true then some (.fl ((riseI ns).map U.int), m) else none
  | _, _ => none
theorem RKs.ints {c : Cn} {r : Gh} {H : Hp} : ∀ {kvs : List (U × U)} {ps : List (L2.Key × V)} {ns : List Int}, RKs c r H kvs ps → keyInts kvs = some ns → ps.map (·.1) = ns.map Sum.inl
  | _, _, ns, .nil, h => by cases h; rfl
  | _, _, ns, .cons (k := k) hk _ hs, h => by
    cases k with
    | int i =>
      unfold keyInts at h
      rw [Option.map_eq_some_iff] at h
      obtain ⟨l, h1, rfl⟩ := h
      cases hk
      rw [List.map_cons, RKs.ints hs h1, List.map_cons]
    | _ => cases h
section
variable {X : Cx}
theorem ko_ints {r : Gh} {H : Hp} {m : MH} {Q : VK} {ns : List Int} (C : Corr (cn X) r m H) (k : kO (cn X) RU r H Q (some (.fl (ns.map U.int), m))) : ∀ p, H p = none → Q (.ref p) (upd H p (.lst (ns.map V.int))) := by
  intro p hp
  obtain ⟨C', e', n1, n2⟩ := C.beside (o := .lst (ns.map V.int)) hp
  exact k _ _ _ e' C' (.fl n1 n2 upd_same ((RUs.ints ns).ext e'.w))
theorem sorted_list {pins : List (Addr × Obj)} {s : Shared} {σ : L2.St} {H : Hp} {xs : List V} {vs : List Value} {Q : VK} {r : Gh} {m : MH} {u : U} {x : V} (I : Inv X pins σ H s) (rv : Vals [x] vs) (C : Corr (cn X) r m H) (ru : RU (cn X) r H u x) {us : List U} (e : seqL u m = some us)
    (k : kO (cn X) RU r H Q ((intsOf us).bind fun ns => mkFl ((sortI ns).map U.int) m)) : wpAny (model X.prog X.w) X.A (call (.builtin "sorted") vs) (EP X pins σ Q) X.xe s := by
  cases e2 : intsOf us with
  | none => rw [e2] at k; exact k.elim
  | some ns =>
    rw [e2, Option.bind_some] at k
    obtain ⟨hl, k⟩ := (show kO (cn X) RU r H Q (if lineOk ((sortI ns).map U.int).length = true then some (.fl ((sortI ns).map U.int), m) else none) from k).ite
    obtain ⟨a, ys, rfl, h1, h2⟩ := seqL_ok C ru e
    have ey := intsOf_ok h2 e2
    subst ey
    exact cr_sortedI pins s σ H _ vs Q I rv ⟨a, ns, rfl, h1, fun ns' p h3 h4 hp => by rw [sortI_eq h3 h4]; exact ko_ints C k p hp⟩
theorem bi_sorted (hc : X.calm = true) : CallR X (.builtin "sorted") (rF (cn X) biSorted) := by
  intro pins s σ H xs vs Q I rv ⟨r, m, us, C, R, k⟩
  match us, R, k with
  | [], _, k => exact k.elim
  | u :: _ :: _, _, k => cases u <;> exact k.elim
  | [u], R, k =>
    obtain ⟨x, rfl, ru⟩ := R.one
    have gen : (∀ n, u ≠ .ref n) → wpAny (model X.prog X.w) X.A (call (.builtin "sorted") vs) (EP X pins σ Q) X.xe s := by
      intro hn
      have k' : kO (cn X) RU r H Q (((seqL u m).bind intsOf).bind fun ns => mkFl ((sortI ns).map U.int) m) := by
        cases u <;> first | exact absurd rfl (hn _) | exact k
      cases e : seqL u m with
      | none => rw [e] at k'; exact k'.elim
      | some us =>
        rw [e, Option.bind_some] at k'
        exact sorted_list (xs := []) I rv C ru e k'
    cases u with
    | ref n =>
      have k' : kO (cn X) RU r H Q (match seqL (.ref n) m with
        | some us => (intsOf us).bind fun ns => mkFl ((sortI ns).map U.int) m
        | none => ((dicAt n m).bind keyInts).bind fun ns => if decide (ns.length < 64) = true then some (.fl ((sortI ns).map U.int), m) else none) := k
      cases e : seqL (.ref n) m with
      | some us =>
        rw [e] at k'
        exact sorted_list (xs := []) I rv C ru e k'
      | none =>
        rw [e] at k'
        cases e1 : dicAt n m with
        | none => rw [e1] at k'; exact k'.elim
        | some kvs =>
          rw [e1, Option.bind_some] at k'
          cases e2 : keyInts kvs with
          | none => rw [e2] at k'; exact k'.elim
          | some ns =>
            rw [e2, Option.bind_some] at k'
            obtain ⟨h64, k'⟩ := k'.ite
            obtain ⟨a, ps, rfl, h1, h2⟩ := dic_ok C ru e1
            exact call_sortedDI hc pins s σ H _ vs Q I rv ⟨a, ps, ns, rfl, h1, RKs.ints h2 e2, of_decide_eq_true h64, fun ys p h3 h4 hp => by rw [sortI_eq h3 h4]; exact ko_ints C k' p hp⟩
    | _ => exact gen fun _ z => nomatch z
/-- set(xs), a list of whole numbers -/
theorem cr_setListI (hc : X.calm = true) : CallR X (.type "set") (fun xs H Q => ∃ (a : Addr) (ns : List Int), xs = [V.ref a] ∧ SqL X.K H a (ns.map V.int) ∧ ns.length < 64 ∧ ∀ p n, H p = none → n ≤ ns.length → Q (.ref p) (upd H p (SetO X.w p (fun j => decide (j ∈ ns)) n))) := by
  intro pins s σ H xs us Q I rv ⟨a, ns, h0, h1, h2, q⟩
  subst h0
  rw [Vals.ref1 rv]
  obtain ⟨its, ra, pl, hz⟩ := I.list h1
  refine set_listI ns (I.ok.hd hc) pl.isList (by simpa using ints_of_vals ra) (by unfold scanBound; omega) fun h2 tk c R hcn k => ?_
  exact ⟨.ref s.heap.objs.size, _, I.laid (t' := tk) (o := SetO X.w s.heap.objs.size (fun j => decide (j ∈ ns)) c) k (Nat.le_refl _) (setO_new R), rfl, q _ _ (I.hok.fresh (Nat.le_refl _)) hcn⟩
theorem mi_rise {W : WX} {e : Expr} {fe : E1} {p1 p2 pos1 pos2 : Pos} (hc : X.calm = true) (hn : noStar e = true) (g1 : Gl X "sorted") (m1 : X.mg "sorted" = none) (g2 : Gl X "set") (m2 : X.mg "set" = none) (he : PE X e (tE (cn X) W fe)) :
    PE X (.Call (.Name "sorted" p1) [.Call (.Name "set" p2) [e] [] pos2] [] pos1) (tE (cn X) W (cFn biRise (cCons fe cNil))) := by
  have ha : PA X [e] (tAr (cn X) W (cCons fe cNil)) := mi_cons hn he mi_nil
  have inner := pe_callTy (cr_setListI (X := X) hc) g2 m2 (by decide +kernel : bootBuiltins "set" = some (.type "set")) ha (p := p2) (pos := pos2) (by decide) (by decide) (star_cons hn) (star_plain (es := []) rfl)
  refine (pe_callB (cr_sortedSet hc) g1 m1 (by decide +kernel : bootBuiltins "sorted" = some (.builtin "sorted")) (pa_cons inner pa_nil) (p := p1) (pos := pos1) (by decide) (by decide) (star_cons rfl) (star_plain (es := []) rfl)).weak fun s H Q ⟨r, m, t, C, E, k⟩ => ?_
  refine ⟨r, m, t, C, E, (kE.bind (R := RUs) k).imp ?_⟩
  rintro vs H1 ⟨r1, m1', us, e1, C1, rs, k1⟩
  have k2 := kE_ofO k1
  match us, rs, k2 with
  | [], _, k2 => exact k2.elim
  | _ :: _ :: _, _, k2 => exact k2.elim
  | [u], rs, k2 =>
    obtain ⟨x, rfl, ru⟩ := rs.one
    have k3 : kO (cn X) RU r1 H1 Q (((seqL u m1').bind intsOf).bind fun ns => if decide (ns.length < 64) = true then some (.fl ((riseI ns).map U.int), m1') else none) := k2
    cases e2 : seqL u m1' with
    | none => rw [e2] at k3; exact k3.elim
    | some us =>
      rw [e2, Option.bind_some] at k3
      cases e3 : intsOf us with
      | none => rw [e3] at k3; exact k3.elim
      | some ns =>
        rw [e3, Option.bind_some] at k3
        obtain ⟨h64, k3⟩ := k3.ite
        have h64 := of_decide_eq_true h64
        obtain ⟨a, ys, rfl, h1, h2⟩ := seqL_ok C1 ru e2
        have ey := intsOf_ok h2 e3
        subst ey
        refine ⟨a, ns, rfl, h1, h64, fun p n hp hn => ?_⟩
        refine ⟨p, _, n, rfl, upd_same, by omega, fun ns' p2 q1 q2 q3 hp2 => ?_⟩
        have en : ns' = riseI ns := rise_eq q1 (riseI_rise ns) fun j => (q2 j).trans (by rw [decide_eq_true_eq, riseI_mem])
        subst en
        obtain ⟨C2, e4, n1, n2⟩ := C1.beside (o := SetO X.w p (fun j => decide (j ∈ ns)) n) hp
        obtain ⟨C3, e5, n3, n4⟩ := C2.beside (o := .lst ((riseI ns).map V.int)) hp2
        exact k3 _ _ _ (e4.trans e5) C3 (.fl n3 n4 upd_same ((RUs.ints _).ext (e4.trans e5).w))
end
end Mi
/-! Mi, part P: the interpreter. -/
namespace Mi
open PySem PySem.Spec PyProof.Rows L2
/-- where code stands: the table, the slots, its scope, a block's own scope, within an except suite -/
structure DC where
  T : Tab
  N : List Str
  sc : Scope
  sc0 : Option Scope
  hot : Bool
def ixOf : List Str → Str → Option Nat
  | [], _ => none
  | y :: r, x => if y = x then some 0 else (ixOf r x).map (· + 1)
theorem ixOf_ok : ∀ {N : List Str} {x : Str} {i : Nat}, ixOf N x = some i → N[i]? = some x
  | [], _, _, h => by cases h
  | y :: r, x, i, h => by
    unfold ixOf at h
    by_cases e : y = x
    · rw [if_pos e] at h
      cases h
      rw [e]
      rfl
    · rw [if_neg e] at h
      cases q : ixOf r x with
      | none =>
        rw [q] at h
        cases h
      | some j =>
        rw [q] at h
        cases h
        show (y :: r)[j + 1]? = some x
        rw [List.getElem?_cons_succ]
        exact ixOf_ok q
def nmOk (x : Str) : Bool := !(x == ("__debug__" : Str)) && !(x == ("__classdict__" : Str)) && !(x == ("__name__" : Str))
theorem nmOk_1 {x : Str} (h : nmOk x = true) : (x == ("__debug__" : Str)) = false := by
  unfold nmOk at h
  simp only [Bool.and_eq_true, Bool.not_eq_true'] at h
  exact h.1.1
theorem nmOk_2 {x : Str} (h : nmOk x = true) : (x == ("__classdict__" : Str)) = false := by
  unfold nmOk at h
  simp only [Bool.and_eq_true, Bool.not_eq_true'] at h
  exact h.1.2
theorem nmOk_3 {x : Str} (h : nmOk x = true) : x ≠ "__name__" := by
  unfold nmOk at h
  simp only [Bool.and_eq_true, Bool.not_eq_true'] at h
  exact fun e => by
    have := h.2
    rw [e] at this
    exact absurd this (by decide)
def isGI (d : DC) (x : Str) : Bool := match d.sc.names.lookup x with
  | some .globalImplicit => true
  | _ => false
structure DenR where
  e : DC → Expr → E1
  t : DC → Expr → Fn1 Bool
  l : DC → Expr → List Nat
  g : DC → Expr → G1
  s : DC → Stmt → S1
def gBad : G1 := fun _ _ _ => none
def sBad : S1 := fun _ _ => .bad
def opU : Operator → Option B2
  | .Add => some addU
  | .Sub => some subU
  | .Mult => some mulU
  | .Mod => some modU
  | .Pow => some powU
  | .FloorDiv => some fdivU
  | _ => none
def ltI : Int → Int → Bool := fun i j => decide (i < j)
def leI : Int → Int → Bool := fun i j => decide (i ≤ j)
def gtI : Int → Int → Bool := fun i j => decide (j < i)
def geI : Int → Int → Bool := fun i j => decide (j ≤ i)
def cmpU : CmpOp → Option B2
  | .Eq => some eqU
  | .NotEq => some neU
  | .Lt => some (cmpI ltI)
  | .LtE => some (cmpI leI)
  | .Gt => some cmpG
  | .GtE => some (cmpI geI)
  | .Is => some isU
  | .IsNot => some nisU
  | .In => some inU
  | .NotIn => some ninU
def tyTab (x : Str) : Option String :=
  if x = "int" then some "int" else if x = "str" then some "str" else if x = "bool" then some "bool" else if x = "list" then some "list" else if x = "tuple" then some "tuple" else if x = "dict" then some "dict" else if x = "ValueError" then some "ValueError" else none
/-- the built-ins that are called by values -/
def biTab (d : DC) (x : Str) : Option FU :=
  if x = "len" then some biLen else if x = "isinstance" then some (biIsa d.T) else if x = "abs" then some biAbs else if x = "repr" then some biRepr else
  if d.hot = true then none else if x = "all" then some biAll else if x = "any" then some biAny else if x = "sum" then some biSum else if x = "min" then some biMin else if x = "max" then some biMax else if x = "sorted" then some biSorted else none
def btTab (x : Str) : Option FU :=
  if x = "str" then some biStr else if x = "list" then some biList else if x = "tuple" then some biTuple else none
def asOf (f : Expr → E1) : List Expr → Fn1 (List U)
  | [] => cNil
  | e :: es => cCons (f e) (asOf f es)
def kwOf (f : Expr → E1) : List Keyword → Fn1 (List U)
  | [] => cNil
  | ⟨_, e, _⟩ :: r => cCons (f e) (kwOf f r)
def wOf (op : BoolOp) (f : Expr → Fn1 Bool) : List Expr → Fn1 Bool
  | [] => cBad
  | [a] => f a
  | a :: b :: r => match op with
    | .And => cAnd (f a) (wOf op f (b :: r))
    | .Or => cOr (f a) (wOf op f (b :: r))
def vOf (op : BoolOp) (f : Expr → E1) : List Expr → E1
  | [] => cBad
  | [a] => f a
  | a :: b :: r => match op with
    | .And => cAndV (f a) (vOf op f (b :: r))
    | .Or => cOrV (f a) (vOf op f (b :: r))
def constE : Const → E1
  | .none => cK .non
  | .bool b => cK (.bl b)
  | .int i => cK (.int i)
  | .str x => cK (.str x)
  | _ => cBad
def gloE (T : Tab) (x : Str) : E1 := match T.con x with
  | some u => cK u
  | none => if T.glo x = true then cK (.glo x) else if T.free x = true then (match tyTab x with
    | some n => cK (.ty n)
    | none => cBad) else cBad
def nameE (d : DC) (x : Str) : E1 := if nmOk x = true then (match d.sc.names.lookup x with
  | some .globalImplicit => gloE d.T x
  | some .globalExplicit => cBad
  | none => cBad
  | some _ => (match ixOf d.N x with
    | some i => cVar i
    | none => cBad)) else cBad
def cmp1 (f : Expr → E1) (a : Expr) (op : CmpOp) (b : Expr) : E1 := match behindInMarks op b, cmpU op with
  | false, some g => cBin g (f a) (f b)
  | _, _ => cBad
def cmp2 (f : Expr → E1) (a : Expr) (op op' : CmpOp) (b b' : Expr) : E1 := match lastMarks [op, op'] [b, b'], cmpU op, cmpU op' with
  | false, some g, some g' => cChain g g' (f a) (f b) (f b')
  | _, _, _ => cBad
def cmpE (f : Expr → E1) (a : Expr) : List CmpOp → List Expr → E1
  | [op], [b] => cmp1 f a op b
  | [op, op'], [b, b'] => cmp2 f a op op' b b'
  | _, _ => cBad
def plainBase : Expr → Bool
  | .Call (.Name x _) [] [] _ => !(x == ("super" : Str))
  | _ => true
def noSet : Expr → Bool
  | .Set _ _ _ => false
  | _ => true
def isComp : Expr → Bool
  | .ListComp _ _ _ _ => true
  | .SetComp _ _ _ _ => true
  | .DictComp _ _ _ _ _ => true
  | _ => false
/-- sorted(set(e)) -/
def riseArg (d : DC) (x : Str) : List Expr → Option Expr
  | [.Call (.Name y _) [e] [] _] => if (decide (x = "sorted") && (decide (y = "set") && (isGI d y && (d.T.free y && (noStar e && !d.hot))))) = true then some e else none
  | _ => none
def callE (R : DenR) (d : DC) (f : Expr) (args : List Expr) (kws : List Keyword) (pos : Pos) : E1 := match f with
  | .Name x _ => if (nmOk x && isGI d x && args.all noStar) = true then (
      if d.T.isDef x = true then (if d.hot = true then cBad else match kwNames kws with
        | some ks => (match d.T.plan (x, none) args.length ks with
          | some g => cCallK args.length ks.length (fun as bs m => d.T.call (x, none) (g as bs) m) (asOf (R.e d) args) (kwOf (R.e d) kws)
          | none => cBad)
        | none => cBad)
      else if d.T.isCls x = true then (if d.hot = true then cBad else match kwNames kws with
        | some ks => (match d.T.plan (x, some "__init__") (args.length + 1) ks with
          | some g => cCallK args.length ks.length (makeF x (d.T.call (x, some "__init__")) g) (asOf (R.e d) args) (kwOf (R.e d) kws)
          | none => cBad)
        | none => cBad)
      else if d.T.free x = true then (match kws, args with
        | [], _ :: _ => (match riseArg d x args with
          | some e => cFn biRise (cCons (R.e d e) cNil)
          | none => (match biTab d x with
            | some g => cFn g (asOf (R.e d) args)
            | none => (match btTab x with
              | some g => cFn g (asOf (R.e d) args)
              | none => cBad)))
        | _, _ => cBad) else cBad) else cBad
  | .Attribute o name apos => if (plainBase o && (apos.endLine == pos.line) && args.all noStar && decide (args.length + kws.length + 1 < 30) && !d.hot) = true then (match kwNames kws with
      | some ks => cMeth d.T name args.length ks (R.e d o) (asOf (R.e d) args) (kwOf (R.e d) kws)
      | none => cBad) else cBad
  | _ => cBad
def ownOf (N : List Str) : List (Str × NameKind) → List (Str × Nat)
  | [] => []
  | (x, .local) :: r => (match ixOf N x with
    | some i => (x, i) :: ownOf N r
    | none => ownOf N r)
  | (x, .cell) :: r => (match ixOf N x with
    | some i => (x, i) :: ownOf N r
    | none => ownOf N r)
  | _ :: r => ownOf N r
def DC.blk (d : DC) (scope : Scope) : DC := { d with sc := relS scope d.sc, sc0 := some scope }
def iE (R : DenR) (d : DC) (tg iter : Expr) : I1 := match iter with
  | .Call (.Name x p) args [] pos => if (isGI d x && d.T.free x && args.all noStar) = true then (
      if x = "range" then (match args with
        | [_] => cRng1 (asOf (R.e d) args)
        | [_, _] => cRng2 (asOf (R.e d) args)
        | _ => fun _ _ => .bad)
      else if x = "enumerate" then (match args, tg with
        | [_], .Tuple _ _ _ => cEnum (asOf (R.e d) args)
        | _, _ => fun _ _ => .bad)
      else cIt (R.e d (.Call (.Name x p) args [] pos))) else cIt (R.e d (.Call (.Name x p) args [] pos))
  | e => cIt (R.e d e)
def lcE (R : DenR) (d : DC) (elt : Expr) (gens : List Comprehension) (scope : Scope) (pos : Pos) : E1 := match gens with
  | [⟨tg, iter, ifs, a⟩] => if (decide (a = 0) && blkC d.N d.sc scope (ownOf d.N scope.names) && ((R.l (d.blk scope) tg).all fun i => decide (i ∈ (ownOf d.N scope.names).map (·.2))) && noSet iter && !d.hot) = true then (match ifs with
    | [] => cLc (d.T.heapAt pos) (iE R d tg iter) (R.g (d.blk scope) tg) cYes (R.e (d.blk scope) elt) ((ownOf d.N scope.names).map (·.2))
    | [c] => cLc (d.T.heapAt pos) (iE R d tg iter) (R.g (d.blk scope) tg) (R.t (d.blk scope) c) (R.e (d.blk scope) elt) ((ownOf d.N scope.names).map (·.2))
    | _ => cBad) else cBad
  | _ => cBad
def revIx : Expr → Bool
  | .Slice none none (some (.UnaryOp .USub (.Constant (.int 1) _ _) _)) _ => true
  | _ => false
def optE (f : Expr → E1) : Option Expr → Option E1
  | none => none
  | some e => some (f e)
def subE (R : DenR) (d : DC) (e ix : Expr) : E1 := if revIx ix = true then cUn rev2U (R.e d e) else match ix with
  | .Slice lo hi none _ => cSlice (R.e d e) (optE (R.e d) lo) (optE (R.e d) hi)
  | .Slice _ _ (some _) _ => cBad
  | b => cBin idxU (R.e d e) (R.e d b)
def pairsE (f : Expr → E1) : List (Option Expr) → List Expr → Option (List (E1 × E1))
  | [], [] => some []
  | some k :: ks, v :: vs => (pairsE f ks vs).map ((f k, f v) :: ·)
  | _, _ => none
def dictE (R : DenR) (d : DC) (keys : List (Option Expr)) (vals : List Expr) (p : Pos) : E1 := match keys, vals with
  | [], [] => if d.T.heapAt p = true then cDic else cDic0
  | [], _ :: _ => cBad
  | k :: ks, vs => if decide ((k :: ks).length ≤ 15) = true then (match pairsE (R.e d) (k :: ks) vs with
    | some l => cDict (d.T.heapAt p) l
    | none => cBad) else cBad
def stepE (R : DenR) (d : DC) (e : Expr) : E1 := match e with
  | .Constant v _ _ => constE v
  | .Name x _ => nameE d x
  | .BinOp a op b _ => (match opU op with
    | some g => cBin g (R.e d a) (R.e d b)
    | none => cBad)
  | .UnaryOp .Not a _ => cNotV (R.e d a)
  | .UnaryOp .USub a _ => cUn negU (R.e d a)
  | .BoolOp op es _ => vOf op (R.e d) es
  | .Compare a ops bs _ => cmpE (R.e d) a ops bs
  | .IfExp q a b _ => cIf (R.t d q) (R.e d a) (R.e d b)
  | .Tuple es _ _ => if es.all noStar = true then cFn mkTup (asOf (R.e d) es) else cBad
  | .List es p => if es.all noStar = true then (if d.T.heapAt p = true then cFn mkLst (asOf (R.e d) es) else cFn mkFl (asOf (R.e d) es)) else cBad
  | .Dict keys vals p => dictE R d keys vals p
  | .Subscript e ix _ => subE R d e ix
  | .Attribute o f _ => if plainBase o = true then cFld d.T f (R.e d o) else cBad
  | .Call f args kws pos => callE R d f args kws pos
  | .ListComp elt gens scope pos => lcE R d elt gens scope pos
  | _ => cBad
def plainT : Expr → Bool
  | .Name _ _ => true
  | .Call _ _ _ _ => true
  | .Subscript _ _ _ => true
  | .Attribute _ _ _ => true
  | .BinOp _ _ _ _ => true
  | .Constant _ _ _ => true
  | _ => false
def stepT (R : DenR) (d : DC) (e : Expr) : Fn1 Bool := match e with
  | .UnaryOp .Not a _ => cNot (R.t d a)
  | .BoolOp op es _ => wOf op (R.t d) es
  | .Compare a ops bs _ => cIsBl (cmpE (R.e d) a ops bs)
  | e => if plainT e = true then cTruth (R.e d e) else cBad
def okSt (d : DC) (x : Str) : Bool := match d.sc.names.lookup x with
  | some .local => true
  | some .cell => (match d.sc0 with
    | none => true
    | some s => (match s.names.lookup x with
      | some .cell => true
      | _ => false))
  | _ => false
def stepL (R : DenR) (d : DC) (e : Expr) : List Nat := match e with
  | .Name x _ => (match ixOf d.N x with
    | some i => [i]
    | none => [])
  | .Tuple es _ _ => (es.map unStar).flatMap (R.l d)
  | _ => []
def stepG (R : DenR) (d : DC) (e : Expr) : G1 := match e with
  | .Name x _ => (match ixOf d.N x with
    | some i => if okSt d x = true then gName i else gBad
    | none => gBad)
  | .Tuple es _ _ => if (!d.hot && es.all noStar) = true then gTup (es.map (R.g d)) else (match starAt es with
    | some i => if (!d.hot && (es.map unStar).all noStar) = true then gStar i ((es.map unStar).map (R.g d)) else gBad
    | none => gBad)
  | .Subscript o i _ => if noSlice i = true then gSubU (R.e d o) (R.e d i) else gBad
  | .Attribute o f _ => gFldU d.T f (R.e d o)
  | _ => gBad
def bOf (f : Stmt → S1) : List Stmt → S1
  | [] => sNx
  | st :: r => sSeq (f st) (bOf f r)
def noSwap : Expr → Expr → Bool
  | .Tuple _ _ _, .Tuple _ _ _ => false
  | .List _ _, .Tuple _ _ _ => false
  | _, _ => true
def compOk : Expr → Expr → Bool
  | .Name _ _, .SetComp _ _ _ _ => false
  | .Name _ _, .DictComp _ _ _ _ _ => false
  | _, _ => true
/-- name = [..], the two on one line -/
def swB (d : DC) (y : Str) (py pos : Pos) (scope : Scope) : Bool := (d.sc.names.lookup y == some .local) && (py.line == pos.line) && !(scope.names.any fun (n, k) => n == y && (k == .local || k == .cell))
def asgS (R : DenR) (d : DC) (tg e : Expr) : S1 := match tg, e with
  | .Name y py, .ListComp elt gens scope pos => if swB d y py pos scope = true then (match ixOf d.N y with
    | some i => sAsg (lcE R d elt gens scope pos) (gName i)
    | none => sBad) else sAsg (R.e d (.ListComp elt gens scope pos)) (R.g d (.Name y py))
  | tg, e => if (noStar tg && noSwap tg e && compOk tg e) = true then sAsg (R.e d e) (R.g d tg) else sBad
def hd1 (R : DenR) (d : DC) : ExceptHandler → Option Hd
  | .ExceptHandler (some (.Name x _)) on (b :: suite) _ => if (nmOk x && isGI d x && d.T.glo x) = true then (match on with
    | none => some ⟨x, none, bOf (R.s { d with hot := true }) (b :: suite)⟩
    | some n => (match ixOf d.N n, d.sc.names.lookup n with
      | some i, some .local => some ⟨x, some i, bOf (R.s { d with hot := true }) (b :: suite)⟩
      | _, _ => none)) else none
  | _ => none
def hdOf (R : DenR) (d : DC) : List ExceptHandler → Option (List Hd)
  | [] => some []
  | h :: r => (hd1 R d h).bind fun a => (hdOf R d r).map (a :: ·)
def raiseS (d : DC) (e : Expr) : S1 := match e with
  | .Call (.Name x _) [.Constant (.str _) _ _] [] _ => if (!d.hot && d.T.exc x && isGI d x && nmOk x) = true then sRaise x else sBad
  | _ => sBad
def augS (R : DenR) (d : DC) (op : Operator) (tg e : Expr) : S1 := match augI op with
  | none => sBad
  | some p => (match tg with
    | .Name x _ => (match ixOf d.N x with
      | some i => if okSt d x = true then sAug i p (R.e d e) else sBad
      | none => sBad)
    | .Attribute o f _ => sAugF d.T f p (R.e d o) (R.e d e)
    | .Subscript o i _ => if noSlice i = true then sAugD p (R.e d o) (R.e d i) (R.e d e) else sBad
    | _ => sBad)
def stepS (R : DenR) (d : DC) (st : Stmt) : S1 := match st with
  | .Expr e _ => if isComp e = true then sBad else sDrop (R.e d e)
  | .Assign [tg] e _ => asgS R d tg e
  | .AugAssign tg op e _ => augS R d op tg e
  | .Return none _ => sRet (cK .non)
  | .Return (some e) _ => sRet (R.e d e)
  | .If q a b _ => sIf (R.t d q) (bOf (R.s d) a) (bOf (R.s d) b)
  | .For tg iter body [] _ => if (!d.hot && noSet iter) = true then sFor (iE R d tg iter) (R.g d tg) (bOf (R.s d) body) else sBad
  | .While q body [] _ => if d.hot = true then sBad else sWhile (R.t d q) (bOf (R.s d) body) d.T.fuel
  | .Pass _ => sNx
  | .Break _ => fun t m => .bk t m
  | .Continue _ => fun t m => .ct t m
  | .Raise (some e) none _ => raiseS d e
  | .Try body (h :: hs) [] [] _ => if d.hot = true then sBad else (match hdOf R d (h :: hs) with
    | some l => sTry d.T (bOf (R.s d) body) l
    | none => sBad)
  | _ => sBad
def denBad : DenR := ⟨fun _ _ => cBad, fun _ _ => cBad, fun _ _ => [], fun _ _ => gBad, fun _ _ => sBad⟩
def stepR (R : DenR) : DenR := ⟨stepE R, stepT R, stepL R, stepG R, stepS R⟩
def den : Nat → DenR
  | 0 => denBad
  | n + 1 => stepR (den n)
end Mi
/-! Mi, part Q: the interpreter tells what the model does: expressions, targets. -/
namespace Mi
open PySem PySem.Spec PyProof.Rows L2
structure CtxE (X : Cx) (W : WX) (k : Nat) (d : DC) : Prop where
  sc : X.env.scope = d.sc
  N : X.N = d.N
  nd : X.N.Nodup
  tk : Takes X W
  un : X.A.units + 65 < cLine
  room : d.hot = false → Room (k + 1) X.A
  calm : d.hot = false → X.calm = true
  fn : ∀ x, okSt d x = true → X.fn x = true ∨ X.env.scope.names.lookup x = some .local
  kind : X.env.scope.kind = .function
  gd : X.A.guards = some []
  tab : TabOk d.T X.prog X.w X.K X.mg X.base k
structure CtxS (X : Cx) (W : WX) (k : Nat) (d : DC) : Prop extends CtxE X W k d where
  ex : X.ex = []
  stk : X.stack = X.env :: X.outer
  fr : X.env.frame = some X.env.locals
  pass : PassesOwn (model X.prog X.w) X.A X.env X.xe
structure Snd (R : DenR) : Prop where
  e : ∀ {X : Cx} {W : WX} {k : Nat} {d : DC}, CtxE X W k d → ∀ e, PE X e (tE (cn X) W (R.e d e))
  t : ∀ {X : Cx} {W : WX} {k : Nat} {d : DC}, CtxE X W k d → ∀ e, PT X e (tTs (cn X) W (R.t d e))
  g : ∀ {X : Cx} {W : WX} {k : Nat} {d : DC}, CtxE X W k d → ∀ e, PG X e (tGt (cn X) (R.l d e) (R.g d e))
  s : ∀ {X : Cx} {W : WX} {k : Nat} {d : DC}, CtxS X W k d → ∀ st, PS X st (tS (cn X) W (R.s d st))
set_option linter.unusedVariables false
section
variable {X : Cx} {W : WX} {k : Nat} {d : DC} {R : DenR}
theorem pe_cBad {e : Expr} : PE X e (tE (cn X) W cBad) := PE.bad fun s H Q h => no_bad s H Q h
theorem pt_cBad {e : Expr} : PT X e (tTs (cn X) W cBad) := PT.bad fun s H Q h => no_bad s H Q h
theorem pw_cBad {e : Expr} : PW X e (tTs (cn X) W cBad) := ⟨fun wh pins s σ H Q I h => (no_bad σ H Q h).elim⟩
theorem pg_gBad {e : Expr} {L : List Nat} : PG X e (tGt (cn X) L gBad) := ⟨fun _ _ _ _ _ _ _ _ _ ⟨_, _, _, _, _, _, _, k⟩ => k.elim⟩
theorem pi_bad {tg iter : Expr} : PI X tg iter (tIt (cn X) W fun _ _ => .bad) := ⟨fun _ _ _ _ _ _ ⟨_, _, _, _, _, k⟩ => k.elim⟩
theorem CtxE.gl (c : CtxE X W k d) {x : Str} (h : isGI d x = true) : Gl X x := by
  unfold isGI at h
  show X.env.scope.names.lookup x = some .globalImplicit
  rw [c.sc]
  cases e : d.sc.names.lookup x with
  | none =>
    rw [e] at h
    cases h
  | some kd =>
    rw [e] at h
    cases kd <;> first | rfl | cases h
theorem CtxE.ix (c : CtxE X W k d) {x : Str} {i : Nat} (h : ixOf d.N x = some i) : X.N[i]? = some x := by
  rw [c.N]
  exact ixOf_ok h
theorem con_ok (c : CtxE X W k d) (v : Const) (j : Nat) (pos : Pos) : PE X (.Constant v j pos) (tE (cn X) W (constE v)) := by
  cases v with
  | none => exact mi_const pe_non fun _ _ => .non
  | bool b => exact mi_const pe_bl fun _ _ => .bl b
  | int i => exact mi_const pe_int fun _ _ => .int i
  | str x => exact mi_const pe_str fun _ _ => .str x
  | _ => exact pe_cBad
theorem tyTab_ok {x : Str} {n : String} (h : tyTab x = some n) : bootBuiltins x = some (.type n) := by
  unfold tyTab at h
  split at h
  · rename_i e; cases h; rw [e]; decide +kernel
  split at h
  · rename_i e; cases h; rw [e]; decide +kernel
  split at h
  · rename_i e; cases h; rw [e]; decide +kernel
  split at h
  · rename_i e; cases h; rw [e]; decide +kernel
  split at h
  · rename_i e; cases h; rw [e]; decide +kernel
  split at h
  · rename_i e; cases h; rw [e]; decide +kernel
  split at h
  · rename_i e; cases h; rw [e]; decide +kernel
  · cases h
theorem glo_ok (c : CtxE X W k d) {x : Str} (hn : nmOk x = true) (hg : Gl X x) (pos : Pos) : PE X (.Name x pos) (tE (cn X) W (gloE d.T x)) := by
  unfold gloE
  cases e : d.T.con x with
  | some u =>
    obtain ⟨v, val, h1, h2, h3⟩ := c.tab.con _ _ e
    exact mi_const (pe_glob hg h1 h2 (nmOk_1 hn)) h3
  | none =>
    dsimp only
    split
    · rename_i h
      obtain ⟨a, h1⟩ := c.tab.glo _ h
      exact mi_const (pe_glob (v := .ref a) hg h1 rfl (nmOk_1 hn)) fun _ _ => .glo h1
    · split
      · rename_i h
        cases e2 : tyTab x with
        | none => exact pe_cBad
        | some n => exact mi_const (pe_bltn (v := .ty n) hg (c.tab.free _ h) (tyTab_ok e2) rfl (nmOk_3 hn) (nmOk_1 hn)) fun _ _ => .ty n
      · exact pe_cBad
theorem name_ok (c : CtxE X W k d) (x : Str) (pos : Pos) : PE X (.Name x pos) (tE (cn X) W (nameE d x)) := by
  unfold nameE
  split
  · rename_i hn
    cases e : d.sc.names.lookup x with
    | none => exact pe_cBad
    | some kd =>
      have vis : ∀ i, ixOf d.N x = some i → Vis X.env.scope x → PE X (.Name x pos) (tE (cn X) W (cVar i)) := fun i hi hv => mi_var (c.ix hi) hv (nmOk_1 hn) (nmOk_2 hn)
      have hs : X.env.scope.names.lookup x = some kd := by rw [c.sc, e]
      cases kd with
      | globalImplicit => exact glo_ok c hn hs pos
      | globalExplicit => exact pe_cBad
      | «local» =>
        dsimp only
        cases e2 : ixOf d.N x with
        | none => exact pe_cBad
        | some i => exact vis i e2 (.inl hs)
      | cell =>
        dsimp only
        cases e2 : ixOf d.N x with
        | none => exact pe_cBad
        | some i => exact vis i e2 (.inr (.inl hs))
      | free =>
        dsimp only
        cases e2 : ixOf d.N x with
        | none => exact pe_cBad
        | some i => exact vis i e2 (.inr (.inr hs))
  · exact pe_cBad
theorem opU_ok {op : Operator} {g : B2} (h : opU op = some g) : OpR X (binaryOp op) (rB (cn X) g) := by
  cases op <;> cases h
  · exact op_addU
  · exact op_subU
  · exact op_mulU
  · exact op_modU
  · exact op_powU
  · exact op_fdivU
theorem cmpU_ok (hu : X.A.units + 65 < cLine) {op : CmpOp} {g : B2} (h : cmpU op = some g) : OpR X (compareOp op) (rB (cn X) g) := by
  cases op <;> cases h
  · exact op_eqU (by omega)
  · exact op_neU (by omega)
  · exact op_cmpI op_lt
  · exact op_cmpI op_le
  · exact op_cmpG
  · exact op_cmpI op_ge
  · exact op_isU
  · exact op_nisU
  · exact op_inU (by omega)
  · exact op_ninU (by omega)
theorem as_ok {f : Expr → E1} (h : ∀ e, PE X e (tE (cn X) W (f e))) : ∀ es : List Expr, es.all noStar = true → PA X es (tAr (cn X) W (asOf f es))
  | [], _ => mi_nil
  | e :: es, hs => by
    rw [List.all_cons, Bool.and_eq_true] at hs
    exact mi_cons hs.1 (h e) (as_ok h es hs.2)
theorem as_nil {f : Expr → E1} {es : List Expr} (h : es = []) : asOf f es = cNil := by rw [h]; rfl
theorem kw_ok' {f : Expr → E1} (h : ∀ e, PE X e (tE (cn X) W (f e))) : ∀ ks : List Keyword, PKw X W ks (kwOf f ks)
  | [] => pkw_nil
  | ⟨n, e, p⟩ :: r => pkw_cons (h e) (kw_ok' h r)
theorem w_ok {f : Expr → Fn1 Bool} (h : ∀ e, PT X e (tTs (cn X) W (f e))) (op : BoolOp) (pos : Pos) : ∀ es : List Expr, PW X (.BoolOp op es pos) (tTs (cn X) W (wOf op f es))
  | [] => pw_cBad
  | [a] => by
    cases op with
    | And => exact pw_and1 (h a)
    | Or => exact pw_or1 (h a)
  | a :: b :: r => by
    cases op with
    | And => exact mi_and (h a) (w_ok h .And pos (b :: r))
    | Or => exact mi_or (h a) (w_ok h .Or pos (b :: r))
theorem v_ok {f : Expr → E1} (h : ∀ e, PE X e (tE (cn X) W (f e))) (op : BoolOp) (pos : Pos) : ∀ es : List Expr, PE X (.BoolOp op es pos) (tE (cn X) W (vOf op f es))
  | [] => pe_cBad
  | [a] => pe_one (h a)
  | a :: b :: r => by
    cases op with
    | And => exact mi_andV (h a) (v_ok h .And pos (b :: r))
    | Or => exact mi_orV (h a) (v_ok h .Or pos (b :: r))
theorem cmp1_ok (c : CtxE X W k d) {f : Expr → E1} (h : ∀ e, PE X e (tE (cn X) W (f e))) (a : Expr) (pos : Pos) (op : CmpOp) (b : Expr) : PE X (.Compare a [op] [b] pos) (tE (cn X) W (cmp1 f a op b)) := by
  unfold cmp1
  cases e1 : behindInMarks op b with
  | true => exact pe_cBad
  | false => cases e : cmpU op with
    | none => exact pe_cBad
    | some g => exact mi_cmp (cmpU_ok c.un e) (h a) (h b) e1
theorem cmp2_ok (c : CtxE X W k d) {f : Expr → E1} (h : ∀ e, PE X e (tE (cn X) W (f e))) (a : Expr) (pos : Pos) (op op' : CmpOp) (b b' : Expr) : PE X (.Compare a [op, op'] [b, b'] pos) (tE (cn X) W (cmp2 f a op op' b b')) := by
  unfold cmp2
  cases e1 : lastMarks [op, op'] [b, b'] with
  | true => exact pe_cBad
  | false => cases e : cmpU op with
    | none => exact pe_cBad
    | some g => cases e' : cmpU op' with
      | none => exact pe_cBad
      | some g' => exact mi_chain (cmpU_ok c.un e) (cmpU_ok c.un e') (h a) (h b) (h b') e1
theorem cmp_ok (c : CtxE X W k d) {f : Expr → E1} (h : ∀ e, PE X e (tE (cn X) W (f e))) (a : Expr) (pos : Pos) : ∀ (ops : List CmpOp) (bs : List Expr), PE X (.Compare a ops bs pos) (tE (cn X) W (cmpE f a ops bs))
  | [op], [b] => cmp1_ok c h a pos op b
  | [op, op'], [b, b'] => cmp2_ok c h a pos op op' b b'
  | [], _ => pe_cBad
  | [_], [] => pe_cBad
  | [_], _ :: _ :: _ => pe_cBad
  | [_, _], [] => pe_cBad
  | [_, _], [_] => pe_cBad
  | [_, _], _ :: _ :: _ :: _ => pe_cBad
  | _ :: _ :: _ :: _, _ => pe_cBad
theorem mi_chainT {op op' : CmpOp} {g g' : B2} {a b e : Expr} {fa fb fd : E1} {pos : Pos} (ho : OpR X (compareOp op) (rB (cn X) g)) (ho' : OpR X (compareOp op') (rB (cn X) g')) (ha : PE X a (tE (cn X) W fa)) (hb : PE X b (tE (cn X) W fb)) (hd : PE X e (tE (cn X) W fd)) (hm : lastMarks [op, op'] [b, e] = false) :
    PT X (.Compare a [op, op'] [b, e] pos) (tTs (cn X) W (cIsBl (cChain g g' fa fb fd))) := by
  refine (pt_chain ho ho' ha hb hd hm).weak fun s H Q ⟨r, m, t, C, E, kk⟩ => ?_
  have k0 : kE (cn X) RU W r H s (fun x H' => ∃ k, x = .bl k ∧ Q k H') (cChain g g' fa fb fd t m) := (kE.bind kk).imp fun x H1 ⟨r1, m1, u, e1, C1, ru, k1⟩ => kbl C1 ru k1
  refine ⟨r, m, t, C, E, (kE.bind k0).imp ?_⟩
  rintro x H1 ⟨r1, m1, u, e1, C1, ru, k1⟩
  refine ⟨r1, m1, t, C1, E.ext e1.w, (kE.bind k1).imp ?_⟩
  rintro y H2 ⟨r2, m2, w, e2, C2, rw2, k2⟩
  refine ⟨r2, m2, u, w, C2, ru.ext e2.w, rw2, ?_⟩
  cases e : g u w m2 with
  | none => rw [e] at k2; exact k2
  | some p =>
    obtain ⟨z, m3⟩ := p
    rw [e] at k2
    intro r3 H3 v e3 C3 rv
    have k3 := kE.from k2 e3
    cases z with
    | bl b =>
      cases rv
      refine ⟨b, rfl, ?_⟩
      cases b with
      | true =>
        refine iteT ⟨r3, m3, t, C3, ((E.ext e1.w).ext e2.w).ext e3.w, (kE.bind (show kE (cn X) RU W r3 H3 s (fun x H' => ∃ k, x = .bl k ∧ Q k H') ((fd t m3).bind fun y m5 => ofO (g' w y m5)) from k3)).imp ?_⟩
        rintro x4 H4 ⟨r4, m4, u4, e4, C4, ru4, k4⟩
        exact ⟨r4, m4, w, u4, C4, (rw2.ext e3.w).ext e4.w, ru4, kE_ofO k4⟩
      | false => exact iteF (kE.ok (show kE (cn X) RU W r3 H3 s (fun x H' => ∃ k, x = .bl k ∧ Q k H') (.ok (.bl false) m3) from k3) C3 (.bl false))
    | _ => exact k3.elim
theorem cmpT_bad {e : Expr} : PT X e (tTs (cn X) W (cIsBl cBad)) := PT.bad fun _ _ _ ⟨_, _, _, _, _, k⟩ => k
theorem cmpT1_ok (c : CtxE X W k d) {f : Expr → E1} (h : ∀ e, PE X e (tE (cn X) W (f e))) (a : Expr) (pos : Pos) (op : CmpOp) (b : Expr) : PT X (.Compare a [op] [b] pos) (tTs (cn X) W (cIsBl (cmp1 f a op b))) := by
  unfold cmp1
  cases e1 : behindInMarks op b with
  | true => exact cmpT_bad
  | false => cases e : cmpU op with
    | none => exact cmpT_bad
    | some g => exact mi_cmpT (cmpU_ok c.un e) (h a) (h b) e1
theorem cmpT2_ok (c : CtxE X W k d) {f : Expr → E1} (h : ∀ e, PE X e (tE (cn X) W (f e))) (a : Expr) (pos : Pos) (op op' : CmpOp) (b b' : Expr) : PT X (.Compare a [op, op'] [b, b'] pos) (tTs (cn X) W (cIsBl (cmp2 f a op op' b b'))) := by
  unfold cmp2
  cases e1 : lastMarks [op, op'] [b, b'] with
  | true => exact cmpT_bad
  | false => cases e : cmpU op with
    | none => exact cmpT_bad
    | some g => cases e' : cmpU op' with
      | none => exact cmpT_bad
      | some g' => exact mi_chainT (cmpU_ok c.un e) (cmpU_ok c.un e') (h a) (h b) (h b') e1
theorem cmpT_ok (c : CtxE X W k d) {f : Expr → E1} (h : ∀ e, PE X e (tE (cn X) W (f e))) (a : Expr) (pos : Pos) : ∀ (ops : List CmpOp) (bs : List Expr), PT X (.Compare a ops bs pos) (tTs (cn X) W (cIsBl (cmpE f a ops bs)))
  | [op], [b] => cmpT1_ok c h a pos op b
  | [op, op'], [b, b'] => cmpT2_ok c h a pos op op' b b'
  | [], _ => cmpT_bad
  | [_], [] => cmpT_bad
  | [_], _ :: _ :: _ => cmpT_bad
  | [_, _], [] => cmpT_bad
  | [_, _], [_] => cmpT_bad
  | [_, _], _ :: _ :: _ :: _ => cmpT_bad
  | _ :: _ :: _ :: _, _ => cmpT_bad
theorem base_ok {o : Expr} {f : Str} {env : Env} (h : plainBase o = true) : attributeBase o f env (eval o env) = eval o env := by
  unfold attributeBase
  split
  · rename_i id p pos
    have h2 : (!(id == ("super" : Str))) = true := h
    have h3 : (id != ("super" : Str)) = true := h2
    simp only [h3, Bool.true_or, if_true]
  · rfl
end
end Mi
/-! Mi, part R: the interpreter tells what the model does: calls, comprehensions, statements. -/
namespace Mi
open PySem PySem.Spec PyProof.Rows L2
set_option linter.unusedVariables false
section
variable {X : Cx} {W : WX} {k : Nat} {d : DC} {R : DenR}
theorem biTab_ok (c : CtxE X W k d) {x : Str} {g : FU} (h : biTab d x = some g) : ∃ id, bootBuiltins x = some (.builtin id) ∧ CallR X (.builtin id) (rF (cn X) g) := by
  unfold biTab at h
  split at h
  · rename_i e; cases h; rw [e]; exact ⟨"len", by decide +kernel, bi_len⟩
  split at h
  · rename_i e; cases h; rw [e]; exact ⟨"isinstance", by decide +kernel, bi_isa c.tab⟩
  split at h
  · rename_i e; cases h; rw [e]; exact ⟨"abs", by decide +kernel, bi_abs⟩
  split at h
  · rename_i e; cases h; rw [e]; exact ⟨"repr", by decide +kernel, bi_repr c.gd c.un c.tab.sm⟩
  split at h
  · cases h
  rename_i hh
  have hc := c.calm (Bool.not_eq_true _ ▸ hh)
  split at h
  · rename_i e; cases h; rw [e]; exact ⟨"all", by decide +kernel, bi_all hc⟩
  split at h
  · rename_i e; cases h; rw [e]; exact ⟨"any", by decide +kernel, bi_any hc⟩
  split at h
  · rename_i e; cases h; rw [e]; exact ⟨"sum", by decide +kernel, bi_sum hc⟩
  split at h
  · rename_i e; cases h; rw [e]; exact ⟨"min", by decide +kernel, bi_min hc⟩
  split at h
  · rename_i e; cases h; rw [e]; exact ⟨"max", by decide +kernel, bi_max hc⟩
  split at h
  · rename_i e; cases h; rw [e]; exact ⟨"sorted", by decide +kernel, bi_sorted hc⟩
  · cases h
theorem btTab_ok {x : Str} {g : FU} (h : btTab x = some g) : ∃ id, bootBuiltins x = some (.type id) ∧ CallR X (.type id) (rF (cn X) g) := by
  unfold btTab at h
  split at h
  · rename_i e; cases h; rw [e]; exact ⟨"str", by decide +kernel, bi_str⟩
  split at h
  · rename_i e; cases h; rw [e]; exact ⟨"list", by decide +kernel, bi_list⟩
  split at h
  · rename_i e; cases h; rw [e]; exact ⟨"tuple", by decide +kernel, bi_tuple⟩
  · cases h
theorem rise_ok {x : Str} {args : List Expr} {e : Expr} (h : riseArg d x args = some e) : x = "sorted" ∧ noStar e = true ∧ isGI d "set" = true ∧ d.T.free "set" = true ∧ d.hot = false ∧ ∃ p pos, args = [.Call (.Name "set" p) [e] [] pos] := by
  unfold riseArg at h
  split at h
  · rename_i y p e' pos
    split at h
    · rename_i hh
      cases h
      simp only [Bool.and_eq_true, Bool.not_eq_true', decide_eq_true_eq] at hh
      obtain ⟨h1, h2, h3, h4, h5, h6⟩ := hh
      subst h1 h2
      exact ⟨rfl, h5, h3, h4, h6, p, pos, rfl⟩
    · cases h
  · cases h
/-- a call of one's own def -/
theorem call_def (c : CtxE X W k d) (h : ∀ e, PE X e (tE (cn X) W (R.e d e))) {x : Str} {p pos : Pos} {args : List Expr} {kws : List Keyword} {ks : List Str} {g : List U → List U → List U} (hn : nmOk x = true) (hg : Gl X x) (hs : args.all noStar = true) (hd : d.T.isDef x = true) (hh : d.hot = false) (hk : kwNames kws = some ks)
    (hp : d.T.plan (x, none) args.length ks = some g) : PE X (.Call (.Name x p) args kws pos) (tE (cn X) W (cCallK args.length ks.length (fun as bs m => d.T.call (x, none) (g as bs) m) (asOf (R.e d) args) (kwOf (R.e d) kws))) := by
  obtain ⟨f, fd, ps, h1, h2, F, hB⟩ := c.tab.def_ x hd
  exact mi_call (callW_fn c.tk F c.gd ((c.room hh).mono (Nat.le_succ _)) (hB _ _ _ hp)) hg h1 h2 (nmOk_1 hn) hs hk (as_ok h args hs) (fun e => as_nil e) (kw_ok' h kws)
theorem call_cls (c : CtxE X W k d) (h : ∀ e, PE X e (tE (cn X) W (R.e d e))) {x : Str} {p pos : Pos} {args : List Expr} {kws : List Keyword} {ks : List Str} {g : List U → List U → List U} (hn : nmOk x = true) (hg : Gl X x) (hs : args.all noStar = true) (hd : d.T.isCls x = true) (hh : d.hot = false) (hk : kwNames kws = some ks)
    (hp : d.T.plan (x, some "__init__") (args.length + 1) ks = some g) : PE X (.Call (.Name x p) args kws pos) (tE (cn X) W (cCallK args.length ks.length (makeF x (d.T.call (x, some "__init__")) g) (asOf (R.e d) args) (kwOf (R.e d) kws))) := by
  obtain ⟨C, f, fd, ps, h1, h2, F, hB⟩ := c.tab.cls x hd
  exact mi_call (callW_make c.tk h2 h1 F c.gd (c.room hh) (hB _ _ _ hp)) hg h1 h2.kp (nmOk_1 hn) hs hk (as_ok h args hs) (fun e => as_nil e) (kw_ok' h kws)
theorem and3 {a b e : Bool} (h : (a && b && e) = true) : a = true ∧ b = true ∧ e = true := b3 h
theorem call_ok (c : CtxE X W k d) (h : ∀ e, PE X e (tE (cn X) W (R.e d e))) (f : Expr) (args : List Expr) (kws : List Keyword) (pos : Pos) : PE X (.Call f args kws pos) (tE (cn X) W (callE R d f args kws pos)) := by
  cases f with
  | Name x p =>
    unfold callE
    dsimp only
    split
    · rename_i h0
      obtain ⟨hn, hgi, hs⟩ := and3 h0
      have hg := c.gl hgi
      split
      · rename_i hd
        split
        · exact pe_cBad
        · rename_i hh
          cases ek : kwNames kws with
          | none => exact pe_cBad
          | some ks =>
            dsimp only
            cases ep : d.T.plan (x, none) args.length ks with
            | none => exact pe_cBad
            | some g => exact call_def c h hn hg hs hd (Bool.not_eq_true _ ▸ hh) ek ep
      · split
        · rename_i hd
          split
          · exact pe_cBad
          · rename_i hh
            cases ek : kwNames kws with
            | none => exact pe_cBad
            | some ks =>
              dsimp only
              cases ep : d.T.plan (x, some "__init__") (args.length + 1) ks with
              | none => exact pe_cBad
              | some g => exact call_cls c h hn hg hs hd (Bool.not_eq_true _ ▸ hh) ek ep
        · split
          · rename_i hf
            have hm := c.tab.free _ hf
            cases kws with
            | cons _ _ => exact pe_cBad
            | nil =>
              cases args with
              | nil => exact pe_cBad
              | cons a as =>
                dsimp only
                cases e0 : riseArg d x (a :: as) with
                | some e =>
                  obtain ⟨rfl, r1, r2, r3, r4, p1, pos1, r5⟩ := rise_ok e0
                  rw [r5]
                  exact mi_rise (c.calm r4) r1 hg hm (c.gl r2) (c.tab.free _ r3) (h e)
                | none =>
                  dsimp only
                  cases e1 : biTab d x with
                  | some g =>
                    obtain ⟨id, hv, hc⟩ := biTab_ok c e1
                    exact mi_bi hc hg hm hv (nmOk_3 hn) (nmOk_1 hn) hs (as_ok h _ hs)
                  | none =>
                    dsimp only
                    cases e2 : btTab x with
                    | some g =>
                      obtain ⟨id, hv, hc⟩ := btTab_ok (X := X) e2
                      exact mi_bity hc hg hm hv (nmOk_3 hn) (nmOk_1 hn) hs (as_ok h _ hs)
                    | none => exact pe_cBad
          · exact pe_cBad
    · exact pe_cBad
  | Attribute o name apos =>
    unfold callE
    dsimp only
    split
    · rename_i h0
      simp only [Bool.and_eq_true, Bool.not_eq_true'] at h0
      obtain ⟨⟨⟨⟨hb, hl⟩, hs⟩, hn⟩, hh⟩ := h0
      cases ek : kwNames kws with
      | none => exact pe_cBad
      | some ks => exact mi_meth c.tab c.gd ((c.room hh).mono (Nat.le_succ _)) c.tk (base_ok hb) hl hs ek hn (h o) (as_ok h args hs) (fun e => as_nil e) (kw_ok' h kws)
    · exact pe_cBad
  | _ => exact pe_cBad
/-! ### what is walked -/
theorem folded_ok {e : Expr} {env : Env} (h : noSet e = true) : ∀ x, foldedSetIterable e env x = pure x := by
  intro x
  unfold foldedSetIterable
  cases e <;> first | rfl | cases h
theorem it_ok (c : CtxE X W k d) (h : ∀ e, PE X e (tE (cn X) W (R.e d e))) (tg iter : Expr) : PI X tg iter (tIt (cn X) W (iE R d tg iter)) := by
  have dflt : ∀ e : Expr, PI X tg e (tIt (cn X) W (cIt (R.e d e))) := fun e => pi_val (h e)
  unfold iE
  split
  · rename_i x p args pos
    split
    · rename_i h0
      obtain ⟨hgi, hf, hs⟩ := and3 h0
      have hg := c.gl hgi
      have hm := c.tab.free _ hf
      split
      · rename_i e
        subst e
        cases args with
        | nil => exact pi_bad
        | cons a as => cases as with
          | nil => exact pi_rng1 (by simpa using hs) hg hm (as_ok h _ hs)
          | cons b bs => cases bs with
            | nil =>
              have hs' : noStar a = true ∧ noStar b = true := by simpa using hs
              exact pi_rng2 hs'.1 hs'.2 hg hm (as_ok h _ hs)
            | cons _ _ => exact pi_bad
      · split
        · rename_i e
          subst e
          cases args with
          | nil => exact pi_bad
          | cons a as => cases as with
            | nil =>
              cases tg with
              | Tuple es kk tp => exact pi_enumU (by simpa using hs) hg hm (as_ok h _ hs)
              | _ => exact pi_bad
            | cons _ _ => exact pi_bad
        · exact dflt _
    · exact dflt _
  · exact dflt _
/-! ### comprehensions -/
theorem CtxE.blk (c : CtxE X W k d) {scope : Scope} (ok : BlkOk d.N d.sc scope (ownOf d.N scope.names)) (s : Shared) (H : Hp) (C : Addr) (cl : List (Str × Addr)) (fp : List Addr) : CtxE (X.blk s H scope (compEnvC scope cl C X.env) fp) W0 k (d.blk scope) where
  sc := by
    show relabel scope X.env = relS scope d.sc
    rw [← c.sc]
    rfl
  N := c.N
  nd := c.nd
  tk := takes_none5
  un := c.un
  room := c.room
  calm := c.calm
  fn := fun x hx => by
    unfold okSt at hx
    have es : (compEnvC scope cl C X.env).scope = (d.blk scope).sc := by
      show relabel scope X.env = relS scope d.sc
      rw [← c.sc]
      rfl
    show (scope.names.lookup x == some .cell) = true ∨ (compEnvC scope cl C X.env).scope.names.lookup x = some .local
    rw [es]
    cases e : (d.blk scope).sc.names.lookup x with
    | none =>
      rw [e] at hx
      cases hx
    | some kd =>
      rw [e] at hx
      cases kd with
      | «local» => exact .inr rfl
      | cell =>
        refine .inl ?_
        have hx' : (match scope.names.lookup x with
          | some .cell => true
          | _ => false) = true := hx
        cases e2 : scope.names.lookup x with
        | none =>
          rw [e2] at hx'
          cases hx'
        | some k2 =>
          rw [e2] at hx'
          cases k2 <;> first | rfl | cases hx'
      | _ => cases hx
  kind := ok.kind
  gd := c.gd
  tab := c.tab
theorem lc_pre {R : DenR} {d : DC} {tg iter : Expr} {scope : Scope} {a : Int} (h : (decide (a = 0) && blkC d.N d.sc scope (ownOf d.N scope.names) && ((R.l (d.blk scope) tg).all fun i => decide (i ∈ (ownOf d.N scope.names).map (·.2))) && noSet iter && !d.hot) = true) :
    a = 0 ∧ BlkOk d.N d.sc scope (ownOf d.N scope.names) ∧ (∀ i ∈ R.l (d.blk scope) tg, i ∈ (ownOf d.N scope.names).map (·.2)) ∧ noSet iter = true ∧ d.hot = false := by
  simp only [Bool.and_eq_true, Bool.not_eq_true', decide_eq_true_eq, List.all_eq_true] at h
  exact ⟨h.1.1.1.1, blkOk_by h.1.1.1.2, h.1.1.2, h.1.2, h.2⟩
theorem lc_ok (S : Snd R) (c : CtxE X W k d) (elt : Expr) (gens : List Comprehension) (scope : Scope) (pos : Pos) : PE X (.ListComp elt gens scope pos) (tE (cn X) W (lcE R d elt gens scope pos)) := by
  unfold lcE
  split
  · rename_i tg iter ifs a
    split
    · rename_i h0
      obtain ⟨rfl, bo, hL, hns, hh⟩ := lc_pre h0
      have bo' : BlkOk X.N X.env.scope scope (ownOf d.N scope.names) := by rw [c.N, c.sc]; exact bo
      have hi := it_ok c (S.e c) tg iter
      have g := fun (s : Shared) (H : Hp) (C : Addr) (cl : List (Str × Addr)) (fp : List Addr) => S.g (c.blk bo s H C cl fp) tg
      have ee := fun (s : Shared) (H : Hp) (C : Addr) (cl : List (Str × Addr)) (fp : List Addr) => S.e (c.blk bo s H C cl fp) elt
      cases ifs with
      | nil => exact mi_lc (c.calm hh) c.nd hL hi bo' g (fun _ _ _ _ _ => mpts_nil) ee (folded_ok hns)
      | cons q ifs => cases ifs with
        | nil => exact mi_lc (c.calm hh) c.nd hL hi bo' g (fun s H C cl fp => pts_one (S.t (c.blk bo s H C cl fp) q)) ee (folded_ok hns)
        | cons _ _ => exact pe_cBad
    · exact pe_cBad
  · exact pe_cBad
theorem setlc_ok (S : Snd R) (c : CtxE X W k d) {y : Str} {py spos : Pos} {i : Nat} (hy : ixOf d.N y = some i) (elt : Expr) (gens : List Comprehension) (scope : Scope) (pos : Pos) (hsw : swB d y py pos scope = true) :
    PS X (.Assign [.Name y py] (.ListComp elt gens scope pos) spos) (tS (cn X) W (sAsg (lcE R d elt gens scope pos) (gName i))) := by
  have bad : ∀ e : Expr, PS X (.Assign [.Name y py] e spos) (tS (cn X) W (sAsg cBad (gName i))) := fun e => PS.bad fun D s H ⟨r, m, t, C, E, kk⟩ => kk
  unfold swB at hsw
  simp only [Bool.and_eq_true, Bool.not_eq_true'] at hsw
  obtain ⟨⟨s1, s2⟩, s3⟩ := hsw
  have hl : X.env.scope.names.lookup y = some .local := by rw [c.sc]; exact eq_of_beq s1
  unfold lcE
  split
  · rename_i tg iter ifs a
    split
    · rename_i h0
      obtain ⟨rfl, bo, hL, hns, hh⟩ := lc_pre h0
      have bo' : BlkOk X.N X.env.scope scope (ownOf d.N scope.names) := by rw [c.N, c.sc]; exact bo
      have hi := it_ok c (S.e c) tg iter
      have g := fun (s : Shared) (H : Hp) (C : Addr) (cl : List (Str × Addr)) (fp : List Addr) => S.g (c.blk bo s H C cl fp) tg
      have ee := fun (s : Shared) (H : Hp) (C : Addr) (cl : List (Str × Addr)) (fp : List Addr) => S.e (c.blk bo s H C cl fp) elt
      cases ifs with
      | nil => exact ms_setLc (c.calm hh) c.nd (c.ix hy) hl (sw_true c.kind hl s2 s3) hL hi bo' g (fun _ _ _ _ _ => mpts_nil) ee (folded_ok hns)
      | cons q ifs => cases ifs with
        | nil => exact ms_setLc (c.calm hh) c.nd (c.ix hy) hl (sw_true c.kind hl s2 s3) hL hi bo' g (fun s H C cl fp => pts_one (S.t (c.blk bo s H C cl fp) q)) ee (folded_ok hns)
        | cons _ _ => exact bad _
    · exact bad _
  · exact bad _
theorem rev_ok {ix : Expr} (h : revIx ix = true) : ∃ k p1 p2 p3, ix = .Slice none none (some (.UnaryOp .USub (.Constant (.int 1) k p1) p2)) p3 := by
  unfold revIx at h
  split at h
  · exact ⟨_, _, _, _, rfl⟩
  · cases h
theorem sub_ok (c : CtxE X W k d) (h : ∀ e, PE X e (tE (cn X) W (R.e d e))) (e ix : Expr) (pos : Pos) : PE X (.Subscript e ix pos) (tE (cn X) W (subE R d e ix)) := by
  unfold subE
  split
  · rename_i hr
    obtain ⟨k1, p1, p2, p3, rfl⟩ := rev_ok hr
    exact mi_rev2 (h e)
  · have po : ∀ o : Option Expr, POk X W o (optE (R.e d) o) := fun o => by
      cases o with
      | none => exact po_none'
      | some e => exact po_some' (h e)
    have hu : X.A.units + 1 < cLine := by have := c.un; omega
    cases ix with
    | Slice lo hi st p =>
      cases st with
      | none => exact mi_slice (h e) (po lo) (po hi)
      | some _ => exact pe_cBad
    | _ => exact mi_idx hu rfl (h e) (h _)
theorem CtxE.w0 (c : CtxE X W k d) : CtxE X W0 k d := { c with tk := takes_none5 }
theorem pairsE_ok {f : Expr → E1} (h : ∀ e, PE X e (tE (cn X) W0 (f e))) (pos : Pos) : ∀ {keys : List (Option Expr)} {vals : List Expr} {l : List (E1 × E1)}, pairsE f keys vals = some l →
    PPs X pos keys vals (l.map fun p => (tE (cn X) W0 p.1, tE (cn X) W0 p.2)) ∧ keys.all (·.isSome) = true ∧ keys.length = vals.length ∧ l.length = keys.length
  | [], [], l, e => by cases e; exact ⟨pps_nil, rfl, rfl, rfl⟩
  | [], _ :: _, l, e => by cases e
  | some k :: ks, [], l, e => by cases e
  | none :: ks, _, l, e => by cases e
  | some k :: ks, v :: vs, l, e => by
    unfold pairsE at e
    rw [Option.map_eq_some_iff] at e
    obtain ⟨l', e1, rfl⟩ := e
    obtain ⟨h1, h2, h3, h4⟩ := pairsE_ok h pos e1
    exact ⟨pps_cons (h k) (h v) h1, h2, congrArg (· + 1) h3, congrArg (· + 1) h4⟩
theorem dict_ok (S : Snd R) (c : CtxE X W k d) (keys : List (Option Expr)) (vals : List Expr) (pos : Pos) : PE X (.Dict keys vals pos) (tE (cn X) W (dictE R d keys vals pos)) := by
  unfold dictE
  split
  · split
    · exact mi_dic
    · exact mi_dic0
  · exact pe_cBad
  · split
    · rename_i hl
      cases e : pairsE (R.e d) _ _ with
      | none => exact pe_cBad
      | some l =>
        obtain ⟨h1, h2, h3, h4⟩ := pairsE_ok (S.e c.w0) pos e
        have hl := of_decide_eq_true hl
        exact mi_dict h1 h2 h3 (fun z => nomatch z) hl (by rw [h4]; exact hl)
    · exact pe_cBad
theorem stepE_ok (S : Snd R) (c : CtxE X W k d) (e : Expr) : PE X e (tE (cn X) W (stepE R d e)) := by
  have h := S.e c
  unfold stepE
  split
  · exact con_ok c _ _ _
  · exact name_ok c _ _
  · rename_i a op b pos
    cases eo : opU op with
    | none => exact pe_cBad
    | some g => exact mi_bin (opU_ok eo) (h a) (h b)
  · exact mi_notV (h _)
  · exact mi_un un_negU (h _)
  · exact v_ok h _ _ _
  · exact cmp_ok c h _ _ _ _
  · exact mi_if (S.t c _) (h _) (h _)
  · split
    · rename_i hs
      exact mi_tup (as_ok h _ hs)
    · exact pe_cBad
  · split
    · rename_i hs
      split
      · exact mi_lst (as_ok h _ hs)
      · exact mi_fl (as_ok h _ hs)
    · exact pe_cBad
  · exact dict_ok S c _ _ _
  · exact sub_ok c h _ _ _
  · split
    · rename_i hb
      exact mi_fld c.tab (h _) (base_ok hb)
    · exact pe_cBad
  · exact call_ok c h _ _ _ _
  · exact lc_ok S c _ _ _ _
  · exact pe_cBad
theorem plainT_ok {e : Expr} (h : plainT e = true) (env : Env) : ∀ whole, isTrue e env whole = (do let v ← whole; standAt e.pos; holding [v] (truthy v)) := by
  cases e <;> first | (intro _; rfl) | cases h
theorem stepT_ok (S : Snd R) (c : CtxE X W k d) (e : Expr) : PT X e (tTs (cn X) W (stepT R d e)) := by
  have h := S.e c
  unfold stepT
  split
  · exact mi_not (S.t c _)
  · exact (w_ok (S.t c) _ _ _).pt
  · exact cmpT_ok c h _ _ _ _
  · split
    · rename_i hp
      exact mi_truth (h _) (plainT_ok hp _)
    · exact pt_cBad
theorem gs_ok (h : ∀ e, PG X e (tGt (cn X) (R.l d e) (R.g d e))) : ∀ es : List Expr, es.all noStar = true → PGs X es (tGts (cn X) (es.flatMap (R.l d)) (es.map (R.g d)))
  | [], _ => mgs_nil
  | e :: es, hs => by
    rw [List.all_cons, Bool.and_eq_true] at hs
    exact mgs_cons hs.1 (h e) (gs_ok h es hs.2)
theorem loc_ok (c : CtxE X W k d) {x : Str} (h : okSt d x = true) : Loc X.env.scope x := by
  unfold okSt at h
  show X.env.scope.names.lookup x = some .local ∨ X.env.scope.names.lookup x = some .cell
  rw [c.sc]
  cases e : d.sc.names.lookup x with
  | none =>
    rw [e] at h
    cases h
  | some kd =>
    rw [e] at h
    cases kd with
    | «local» => exact .inl rfl
    | cell => exact .inr rfl
    | _ => cases h
theorem stepG_ok (S : Snd R) (c : CtxE X W k d) (e : Expr) : PG X e (tGt (cn X) (stepL R d e) (stepG R d e)) := by
  have h := S.e c
  unfold stepG
  split
  · rename_i x pos
    cases ei : ixOf d.N x with
    | none => exact pg_gBad
    | some i =>
      dsimp only
      split
      · rename_i hs
        show PG X _ (tGt (cn X) (match ixOf d.N x with
          | some i => [i]
          | none => []) _)
        rw [ei]
        exact mg_name c.nd (c.ix ei) (loc_ok c hs) (c.fn x hs)
      · exact pg_gBad
  · rename_i es kk pos
    split
    · rename_i hs
      simp only [Bool.and_eq_true, Bool.not_eq_true'] at hs
      have eu : es.map unStar = es := by
        have hs2 := hs.2
        clear hs
        induction es with
        | nil => rfl
        | cons x r ih =>
          rw [List.all_cons, Bool.and_eq_true] at hs2
          rw [List.map_cons, ih hs2.2]
          congr 1
          cases x <;> first | rfl | (exact nomatch (show false = true from hs2.1))
      show PG X _ (tGt (cn X) ((es.map unStar).flatMap (R.l d)) _)
      rw [eu]
      exact mg_tup (c.calm hs.1) hs.2 (gs_ok (S.g c) es hs.2) (by rw [List.length_map])
    · cases es0 : starAt es with
      | none => exact pg_gBad
      | some i =>
        dsimp only
        split
        · rename_i hs
          simp only [Bool.and_eq_true, Bool.not_eq_true'] at hs
          exact mg_star (c.calm hs.1) es0 hs.2 (gs_ok (S.g c) (es.map unStar) hs.2) (by rw [List.length_map, List.length_map])
        · exact pg_gBad
  · split
    · rename_i hs
      exact mg_sub (by have := c.un; omega) (h _) (h _) hs
    · exact pg_gBad
  · exact mg_fld c.tab (h _)
  · exact pg_gBad
end
end Mi
/-! Mi, part S: the interpreter tells what the model does: statements; all of it. -/
namespace Mi
open PySem PySem.Spec PyProof.Rows L2
set_option linter.unusedVariables false
section
variable {X : Cx} {W : WX} {k : Nat} {d : DC} {R : DenR}
theorem ps_sBad {st : Stmt} : PS X st (tS (cn X) W sBad) := PS.bad fun D s H ⟨r, m, t, C, E, kk⟩ => kk
theorem b_ok {f : Stmt → S1} (h : ∀ st, PS X st (tS (cn X) W (f st))) : ∀ l : List Stmt, PSs X l (tS (cn X) W (bOf f l))
  | [] => ms_nx
  | st :: r => ms_cons (h st) (b_ok h r)
theorem swaps_false {e : Expr} {tg : Option Expr} {l : Nat} {env : Env} (h : isComp e = false) : swapsWith e tg l env = pure false := by
  unfold swapsWith
  cases e <;> first | rfl | cases h
theorem swaps_other {e tg : Expr} {l : Nat} {env : Env} (h : ∀ y p, tg ≠ .Name y p) : swapsWith e (some tg) l env = pure false := by
  unfold swapsWith
  cases e <;> first | rfl | (cases tg <;> first | rfl | exact absurd rfl (h _ _))
theorem swaps_name (c : CtxE X W k d) {elt : Expr} {gens : List Comprehension} {scope : Scope} {pos py : Pos} {y : Str} {l : Nat} (h : swB d y py pos scope = false) : swapsWith (.ListComp elt gens scope pos) (some (.Name y py)) l X.env = pure false := by
  unfold swapsWith
  dsimp only
  have hb : X.env.blockKind = .function := by unfold Env.blockKind; rw [c.kind]; rfl
  unfold swB at h
  have hk : X.env.kindOf y = d.sc.names.lookup y := by rw [← c.sc]; rfl
  rw [hb, hk]
  have h2 : ((ScopeKind.function == ScopeKind.function) && d.sc.names.lookup y == some .local && py.line == (Expr.ListComp elt gens scope pos).pos.line && !(scope.names.any fun (n, k) => n == y && (k == .local || k == .cell))) = false := by
    rw [show (ScopeKind.function == ScopeKind.function) = true from rfl, Bool.true_and]
    exact h
  exact congrArg pure h2
theorem noSwap_ok {tg e : Expr} {env : Env} (h : noSwap tg e = true) : swappedStores [tg] e env = pure none := by
  unfold swappedStores
  cases tg <;> first | rfl | (cases e <;> first | rfl | cases h)
theorem sole_ok {tg : Expr} {env : Env} (h : noStar tg = true) : (assignEach [tg] env).map (·.2) = [assign tg env] := by
  rw [each_cons h]
  rfl
theorem asg_ok (S : Snd R) (c : CtxE X W k d) (tg e : Expr) (pos : Pos) : PS X (.Assign [tg] e pos) (tS (cn X) W (asgS R d tg e)) := by
  have gen : noStar tg = true → noSwap tg e = true → swapsWith e (some tg) pos.line X.env = pure false → PS X (.Assign [tg] e pos) (tS (cn X) W (sAsg (R.e d e) (R.g d tg))) := fun h1 h2 hs =>
    ms_asg (S.e c e) (S.g c tg) hs (noSwap_ok h2) (sole_ok h1)
  unfold asgS
  split
  · rename_i y py elt gens scope lp
    split
    · rename_i hw
      cases ei : ixOf d.N y with
      | none => exact ps_sBad
      | some i => exact setlc_ok S c ei elt gens scope lp hw
    · rename_i hw
      exact gen rfl rfl (swaps_name c (Bool.not_eq_true _ ▸ hw))
  · rename_i hne
    split
    · rename_i hh
      obtain ⟨h1, h2, h3⟩ := and3 hh
      refine gen h1 h2 ?_
      by_cases hn : ∃ y p, tg = .Name y p
      · obtain ⟨y, p, rfl⟩ := hn
        cases e with
        | ListComp elt gens scope lp => exact absurd rfl (hne y p elt gens scope lp rfl)
        | SetComp _ _ _ _ => cases h3
        | DictComp _ _ _ _ _ => cases h3
        | _ => exact swaps_false rfl
      · exact swaps_other fun y p ey => hn ⟨y, p, ey⟩
    · exact ps_sBad
theorem raise_ok (c : CtxE X W k d) (e : Expr) (pos : Pos) : PS X (.Raise (some e) none pos) (tS (cn X) W (raiseS d e)) := by
  unfold raiseS
  split
  · split
    · rename_i hh
      simp only [Bool.and_eq_true, Bool.not_eq_true'] at hh
      obtain ⟨⟨⟨h1, h2⟩, h3⟩, h4⟩ := hh
      exact ms_raise c.tab (c.calm h1) c.tk h2 (c.gl h3) (nmOk_1 h4)
    · exact ps_sBad
  · exact ps_sBad
/-- the body of a try -/
theorem CtxS.tr (c : CtxS X W k d) {W' : WX} {pn : List (Addr × Obj)} {xe : Value → Shared → Prop} (tk : Takes (X.tr pn xe) W') (hp : PassesOwn (model X.prog X.w) X.A X.env xe) : CtxS (X.tr pn xe) W' k d where
  sc := c.sc
  N := c.N
  nd := c.nd
  tk := tk
  un := c.un
  room := c.room
  calm := c.calm
  fn := c.fn
  kind := c.kind
  gd := c.gd
  tab := c.tab
  ex := c.ex
  stk := c.stk
  fr := c.fr
  pass := hp
/-- an except suite -/
theorem CtxS.suite (c : CtxS X W k d) (a : Addr) (pn : List (Addr × Obj)) : CtxS (X.suite a pn) W0 k { d with hot := true } where
  sc := c.sc
  N := c.N
  nd := c.nd
  tk := takes_none5
  un := c.un
  room := fun h => (nomatch h)
  calm := fun h => (nomatch h)
  fn := c.fn
  kind := c.kind
  gd := c.gd
  tab := c.tab
  ex := c.ex
  stk := c.stk
  fr := c.fr
  pass := PassesOwn.never
theorem hd_ok (S : Snd R) (c : CtxS X W k d) : ∀ {hs : List ExceptHandler} {l : List Hd}, hdOf R d hs = some l → HdM X hs l ∧ HdK X l
  | [], l, h => by
    cases h
    exact ⟨.nil, fun _ hh => (nomatch hh)⟩
  | h0 :: r, l, h => by
    unfold hdOf at h
    cases e1 : hd1 R d h0 with
    | none =>
      rw [e1] at h
      cases h
    | some a =>
      rw [e1] at h
      cases e2 : hdOf R d r with
      | none =>
        rw [e2] at h
        cases h
      | some l' =>
        rw [e2] at h
        cases h
        obtain ⟨h1, h2⟩ := hd_ok S c e2
        have key : ∀ {x : Str} (y : Hd), y.cls = x → d.T.glo x = true → HdK X (y :: l') := fun {x} y hy hgl h hh => by
          rcases List.mem_cons.mp hh with rfl | hh
          · rw [hy]
            exact c.tab.glo _ hgl
          · exact h2 h hh
        unfold hd1 at e1
        split at e1
        · rename_i x np on b suite p'
          split at e1
          · rename_i h0
            obtain ⟨hn, hg, hgl⟩ := and3 h0
            cases on with
            | none =>
              cases e1
              exact ⟨.cons (c.gl hg) (nmOk_1 hn) (fun a pn => b_ok (S.s (c.suite a pn)) (b :: suite)) h1, key _ rfl hgl⟩
            | some n =>
              dsimp only at e1
              split at e1
              · rename_i i ei el
                cases e1
                exact ⟨.named (c.gl hg) (nmOk_1 hn) c.nd (c.ix ei) (show X.env.scope.names.lookup n = some .local by rw [c.sc]; exact el) (fun a pn => b_ok (S.s (c.suite a pn)) (b :: suite)) h1, key _ rfl hgl⟩
              · cases e1
          · cases e1
        · cases e1
theorem aug_ok (S : Snd R) (c : CtxE X W k d) (op : Operator) (tg e : Expr) (pos : Pos) : PS X (.AugAssign tg op e pos) (tS (cn X) W (augS R d op tg e)) := by
  unfold augS
  cases ep : augI op with
  | none => exact ps_sBad
  | some p =>
    dsimp only
    split
    · rename_i x xp
      cases ei : ixOf d.N x with
      | none => exact ps_sBad
      | some i =>
        dsimp only
        split
        · rename_i hs
          exact ms_aug c.nd (c.ix ei) (loc_ok c hs) (c.fn x hs) ep (S.e c e)
        · exact ps_sBad
    · exact ms_augF c.tab ep (S.e c _) (S.e c e)
    · split
      · rename_i hs
        exact ms_augD (by have := c.un; omega) hs ep (S.e c _) (S.e c _) (S.e c e)
      · exact ps_sBad
    · exact ps_sBad
theorem stepS_ok (S : Snd R) (c : CtxS X W k d) (st : Stmt) : PS X st (tS (cn X) W (stepS R d st)) := by
  have h := S.e c.toCtxE
  unfold stepS
  split
  · rename_i e pos
    split
    · exact ps_sBad
    · rename_i hc
      exact ms_drop (h e) (swaps_false (Bool.not_eq_true _ ▸ hc))
  · exact asg_ok S c.toCtxE _ _ _
  · exact aug_ok S c.toCtxE _ _ _ _
  · exact ms_retN
  · exact ms_ret (h _)
  · exact ms_if (S.t c.toCtxE _) (b_ok (S.s c) _) (b_ok (S.s c) _)
  · split
    · rename_i hh
      simp only [Bool.and_eq_true, Bool.not_eq_true'] at hh
      exact ms_for c.pass (c.calm hh.1) (it_ok c.toCtxE h _ _) (S.g c.toCtxE _) (b_ok (S.s c) _) (folded_ok hh.2)
    · exact ps_sBad
  · split
    · exact ps_sBad
    · exact ms_while c.pass (S.t c.toCtxE _) (b_ok (S.s c) _)
  · exact ms_pass
  · exact ms_break
  · exact ms_cont
  · exact raise_ok c.toCtxE _ _
  · split
    · exact ps_sBad
    · rename_i hh
      split
      · rename_i l el
        obtain ⟨h1, h2⟩ := hd_ok S c el
        exact ms_try c.tab c.ex c.stk c.fr c.tk (fun W' pn xe tk hp => b_ok (S.s (c.tr tk hp)) _) h1 h2
      · exact ps_sBad
  · exact ps_sBad
end
theorem snd_bad : Snd denBad where
  e := fun _ _ => pe_cBad
  t := fun _ _ => pt_cBad
  g := fun _ _ => pg_gBad
  s := fun _ _ => ps_sBad
theorem snd_step {R : DenR} (S : Snd R) : Snd (stepR R) where
  e := fun c e => stepE_ok S c e
  t := fun c e => stepT_ok S c e
  g := fun c e => stepG_ok S c e
  s := fun c st => stepS_ok S c st
theorem snd : ∀ n, Snd (den n)
  | 0 => snd_bad
  | n + 1 => snd_step (snd n)
end Mi
/-! Mi, part T: defs; what they promise at each depth; a law's end. -/
namespace Mi
open PySem PySem.Spec PyProof.Rows L2
set_option linter.unusedVariables false
/-- a def: its datum, its parameters, its slots -/
structure De where
  d : He.DefD
  ps : List Str
  N : List Str
/-- what stands behind the top, by names -/
structure Sta where
  df : FKey → Option De
  plan : FKey → Nat → List Str → Option (List U → List U → List U)
  isDef : Str → Bool
  isCls : Str → Bool
  meth : Str → Str → Bool
  fld : Str → Str → Bool
  con : Str → Option U
  glo : Str → Bool
  free : Str → Bool
  exc : Str → Bool
  sub : Str → Str → Option Bool
  isa : Str → U → Option Bool
  fuel : Nat
  heapAt : Pos → Bool
def Sta.tab (S : Sta) (call : FKey → List U → MH → Out U) : Tab where
  call := call
  plan := S.plan
  isDef := S.isDef
  isCls := S.isCls
  meth := S.meth
  fld := S.fld
  con := S.con
  glo := S.glo
  free := S.free
  exc := S.exc
  sub := S.sub
  isa := S.isa
  fuel := S.fuel
  heapAt := S.heapAt
def startU (N : List Str) (us : List U) : Env1 := us.map some ++ List.replicate (N.length - us.length) none
def endO : SO → Out U
  | .nx _ m => .ok .non m
  | .rt u m => .ok u m
  | .err x _ m => .err x m
  | _ => .bad
def dcOf (T : Tab) (f : De) : DC := ⟨T, f.N, f.d.scope, none, false⟩
/-- the code's nesting is below this -/
def deep : Nat := 40
def bodyU (T : Tab) (f : De) : S1 := bOf ((den deep).s (dcOf T f)) f.d.body
def runDf (T : Tab) (f : De) (us : List U) (m : MH) : Out U := if us.length = f.ps.length then endO (bodyU T f (startU f.N us) m) else .bad
def callN (S : Sta) : Nat → FKey → List U → MH → Out U
  | 0 => fun _ _ _ => .bad
  | n + 1 => fun key us m => match S.df key with
    | none => .bad
    | some f => runDf (S.tab (callN S n)) f us m
section
variable {P : Program} {w : World} {K : PySem.W.Frag} {mg : Str → Option Value} {base : Heap}
theorem start_ok {c : Cn} {r : Gh} {H : Hp} {N : List Str} : ∀ {us : List U} {vs : List V}, RUs c r H us vs → EnvR c r H (startU N us) (L2.start N vs) := by
  intro us vs h
  have hl := h.length
  refine ⟨?_, fun i u hi => ?_⟩
  · unfold startU L2.start
    rw [List.length_append, List.length_append, List.length_map, List.length_map, hl, List.length_replicate, List.length_replicate]
  · unfold startU at hi
    by_cases hlt : i < us.length
    · rw [List.getElem?_append_left (by rw [List.length_map]; exact hlt), List.getElem?_map] at hi
      cases e : us[i]? with
      | none =>
        rw [e] at hi
        cases hi
      | some u' =>
        rw [e] at hi
        cases hi
        obtain ⟨x, h1, h2⟩ := h.get e
        refine ⟨x, ?_, h2⟩
        unfold L2.start
        rw [List.getElem?_append_left (by rw [List.length_map, ← hl]; exact hlt), List.getElem?_map, h1]
        rfl
    · rw [List.getElem?_append_right (by rw [List.length_map]; omega)] at hi
      rw [List.getElem?_replicate] at hi
      split at hi <;> cases hi
/-- a def by its body's walk, where no repr is under way -/
theorem fn_ofG {x qual : Str} {params : Arguments} {body : List Stmt} {scope : Scope} {dvs : List V} {kws : List (Str × V)} {f : Addr} {fd : FuncData} {N ps : List Str} {k : Nat} {sp : Sp}
    (F : FunD K x qual params body scope dvs kws f fd) (S : FnScope N ps scope) (len : ∀ vs H Q E, sp vs H Q E → vs.length = ps.length)
    (go : ∀ (cdv : Value) (A : Around) (o : List Env) (s : Shared) (H : Hp) (vs : List V) (Q : VK) (E : XK), A.guards = some [] → Room k (A.deeper (envOfC qual scope s.heap.objs.size f cdv)) → sp vs H Q E →
      ∃ t, PSs (cxOf (L2.CX P w) P w K mg base N qual scope f cdv A o s H E) body t ∧ t { nx := fun _ H' => Q .non H', rt := Q } (L2.start N vs) H) : FnG P w K mg base (k + 1) f fd ps sp := by
  obtain ⟨oc, od, dV, kV, doc, pm, an, cdv, ct, osl, rfl, look, code, _, _⟩ := F.ex
  refine ⟨len, fun A o s H args us vs Q E gd rm ev bd rel hs => ?_⟩
  have kin : K.In s.heap := ev.mod.kin.keeps fun b z e => (ev.bs b z e).1
  have lims : s.heap.NoLimit := ev.mod.nolimit.keeps fun b z e => (ev.bs b z e).1
  have kinds : ∀ y ∈ ps.zip us, scope.names.lookup y.1 = some .local ∨ (scope.names.lookup y.1 = some .cell ∧ ((cellsFrom (s.heap.objs.size + 1) scope.names []).lookup y.1).isSome = true) := by
    rintro ⟨n, v⟩ hy
    rcases S.par n (List.of_mem_zip hy).1 with q | q
    · exact Or.inl q
    · exact Or.inr ⟨q, PySem.W.cellsFrom_some _ _ _ (Or.inl q)⟩
  refine codeAny_call_function (Room.depth rm) (kin _ _ look) rfl S.co S.gen rfl (PySem.W.codeRec_of kin code) (bd _ _ _ _ (wpAny_newFunctionEnv_cells S.kind kinds fun env he s1 ic => ?_))
  cases he
  refine ⟨lims.keeps ic.toInCall.keep, codeAny_func ?_⟩
  obtain ⟨t, ht, hq⟩ := go cdv A o s H vs Q E gd (rm.deeper _) hs
  have I0 := inv_start (CX := L2.CX P w) (E := E) S rm.hd ev (len _ _ _ _ hs) rel ic
  refine wpAny_mono (ht.run [] s1 (L2.start N vs) H _ I0 hq) (fun fl s2 hf => ?_) fun e s2 hf => hf
  cases fl with
  | ret u =>
    obtain ⟨v, σ2, H2, J, rv, q⟩ := hf
    exact ⟨v, H2, J.os, J.bare, J.base, J.hok, rv, q⟩
  | next =>
    obtain ⟨σ2, H2, J, q⟩ := hf
    exact ⟨V.non, H2, J.os, J.bare, J.base, J.hok, rfl, q⟩
  | brk =>
    obtain ⟨_, _, _, q⟩ := hf
    exact False.elim q
  | cont =>
    obtain ⟨_, _, _, q⟩ := hf
    exact False.elim q
theorem fn_den {n : Nat} {k : Nat} {f : De} {T : Tab} {dvs : List V} {kws : List (Str × V)} {fa : Addr} {fd : FuncData} (F : FunD K f.d.name f.d.qual f.d.params f.d.body f.d.scope dvs kws fa fd) (Sc : FnScope f.N f.ps f.d.scope) (tab : TabOk T P w K mg base k) :
    FnG P w K mg base (k + 2) fa fd f.ps (spU ⟨K, mg⟩ f.ps.length (runDf T f)) := by
  refine fn_ofG F Sc (fun vs H Q E h => spU_len h) (fun cdv A outer s H vs Q E gd hr h => ?_)
  have ctx : CtxS (cxOf (L2.CX P w) P w K mg base f.N f.d.qual f.d.scope fa cdv A outer s H E) (fun cls d _ H => E cls d H) k (dcOf T f) :=
    { sc := rfl
      N := rfl
      nd := Sc.nd
      tk := takes_of rfl rfl rfl rfl
      un := by
        have := hr.un
        show (A.deeper _).units + 65 < cLine
        omega
      room := fun _ => hr
      calm := fun _ => rfl
      fn := fun _ _ => .inl rfl
      kind := Sc.kind
      gd := gd
      tab := tab
      ex := rfl
      stk := rfl
      fr := rfl
      pass := passes_of rfl }
  refine ⟨_, b_ok ((snd deep).s ctx) f.d.body, ?_⟩
  obtain ⟨r, m, us, C, rs, hl, kk⟩ := h
  refine ⟨r, m, startU f.N us, C, start_ok rs, ?_⟩
  unfold runDf at kk
  rw [if_pos hl] at kk
  show kS _ _ r H _ (bodyU T f (startU f.N us) m)
  cases e : bodyU T f (startU f.N us) m with
  | nx t' m' =>
    rw [e] at kk
    exact fun r' H' s' ex C' E' => kk r' H' .non ex C' .non
  | rt u m' =>
    rw [e] at kk
    exact kk
  | bk t' m' =>
    rw [e] at kk
    exact kk.elim
  | ct t' m' =>
    rw [e] at kk
    exact kk.elim
  | err x t' m' =>
    rw [e] at kk
    exact fun r' H' s' cls d ex C' E' xr => kk r' H' cls d ex C' xr
  | bad =>
    rw [e] at kk
    exact kk
/-- a def stands where it should, binds as it should -/
def FnFact (S : Sta) (K : PySem.W.Frag) (mg : Str → Option Value) (key : FKey) (f : Addr) : Prop :=
  ∃ (e : De) (fd : FuncData), S.df key = some e ∧ FunD K e.d.name e.d.qual e.d.params e.d.body e.d.scope (e.d.dvs K) (e.d.kws K) f fd ∧ FnScope e.N e.ps e.d.scope ∧ ∀ n ks g, S.plan key n ks = some g → BindU ⟨K, mg⟩ fd e.ps n ks g
structure StaOk (S : Sta) (K : PySem.W.Frag) (mg : Str → Option Value) : Prop where
  sm : ∃ o, K.lookup sysModules = some o ∧ o.cls = .type "dict"
  def_ : ∀ x, S.isDef x = true → ∃ f, mg x = some (.ref f) ∧ PySem.W.keepIn K (.ref f) = true ∧ FnFact S K mg (x, none) f
  cls : ∀ x, S.isCls x = true → ∃ C f, mg x = some (.ref C) ∧ Mk K C f ∧ FnFact S K mg (x, some "__init__") f
  meth : ∀ x m, S.meth x m = true → ∃ C f, mg x = some (.ref C) ∧ Cls K C ∧ Meth K C m f ∧ FnFact S K mg (x, some m) f
  fld : ∀ x f, S.fld x f = true → ∃ C, mg x = some (.ref C) ∧ Cls K C ∧ NoAttr K C f
  con : ∀ x u, S.con x = some u → ∃ v val, mg x = some val ∧ RelV v val ∧ ∀ r H, RU ⟨K, mg⟩ r H u v
  glo : ∀ x, S.glo x = true → ∃ a, mg x = some (.ref a)
  free : ∀ x, S.free x = true → mg x = none
  exc : ∀ x, S.exc x = true → ∃ C, mg x = some (.ref C) ∧ PySem.W.excIn K C [.type "ValueError", .type "Exception", .type "BaseException", .type "object"] "ValueError.__new__" = true ∧ PySem.W.keepIn K (.ref C) = true ∧ PySem.W.subIn K (.ref C) (.type "BaseException") = some true ∧ PySem.W.typeIn K (.ref C) = some (.type "type")
  sub : ∀ x y b, S.sub x y = some b → ∃ C D, mg x = some (.ref C) ∧ mg y = some (.ref D) ∧ PySem.W.exmOne K (.ref C) (.ref D) = some b
  isa : ∀ x u b, S.isa x u = some b → ∃ C cv, mg x = some (.ref C) ∧ ExcC K C ∧ clV mg u cv ∧ PySem.W.kitOne K (.ref C) cv = some b
theorem fn_call0 {S : Sta} {key : FKey} {f : Addr} {e : De} {fd : FuncData} {dvs : List V} {kws : List (Str × V)} (h1 : S.df key = some e) (F : FunD K e.d.name e.d.qual e.d.params e.d.body e.d.scope dvs kws f fd) (Sc : FnScope e.N e.ps e.d.scope) {n : Nat} (tab : ∀ j, j < n → TabOk (S.tab (callN S j)) P w K mg base (2 * j)) :
    FnG P w K mg base (2 * n) f fd e.ps (spU ⟨K, mg⟩ e.ps.length (callN S n key)) := by
  cases n with
  | zero =>
    have no : ∀ {vs H Q E}, ¬ spU ⟨K, mg⟩ e.ps.length (callN S 0 key) vs H Q E := fun ⟨_, _, _, _, _, _, k⟩ => k
    exact ⟨fun vs H Q E h => (no h).elim, fun A outer s H args us vs Q E gd hr he hb hv hs => (no hs).elim⟩
  | succ n =>
    have t := fn_den (n := n) F Sc (tab n (Nat.lt_succ_self n))
    have ec : callN S (n + 1) key = runDf (S.tab (callN S n)) e := by
      funext us m
      show (match S.df key with
        | none => Out.bad
        | some f => runDf (S.tab (callN S n)) f us m) = _
      rw [h1]
    rw [ec]
    exact t
theorem fn_call {S : Sta} {key : FKey} {f : Addr} (h : FnFact S K mg key f) {n : Nat} (tab : ∀ j, j < n → TabOk (S.tab (callN S j)) P w K mg base (2 * j)) :
    ∃ fd ps, FnG P w K mg base (2 * n) f fd ps (spU ⟨K, mg⟩ ps.length (callN S n key)) ∧ ∀ n ks g, S.plan key n ks = some g → BindU ⟨K, mg⟩ fd ps n ks g := by
  obtain ⟨e, fd, h1, F, Sc, hB⟩ := h
  exact ⟨fd, e.ps, fn_call0 h1 F Sc tab, hB⟩
theorem tab_ok {S : Sta} (h : StaOk S K mg) : ∀ n, TabOk (S.tab (callN S n)) P w K mg base (2 * n) := by
  intro n
  induction n using Nat.strongRecOn with
  | ind n ih =>
    exact
      { sm := h.sm
        def_ := fun x hx => by
          obtain ⟨f, h1, h2, h3⟩ := h.def_ x hx
          obtain ⟨fd, ps, h4, h5⟩ := fn_call h3 ih
          exact ⟨f, fd, ps, h1, h2, h4, h5⟩
        cls := fun x hx => by
          obtain ⟨C, f, h1, h2, h3⟩ := h.cls x hx
          obtain ⟨fd, ps, h4, h5⟩ := fn_call h3 ih
          exact ⟨C, f, fd, ps, h1, h2, h4, h5⟩
        meth := fun x m hx => by
          obtain ⟨C, f, h1, h2, h3, h6⟩ := h.meth x m hx
          obtain ⟨fd, ps, h4, h5⟩ := fn_call h6 ih
          exact ⟨C, f, fd, ps, h1, h2, h3, h4, h5⟩
        fld := h.fld
        con := h.con
        glo := h.glo
        free := h.free
        exc := h.exc
        sub := h.sub
        isa := h.isa }
/-- how a plain call binds: all parameters, by place -/
theorem bind_all {e : De} {f : Addr} {fd : FuncData} (F : FunD K e.d.name e.d.qual e.d.params e.d.body e.d.scope [] (e.d.kws K) f fd)
    (h : ∀ (kV doc pm : Value) (an : Option Addr) (cdv ct : Value) (us : List Value), us.length = e.ps.length → bindArgs (PySem.W.fnOf e.d.name e.d.qual e.d.params e.d.body e.d.scope .none kV doc pm an cdv ct) ⟨us, []⟩ = pure (e.ps.zip us)) :
    BindU ⟨K, mg⟩ fd e.ps e.ps.length [] (fun as _ => as) := by
  have b := F.bindsA (ps := e.ps) h
  refine ⟨⟨fun us _ => us, fun vs _ => vs, ⟨fun s us ws _ hl hw => ?_, fun r _ => r⟩, fun r H as bs vs zs rs _ hl _ => ⟨rs, hl⟩⟩⟩
  show BindsTo s fd ⟨us, List.zip [] ws⟩ (e.ps.zip us)
  exact b s us hl
end
/-! ### the head: any check of the written part, and the defs -/
abbrev AlU : Type := Bool × List He.FnW
def obsU (chk : PySem.W.Frag → Bool) (fn : List He.DefD) (K : PySem.W.Frag) : AlU := (chk K && fn.all fun d => d.ok K, fn.map fun d => He.fnW K d.at_)
def valU (fn : List He.DefD) : AlU := (true, fn.map He.DefD.val)
def SaysU (chk : PySem.W.Frag → Bool) (fn : List He.DefD) (K : PySem.W.Frag) : Prop := obsU chk fn K = valU fn
def obsUG (n : Nat) (chk : PySem.W.Frag → Bool) (fn : List He.DefD) (g : Addr → Option Obj) : AlU := obsU chk fn (He.frG g (sysModules :: He.asD g n))
def hookU (n : Nat) (chk : PySem.W.Frag → Bool) (fn : List He.DefD) : PySem.W.Hook where
  α := AlU
  obs := fun s => obsUG n chk fn s.heap.get?
  val := fun _ => valU fn
  says := fun _ h => ∃ K : PySem.W.Frag, K.In h ∧ SaysU chk fn K
  of := fun _ _ e => ⟨_, He.frG_in, e⟩
  keeps := fun _ _ _ ⟨K, hK, c⟩ k => ⟨K, PySem.W.Frag.In.keeps hK k, c⟩
theorem obsUG_eq {n : Nat} {chk : PySem.W.Frag → Bool} {fn : List He.DefD} {g : Addr → Option Obj} {s : Shared} (h : ∀ a, g a = s.heap.get? a) : obsUG n chk fn g = (hookU n chk fn).obs s := by
  have e : g = s.heap.get? := funext h
  rw [e] <;> rfl
section
variable {chk : PySem.W.Frag → Bool} {fn : List He.DefD} {K : PySem.W.Frag}
theorem SaysU.chk_ (c : SaysU chk fn K) : chk K = true := (He.ba (show (chk K && fn.all fun d => d.ok K) = true from congrArg (fun z : AlU => z.1) c)).1
theorem SaysU.def_ (c : SaysU chk fn K) {d : He.DefD} (h : d ∈ fn) : ∃ fd, FunD K d.name d.qual d.params d.body d.scope (d.dvs K) (d.kws K) (He.fAd K d.at_) fd := by
  have c2 := (He.ba (show (chk K && fn.all fun d => d.ok K) = true from congrArg (fun z : AlU => z.1) c)).2
  have e : fn.map (fun d => He.fnW K d.at_) = fn.map He.DefD.val := congrArg (fun z : AlU => z.2) c
  obtain ⟨i, hi⟩ := List.mem_iff_getElem?.mp h
  have e2 : (fn.map fun d => He.fnW K d.at_)[i]? = (fn.map He.DefD.val)[i]? := by rw [e]
  rw [List.getElem?_map, List.getElem?_map, hi] at e2
  exact He.DefD.funD (Option.some.inj e2) (List.all_eq_true.mp c2 d h)
end
end Mi
/-! Mi, part U: a law's data; what its head says. -/
namespace Mi
open PySem PySem.Spec PyProof.Rows L2
set_option linter.unusedVariables false
/-- a law's data -/
structure LD where
  es : List De
  con : List (Str × U)
  free : List Str
  glo : List Str
  exc : List Str
  sub : List (Str × List (Str × Bool))
  isa : List (Str × List (Str × Bool) × List (String × Bool))
  heaps : List (Nat × Nat)
  fuel : Nat
def findDe (key : FKey) : List De → Option De
  | [] => none
  | e :: r => if e.d.at_ = key then some e else findDe key r
theorem findDe_ok {key : FKey} {e : De} : ∀ {l : List De}, findDe key l = some e → e ∈ l ∧ e.d.at_ = key
  | [], h => by cases h
  | a :: r, h => by
    unfold findDe at h
    by_cases q : a.d.at_ = key
    · rw [if_pos q] at h
      cases h
      exact ⟨List.mem_cons_self, q⟩
    · rw [if_neg q] at h
      obtain ⟨h1, h2⟩ := findDe_ok h
      exact ⟨List.mem_cons_of_mem _ h1, h2⟩
def look {α : Type} (x : Str) : List (Str × α) → Option α
  | [] => none
  | (y, a) :: r => if y = x then some a else look x r
theorem look_mem {α : Type} {x : Str} {a : α} : ∀ {l : List (Str × α)}, look x l = some a → (x, a) ∈ l
  | [], h => by cases h
  | (y, b) :: r, h => by
    unfold look at h
    by_cases q : y = x
    · rw [if_pos q] at h
      cases h
      rw [q]
      exact List.mem_cons_self
    · rw [if_neg q] at h
      exact List.mem_cons_of_mem _ (look_mem h)
def lookN (n : String) : List (String × Bool) → Option Bool
  | [] => none
  | (y, a) :: r => if y = n then some a else lookN n r
theorem lookN_mem {n : String} {a : Bool} : ∀ {l : List (String × Bool)}, lookN n l = some a → (n, a) ∈ l
  | [], h => by cases h
  | (y, b) :: r, h => by
    unfold lookN at h
    by_cases q : y = n
    · rw [if_pos q] at h
      cases h
      rw [q]
      exact List.mem_cons_self
    · rw [if_neg q] at h
      exact List.mem_cons_of_mem _ (lookN_mem h)
def hasS (x : Str) : List Str → Bool
  | [] => false
  | y :: r => if y = x then true else hasS x r
theorem hasS_mem {x : Str} : ∀ {l : List Str}, hasS x l = true → x ∈ l
  | [], h => by cases h
  | y :: r, h => by
    unfold hasS at h
    by_cases q : y = x
    · rw [q]
      exact List.mem_cons_self
    · rw [if_neg q] at h
      exact List.mem_cons_of_mem _ (hasS_mem h)
def hasP (a b : Nat) : List (Nat × Nat) → Bool
  | [] => false
  | (x, y) :: r => if (Nat.beq x a && Nat.beq y b) = true then true else hasP a b r
def planOf (es : List De) (key : FKey) (n : Nat) : List Str → Option (List U → List U → List U)
  | [] => (match findDe key es with
    | some e => if (Nat.beq n e.ps.length && e.d.dfl.isEmpty) = true then some (fun as _ => as) else none
    | none => none)
  | _ :: _ => none
def isaOf (l : List (Str × List (Str × Bool) × List (String × Bool))) (x : Str) : U → Option Bool
  | .glo y => (look x l).bind fun p => look y p.1
  | .ty n => (look x l).bind fun p => lookN n p.2
  | _ => none
def LD.sta (L : LD) : Sta where
  df := fun key => findDe key L.es
  plan := planOf L.es
  isDef := fun x => (findDe (x, none) L.es).isSome
  isCls := fun _ => false
  meth := fun _ _ => false
  fld := fun _ _ => false
  con := fun x => look x L.con
  glo := fun x => hasS x L.glo
  free := fun x => hasS x L.free
  exc := fun x => hasS x L.exc
  sub := fun x y => (look x L.sub).bind (look y)
  isa := isaOf L.isa
  fuel := L.fuel
  heapAt := fun p => hasP p.line p.col L.heaps
/-- what isinstance asks of an exception's class -/
def excB (K : PySem.W.Frag) (D : Addr) : Bool :=
  He.eqO (PySem.W.findIn K (.ref D) "__getattribute__") (some (some (.builtin "BaseException.__getattribute__"))) && (He.eqO (PySem.W.findIn K (.ref D) "__getattr__") (some none) && (decide (PySem.W.subIn K (.ref D) (.type "BaseException") = some true) && (PySem.W.hasDictIn K D &&
    (He.eqO (PySem.W.findIn K (.ref D) "__class__") (some (some (.builtin "object.__class__"))) && (He.eqO (PySem.W.specialIn K (.builtin "object.__class__") "__get__") (some (some (.builtin "getset_descriptor.__get__"))) && (decide (PySem.W.takesIn K (.builtin "object.__class__") = some true) && decide (PySem.W.mroIn K D (.type "object") = some true)))))))
theorem excB_ok {K : PySem.W.Frag} {D : Addr} (h : excB K D = true) : ExcC K D := by
  unfold excB at h
  obtain ⟨h1, h⟩ := He.ba h
  obtain ⟨h2, h⟩ := He.ba h
  obtain ⟨h3, h⟩ := He.ba h
  obtain ⟨h4, h⟩ := He.ba h
  obtain ⟨h5, h⟩ := He.ba h
  obtain ⟨h6, h⟩ := He.ba h
  obtain ⟨h7, h8⟩ := He.ba h
  exact ⟨He.eqO_ok h1, He.eqO_ok h2, of_decide_eq_true h3, h4, He.eqO_ok h5, He.eqO_ok h6, of_decide_eq_true h7, of_decide_eq_true h8⟩
def conB (K : PySem.W.Frag) (x : Str) : U → Bool
  | .int i => (He.Fa.int x i).ok K
  | .str z => (He.Fa.str x z).ok K
  | _ => false
def smB (K : PySem.W.Frag) : Bool := match K.lookup sysModules with
  | some o => (match o.cls with
    | .type c => decide (c = "dict")
    | _ => false)
  | none => false
theorem smB_ok {K : PySem.W.Frag} (h : smB K = true) : ∃ o, K.lookup sysModules = some o ∧ o.cls = .type "dict" := by
  unfold smB at h
  split at h
  · rename_i o e
    split at h
    · rename_i c e2
      exact ⟨o, e, by rw [e2, of_decide_eq_true h]⟩
    · cases h
  · cases h
def LD.chk1 (L : LD) (K : PySem.W.Frag) : Bool :=
  (L.es.all fun e => match e.d.at_.2 with
    | none => (He.Fa.glo e.d.at_.1).ok K
    | some _ => true) && ((L.con.all fun p => conB K p.1 p.2) && ((L.free.all fun x => (He.Fa.free x).ok K) && ((L.glo.all fun x => (He.Fa.glo x).ok K) && ((L.exc.all fun x => (He.Fa.glo x).ok K && (He.Fa.exc x).ok K) &&
    ((L.sub.all fun p => (He.Fa.glo p.1).ok K && p.2.all fun q => (He.Fa.glo q.1).ok K && (He.Fa.exm p.1 q.1 q.2).ok K) &&
    (L.isa.all fun p => (He.Fa.glo p.1).ok K && (excB K (He.ga K p.1) && ((p.2.1.all fun q => (He.Fa.glo q.1).ok K && decide (PySem.W.kitOne K (.ref (He.ga K p.1)) (.ref (He.ga K q.1)) = some q.2)) &&
      (p.2.2.all fun q => decide (PySem.W.kitOne K (.ref (He.ga K p.1)) (.type q.1) = some q.2)))))))))) 
def LD.chk (L : LD) (K : PySem.W.Frag) : Bool := smB K && LD.chk1 L K
/-- what must be said of each def -/
def De.Ok (e : De) : Prop := FnScope e.N e.ps e.d.scope ∧ (e.d.dfl = [] → ∀ (kV doc pm : Value) (an : Option Addr) (cdv ct : Value) (us : List Value), us.length = e.ps.length → bindArgs (PySem.W.fnOf e.d.name e.d.qual e.d.params e.d.body e.d.scope .none kV doc pm an cdv ct) ⟨us, []⟩ = pure (e.ps.zip us))
section
variable {K : PySem.W.Frag} {h : Heap} {mg : Str → Option Value} {L : LD}
theorem sta_ok (X : K.In h) (G : h.Ns mainGlobals mg) (c : SaysU L.chk (L.es.map (·.d)) K) (hE : ∀ e ∈ L.es, e.Ok) : StaOk L.sta K mg := by
  have c0 := c.chk_
  unfold LD.chk at c0
  obtain ⟨k0, c1⟩ := He.ba c0
  unfold LD.chk1 at c1
  obtain ⟨k1, c1⟩ := He.ba c1
  obtain ⟨k2, c1⟩ := He.ba c1
  obtain ⟨k3, c1⟩ := He.ba c1
  obtain ⟨k4, c1⟩ := He.ba c1
  obtain ⟨k5, c1⟩ := He.ba c1
  obtain ⟨k6, k7⟩ := He.ba c1
  have glo : ∀ {x : Str}, (He.Fa.glo x).ok K = true → mg x = some (.ref (He.ga K x)) := fun q => He.glo_ok X G q
  have fact : ∀ (key : FKey) (e : De), findDe key L.es = some e → FnFact L.sta K mg key (He.fAd K key) := fun key e he => by
    obtain ⟨hm, hk⟩ := findDe_ok he
    obtain ⟨fd, F⟩ := c.def_ (List.mem_map_of_mem hm)
    obtain ⟨Sc, hb⟩ := hE e hm
    refine ⟨e, fd, he, by rw [← hk]; exact F, Sc, fun n ks g hp => ?_⟩
    cases ks with
    | cons _ _ => cases hp
    | nil =>
      have hp' : planOf L.es key n [] = some g := hp
      unfold planOf at hp'
      rw [he] at hp'
      dsimp only at hp'
      split at hp'
      · rename_i hh
        obtain ⟨q1, q2⟩ := He.ba hh
        cases hp'
        have en : n = e.ps.length := Nat.eq_of_beq_eq_true q1
        have ed : e.d.dfl = [] := List.isEmpty_iff.mp q2
        subst en
        have ev : e.d.dvs K = [] := by
          unfold He.DefD.dvs
          rw [ed]
          rfl
        rw [ev] at F
        exact bind_all F (hb ed)
      · cases hp'
  exact
    { sm := smB_ok k0
      def_ := fun x hx => by
        cases e1 : findDe (x, none) L.es with
        | none =>
          have hx' : (findDe (x, none) L.es).isSome = true := hx
          rw [e1] at hx'
          cases hx'
        | some e =>
          obtain ⟨hm, hk⟩ := findDe_ok e1
          have q := List.all_eq_true.mp k1 e hm
          rw [hk] at q
          obtain ⟨fd, F⟩ := c.def_ (List.mem_map_of_mem hm)
          have kp := F.kp
          rw [hk] at kp
          exact ⟨He.fAd K (x, none), glo q, kp, fact _ e e1⟩
      cls := fun x hx => (nomatch hx)
      meth := fun x m hx => (nomatch hx)
      fld := fun x f hx => (nomatch hx)
      con := fun x u hx => by
        have q := List.all_eq_true.mp k2 (x, u) (look_mem hx)
        cases u with
        | int i =>
          obtain ⟨t, e⟩ := He.int_ok X G q
          exact ⟨.int i, _, e, ⟨t, rfl⟩, fun _ _ => .int i⟩
        | str z =>
          obtain ⟨t, e⟩ := He.str_ok X G q
          exact ⟨.str z, _, e, ⟨t, rfl⟩, fun _ _ => .str z⟩
        | _ => cases q
      glo := fun x hx => ⟨_, glo (List.all_eq_true.mp k4 x (hasS_mem hx))⟩
      free := fun x hx => He.free_ok X G (List.all_eq_true.mp k3 x (hasS_mem hx))
      exc := fun x hx => by
        obtain ⟨q1, q2⟩ := He.ba (List.all_eq_true.mp k5 x (hasS_mem hx))
        obtain ⟨z1, z2, z3, z4⟩ := He.exc_ok q2
        exact ⟨_, glo q1, z1, z2, z3, z4⟩
      sub := fun x y b hx => by
        have hx' : (look x L.sub).bind (look y) = some b := hx
        cases e1 : look x L.sub with
        | none =>
          rw [e1] at hx'
          cases hx'
        | some l =>
          rw [e1] at hx'
          obtain ⟨q1, q2⟩ := He.ba (List.all_eq_true.mp k6 (x, l) (look_mem e1))
          obtain ⟨q3, q4⟩ := He.ba (List.all_eq_true.mp q2 (y, b) (look_mem hx'))
          exact ⟨_, _, glo q1, glo q3, He.exm_ok q4⟩
      isa := fun x u b hx => by
        cases e1 : look x L.isa with
        | none =>
          have hx' : isaOf L.isa x u = some b := hx
          unfold isaOf at hx'
          rw [e1] at hx'
          cases u <;> cases hx'
        | some p =>
          obtain ⟨q1, q2⟩ := He.ba (List.all_eq_true.mp k7 (x, p) (look_mem e1))
          obtain ⟨q3, q4⟩ := He.ba q2
          obtain ⟨q5, q6⟩ := He.ba q4
          cases u with
          | glo y =>
            have hx' : ((look x L.isa).bind fun p => look y p.1) = some b := hx
            rw [e1] at hx'
            obtain ⟨z1, z2⟩ := He.ba (List.all_eq_true.mp q5 (y, b) (look_mem hx'))
            exact ⟨_, _, glo q1, excB_ok q3, glo z1, of_decide_eq_true z2⟩
          | ty n =>
            have hx' : ((look x L.isa).bind fun p => lookN n p.2) = some b := hx
            rw [e1] at hx'
            exact ⟨_, _, glo q1, excB_ok q3, rfl, of_decide_eq_true (List.all_eq_true.mp q6 (n, b) (lookN_mem hx'))⟩
          | _ => cases hx }
end
end Mi
/-! Mi, part V: a law's end. -/
namespace Mi
open PySem PySem.Spec PyProof.Rows L2
set_option linter.unusedVariables false
section
variable {P : Program} {w : World} {K : PySem.W.Frag} {mg mb : Str → Option Value} {k : Nat} {fa a : Addr} {fd : FuncData} {x : Str} {sp : Sp} {s0 : Shared} {vs : List Value} {ns : List Int}
/-- the law's call from an abstract heap in which at most the script stands -/
theorem law_core (KX : K.In s0.heap) (h1 : s0.heap.Ns mainGlobals mg) (h2 : s0.heap.Ns builtinsNs mb) (h3 : ∀ x : Str, x ≠ "__name__" → mb x = bootBuiltins x) (h4 : s0.heap.NoLimit) (h5 : s0.gens = #[])
    (ha : s0.heap.get? a = some { cls := .type "list", data := .seq vs.toArray }) (hr : Room k callerA)
    (F : ∀ base : Heap, K.In base → base.Ns mainGlobals mg → FnG P w K mg base k fa fd [x] sp) (hbind : ∀ (s : Shared) (u : Value), BindsTo s fd ⟨[u], []⟩ [(x, u)])
    {H : Hp} (hO : Only H) (hsp : sp [.ref a] H (fun v _ => v = .bl true) fun _ _ _ => False) (hok : HOk P w H s0.heap) (hA : ∀ b, H b ≠ none → b = a) (hK : H a ≠ none → K.lookup a = none) :
    codeAny (model P w) callerA (.call (.ref fa) ⟨[.ref a], []⟩) (fun r s' => r = .ok (.ret (.bool true)) ∧ OldK s0.heap s'.heap ∧ s'.os = s0.os ∧ AllBare s'.gens) s0 := by
  have stays : ∀ {b : Addr} {o : Obj}, s0.heap.get? b = some o → (b = a → H b = none) → (hidT s0.heap H).get? b = some o := fun {b o} e n => hidT_get e (by
    cases q : H b with
    | none => rfl
    | some u =>
      have z := n (hA b (by rw [q]; exact fun z => nomatch z))
      rw [q] at z
      cases z)
  have nsOf : ∀ {b : Addr} {m : Str → Option Value}, s0.heap.Ns b m → (hidT s0.heap H).Ns b m := by
    rintro b m ⟨o, es, ep, e, d, q⟩
    refine ⟨o, es, ep, stays e fun z => ?_, d, q⟩
    subst z
    rw [ha] at e
    cases e
    cases (show Data.seq vs.toArray _ = Data.dict es ep from d)
  have kB : K.In (hidT s0.heap H) := by
    intro b o e
    refine stays (KX b o e) fun z => ?_
    subst z
    cases q : H b with
    | none => rfl
    | some u =>
      rw [hK (by rw [q]; exact fun z => nomatch z)] at e
      cases e
  have md : Mod K mg (hidT s0.heap H) := by
    obtain ⟨mc, q1, q2⟩ := h4
    exact ⟨kB, nsOf h1, ⟨mb, nsOf h2, h3⟩, ⟨mc, nsOf q1, q2⟩⟩
  have ev : Env0 P w K mg (hidT s0.heap H) callerA [] s0 H :=
    { frames := rfl
      mod := md
      bs := fun b o e => of_hidT e
      bsz := Nat.le_of_eq (hidT_size _ _)
      funs := trivial
      frf := fun b hb => nomatch hb
      hok := hok
      bare := .of_eq h5 }
  have run := (F _ kB (nsOf h1)).run callerA [] s0 H ⟨[.ref a], []⟩ [.ref a] [.ref a] _ _ rfl hr ev (hbind s0 (.ref a)) (.cons rfl .nil) hsp
  refine codeAny_mono run fun r s' h => ?_
  match r, h with
  | .error e, h =>
    obtain ⟨_, _, _, _, _, _, _, _, _, _, _, _, z⟩ := h
    exact z.elim
  | .ok .next, h => exact False.elim h
  | .ok .brk, h => exact False.elim h
  | .ok .cont, h => exact False.elim h
  | .ok (.ret u), h =>
    obtain ⟨v, H2, q1, q2, un, hok2, rv, q3⟩ := h
    cases (show v = .bl true from q3)
    cases (show u = Value.bool true from rv)
    refine ⟨rfl, OldK.of_keep fun b o e => ?_, q1, q2⟩
    cases q : H b with
    | none => exact un.keep b o e q (fun z => nomatch z) (fun z => nomatch z)
    | some u2 =>
      rcases hO b with z | ⟨ob, xs, z⟩
      · rw [q] at z
        cases z
      · have g1 := (hok b _ z).1
        have g2 := (hok2 b _ (un.frzs b ob _ z)).1
        rw [e] at g1
        cases g1
        exact g2
theorem law_callG (KX : K.In s0.heap) (h1 : s0.heap.Ns mainGlobals mg) (h2 : s0.heap.Ns builtinsNs mb) (h3 : ∀ x : Str, x ≠ "__name__" → mb x = bootBuiltins x) (h4 : s0.heap.NoLimit) (h5 : s0.gens = #[])
    (ha : s0.heap.get? a = some { cls := .type "list", data := .seq vs.toArray }) (hi : IntsAre vs ns) (hl : ns.length ≤ sizeLine) (hr : Room k callerA)
    (F : ∀ base : Heap, K.In base → base.Ns mainGlobals mg → FnG P w K mg base k fa fd [x] sp) (hbind : ∀ (s : Shared) (u : Value), BindsTo s fd ⟨[u], []⟩ [(x, u)])
    (hsp : ∀ H : Hp, Only H → SqL K H a (ns.map V.int) → sp [.ref a] H (fun v _ => v = .bl true) fun _ _ _ => False) :
    codeAny (model P w) callerA (.call (.ref fa) ⟨[.ref a], []⟩) (fun r s' => r = .ok (.ret (.bool true)) ∧ OldK s0.heap s'.heap ∧ s'.os = s0.os ∧ AllBare s'.gens) s0 := by
  have rv := vals_ints hi
  cases hk : K.lookup a with
  | some o =>
    have e := KX a o hk
    rw [ha] at e
    cases e
    have on : Only (fun _ => none) := fun _ => .inl rfl
    have sq : SqL K (fun _ => none) a (ns.map V.int) := .inr ⟨_, vs.toArray, _, hk, rfl, rfl, rfl, by rw [List.size_toArray, hi.length]; exact hl, by simpa using rv⟩
    exact law_core KX h1 h2 h3 h4 h5 ha hr F hbind on (hsp _ on sq) (fun b u z => nomatch (show (none : Option HO) = some u from z)) (fun b z => absurd rfl z) fun z => absurd rfl z
  | none =>
    let H : Hp := fun b => if b = a then some (.frz { cls := .type "list", data := .seq vs.toArray } (.lst (ns.map V.int))) else none
    have yes : H a = some (.frz { cls := .type "list", data := .seq vs.toArray } (.lst (ns.map V.int))) := if_pos rfl
    have no : ∀ b, b ≠ a → H b = none := fun b hb => if_neg hb
    have on : Only H := fun b => by
      by_cases hb : b = a
      · rw [hb]; exact .inr ⟨_, _, yes⟩
      · exact .inl (no b hb)
    refine law_core KX h1 h2 h3 h4 h5 ha hr F hbind on (hsp H on (.inl (.inr ⟨_, yes⟩))) (fun b u z => ?_) (fun b z => ?_) fun _ => hk
    · by_cases hb : b = a
      · subst hb
        rw [yes] at z
        cases z
        exact ⟨ha, by rw [List.length_map]; exact hl, vs, _, rv, ha⟩
      · rw [no b hb] at z
        cases z
    · by_cases hb : b = a
      · exact hb
      · exact absurd (no b hb) z
end
theorem walk_ofU {l : PySem.W.OpenLaw} {n k : Nat} {q : Program} {loose : List Str} {XP : (Str → Option Value) → Heap → Prop} {YP : World → Heap → Prop} {d : DefRec} {x : Str}
    (hn : l.most = some n) (hn2 : n ≤ sizeLine) (hdf : d.params.defaults = []) (hr : Room k callerA)
    (F : ∀ (w : World) (mg : Str → Option Value) (fa : Addr) (h : Heap), YP w h → h.Ns mainGlobals mg → mg d.name = some (.ref fa) →
      ∃ (K : PySem.W.Frag) (fd : FuncData) (sp : Sp), K.In h ∧ (∀ (s : Shared) (u : Value), BindsTo s fd ⟨[u], []⟩ [(x, u)]) ∧
        (∀ (H : Hp) (a : Addr) (ns : List Int), ns.length ≤ n → Only H → SqL K H a (ns.map V.int) → sp [.ref a] H (fun v _ => v = .bl true) fun _ _ _ => False) ∧
        ∀ base : Heap, K.In base → base.Ns mainGlobals mg → FnG l.prog w K mg base k fa fd [x] sp) :
    PySem.W.WalkO q loose XP YP l.row.toRowW d [] (fun f vs => PySem.call f vs) := by
  refine Att.attach_call hn hdf fun w s₀ s₁ mg mb fa o pm cd doc a vs ns G Y ho hd hcd hmg hobj hints hlen hg => ?_
  obtain ⟨K, fd, sp, KX, hb, hsp, hF⟩ := F w mg fa _ Y G.T.g hmg
  exact law_callG KX G.T.g G.T.b G.T.builtins G.T.nolimit hg hobj hints (Nat.le_trans hlen hn2) hr hF hb (fun H hO hS => hsp H a ns hlen hO hS)
/-- a law by its interpreter's run -/
theorem law_walk {l : PySem.W.OpenLaw} {q : Program} {loose : List Str} {XP : (Str → Option Value) → Heap → Prop} {d : DefRec} {x : Str} (L : LD) (n : Nat) (e : De)
    (hn : l.most = some 63) (hdf : d.params.defaults = []) (hr : Room (2 * n) callerA) (hE : ∀ e ∈ L.es, e.Ok) (he : findDe ("law", none) L.es = some e) (hx : e.ps = [x]) (hd : e.d.dfl = []) (hnm : d.name = "law")
    (spec : ∀ ns : List Int, ns.length ≤ 63 → ∃ m, callN L.sta n ("law", none) [.cl (ns.map U.int)] [] = .ok (.bl true) m) :
    PySem.W.WalkO q loose XP (hookU 4 L.chk (L.es.map (·.d))).says l.row.toRowW d [] (fun f vs => PySem.call f vs) := by
  refine walk_ofU (n := 63) (k := 2 * n) (x := x) hn (by decide) hdf hr (fun w mg fa h Y G hmg => ?_)
  obtain ⟨K, KX, c⟩ := Y
  have so := sta_ok KX G c hE
  obtain ⟨f, h1, _, e', fd, h3, F, Sc, hB⟩ := so.def_ "law" (by
    show (findDe ("law", none) L.es).isSome = true
    rw [he]
    rfl)
  have ee : e' = e := Option.some.inj ((show findDe ("law", none) L.es = some e' from h3).symm.trans he)
  subst ee
  rw [hnm] at hmg
  have ef : f = fa := Value.ref.inj (Option.some.inj (h1.symm.trans hmg))
  subst ef
  have hm := (findDe_ok he).1
  have hb := (hE _ hm).2 hd
  have ev : e'.d.dvs K = [] := by
    unfold He.DefD.dvs
    rw [hd]
    rfl
  have F' := F
  rw [ev] at F'
  have bA := F'.bindsA (ps := e'.ps) hb
  refine ⟨K, fd, spU ⟨K, mg⟩ 1 (callN L.sta n ("law", none)), KX, fun s u => ?_, fun H a ns hl hO hS => ?_, fun base KB GB => ?_⟩
  · have := bA s [u] (by rw [hx]; rfl)
    rw [hx] at this
    exact this
  · obtain ⟨m, hsp⟩ := spec ns hl
    refine ⟨⟨[], []⟩, [], [.cl (ns.map U.int)], ⟨rfl, List.nodup_nil, fun i o h => (nomatch h), fun b hb => (nomatch hb)⟩, .cons (.cl ?_ (RUs.ints ns)) .nil, rfl, ?_⟩
    · rcases hS with hS | hS
      · exact .inl ⟨List.not_mem_nil, List.not_mem_nil, hS⟩
      · exact .inr hS
    · rw [hsp]
      intro r' H' v ex C rv
      cases rv
      rfl
  · have t := fn_call0 (P := l.prog) (w := w) (base := base) h3 F' Sc (n := n) fun j _ => tab_ok so j
    rw [hx] at t
    exact t
end Mi
/-! Mi, part W: plain reasoning on runs: what a run ends well with. -/
namespace Mi
open PySem PySem.Spec PyProof.Rows L2
set_option linter.unusedVariables false
def okP {α : Type} (o : Option (α × MH)) (Q : α → MH → Prop) : Prop := match o with
  | some p => Q p.1 p.2
  | none => False
def okO {α : Type} (o : Out α) (Q : α → MH → Prop) : Prop := match o with
  | .ok a m => Q a m
  | _ => False
def okS (o : SO) (N : Env1 → MH → Prop) (R : U → MH → Prop) : Prop := match o with
  | .nx t m => N t m
  | .rt u m => R u m
  | _ => False
section
variable {α β : Type} {Q : U → MH → Prop} {N : Env1 → MH → Prop} {R : U → MH → Prop} {t : Env1} {m : MH}
@[simp] theorem okP_some {P : α → MH → Prop} (a : α) (m : MH) : okP (some (a, m)) P ↔ P a m := Iff.rfl
@[simp] theorem okP_none {P : α → MH → Prop} : okP (none : Option (α × MH)) P ↔ False := Iff.rfl
@[simp] theorem okO_ok {P : α → MH → Prop} (a : α) (m : MH) : okO (.ok a m) P ↔ P a m := Iff.rfl
@[simp] theorem okO_bad {P : α → MH → Prop} : okO (.bad : Out α) P ↔ False := Iff.rfl
@[simp] theorem okO_err {P : α → MH → Prop} (x : Ex) (m : MH) : okO (.err x m : Out α) P ↔ False := Iff.rfl
theorem okP_mono {o : Option (α × MH)} {P P' : α → MH → Prop} (h : okP o P) (k : ∀ a m, P a m → P' a m) : okP o P' := by
  cases o with
  | none => exact h
  | some p => exact k _ _ h
theorem okO_mono {o : Out α} {P P' : α → MH → Prop} (h : okO o P) (k : ∀ a m, P a m → P' a m) : okO o P' := by
  cases o with
  | ok a m => exact k _ _ h
  | _ => exact h
theorem okS_mono {o : SO} {N' : Env1 → MH → Prop} {R' : U → MH → Prop} (h : okS o N R) (k1 : ∀ t m, N t m → N' t m) (k2 : ∀ u m, R u m → R' u m) : okS o N' R' := by
  cases o with
  | nx t m => exact k1 _ _ h
  | rt u m => exact k2 _ _ h
  | _ => exact h
theorem okO_bind {o : Out α} {f : α → MH → Out β} {P : β → MH → Prop} : okO (o.bind f) P ↔ okO o fun a m => okO (f a m) P := by
  cases o <;> exact Iff.rfl
theorem okO_ofO {o : Option (α × MH)} {P : α → MH → Prop} : okO (ofO o) P ↔ okP o P := by
  cases o with
  | none => exact Iff.rfl
  | some p => exact Iff.rfl
@[simp] theorem ok_cK (u : U) : okO (cK u t m) Q ↔ Q u m := Iff.rfl
theorem ok_cVar {i : Nat} {u : U} (h : t[i]? = some (some u)) : okO (cVar i t m) Q ↔ Q u m := by
  unfold cVar
  rw [h]
  exact Iff.rfl
@[simp] theorem ok_cVar0 {u : U} {r : Env1} : okO (cVar 0 (some u :: r) m) Q ↔ Q u m := ok_cVar rfl
@[simp] theorem ok_cVarS {i : Nat} {a : Option U} {r : Env1} : okO (cVar (i + 1) (a :: r) m) Q ↔ okO (cVar i r m) Q := by
  unfold cVar
  rw [List.getElem?_cons_succ]
@[simp] theorem ok_cBin {g : B2} {a b : E1} : okO (cBin g a b t m) Q ↔ okO (a t m) fun u m1 => okO (b t m1) fun w m2 => okP (g u w m2) Q := by
  unfold cBin
  simp only [okO_bind, okO_ofO]
@[simp] theorem ok_cUn {g : B1} {a : E1} : okO (cUn g a t m) Q ↔ okO (a t m) fun u m1 => okP (g u m1) Q := by
  unfold cUn
  simp only [okO_bind, okO_ofO]
@[simp] theorem ok_cIsBl {a : E1} {P : Bool → MH → Prop} : okO (cIsBl a t m) P ↔ okO (a t m) fun u m1 => okP (blOf u m1) P := by
  unfold cIsBl
  simp only [okO_bind, okO_ofO]
@[simp] theorem ok_blOf (b : Bool) {P : Bool → MH → Prop} : okP (blOf (.bl b) m) P ↔ P b m := Iff.rfl
@[simp] theorem ok_cNot {a : Fn1 Bool} {P : Bool → MH → Prop} : okO (cNot a t m) P ↔ okO (a t m) fun b m1 => P (!b) m1 := by
  unfold cNot
  simp only [okO_bind, okO_ok]
@[simp] theorem ok_cAnd {a b : Fn1 Bool} {P : Bool → MH → Prop} : okO (cAnd a b t m) P ↔ okO (a t m) fun x m1 => (x = true → okO (b t m1) P) ∧ (x = false → P false m1) := by
  unfold cAnd
  rw [okO_bind]
  cases a t m with
  | ok x m1 => cases x <;> simp
  | _ => exact Iff.rfl
@[simp] theorem ok_cOr {a b : Fn1 Bool} {P : Bool → MH → Prop} : okO (cOr a b t m) P ↔ okO (a t m) fun x m1 => (x = true → P true m1) ∧ (x = false → okO (b t m1) P) := by
  unfold cOr
  rw [okO_bind]
  cases a t m with
  | ok x m1 => cases x <;> simp
  | _ => exact Iff.rfl
@[simp] theorem ok_cIf {a b : Fn1 α} {q : Fn1 Bool} {P : α → MH → Prop} : okO (cIf q a b t m) P ↔ okO (q t m) fun x m1 => (x = true → okO (a t m1) P) ∧ (x = false → okO (b t m1) P) := by
  unfold cIf
  rw [okO_bind]
  cases q t m with
  | ok x m1 => cases x <;> simp
  | _ => exact Iff.rfl
def okT (u : U) (m : MH) (P : Bool → Prop) : Prop := match truU u m with
  | some b => P b
  | none => False
@[simp] theorem okT_bl (b : Bool) {P : Bool → Prop} : okT (.bl b) m P ↔ P b := Iff.rfl
@[simp] theorem ok_cAndV {a b : E1} : okO (cAndV a b t m) Q ↔ okO (a t m) fun u m1 => okT u m1 fun x => (x = true → okO (b t m1) Q) ∧ (x = false → Q u m1) := by
  unfold cAndV
  rw [okO_bind]
  cases a t m with
  | ok u m1 =>
    simp only [okO_ok]
    unfold okT
    cases truU u m1 with
    | none => exact Iff.rfl
    | some x => cases x <;> simp
  | _ => exact Iff.rfl
@[simp] theorem ok_cOrV {a b : E1} : okO (cOrV a b t m) Q ↔ okO (a t m) fun u m1 => okT u m1 fun x => (x = true → Q u m1) ∧ (x = false → okO (b t m1) Q) := by
  unfold cOrV
  rw [okO_bind]
  cases a t m with
  | ok u m1 =>
    simp only [okO_ok]
    unfold okT
    cases truU u m1 with
    | none => exact Iff.rfl
    | some x => cases x <;> simp
  | _ => exact Iff.rfl
@[simp] theorem ok_cNotV {a : E1} : okO (cNotV a t m) Q ↔ okO (a t m) fun u m1 => okT u m1 fun x => Q (.bl (!x)) m1 := by
  unfold cNotV
  rw [okO_bind]
  cases a t m with
  | ok u m1 =>
    simp only [okO_ok]
    unfold okT
    cases truU u m1 <;> exact Iff.rfl
  | _ => exact Iff.rfl
@[simp] theorem ok_cTruth {a : E1} {P : Bool → MH → Prop} : okO (cTruth a t m) P ↔ okO (a t m) fun u m1 => okT u m1 fun x => P x m1 := by
  unfold cTruth
  rw [okO_bind]
  cases a t m with
  | ok u m1 =>
    simp only [okO_ok]
    unfold okT
    cases truU u m1 <;> exact Iff.rfl
  | _ => exact Iff.rfl
@[simp] theorem ok_cNil {P : List U → MH → Prop} : okO (cNil t m) P ↔ P [] m := Iff.rfl
@[simp] theorem ok_cCons {a : E1} {b : Fn1 (List U)} {P : List U → MH → Prop} : okO (cCons a b t m) P ↔ okO (a t m) fun u m1 => okO (b t m1) fun us m2 => P (u :: us) m2 := by
  unfold cCons
  simp only [okO_bind, okO_ok]
@[simp] theorem ok_cFn {g : List U → MH → Option (U × MH)} {a : Fn1 (List U)} : okO (cFn g a t m) Q ↔ okO (a t m) fun us m1 => okP (g us m1) Q := by
  unfold cFn
  simp only [okO_bind, okO_ofO]
@[simp] theorem ok_cChain {g g' : B2} {a b d : E1} : okO (cChain g g' a b d t m) Q ↔ okO (a t m) fun u m1 => okO (b t m1) fun w m2 => okP (g u w m2) fun z m3 => okP (blOf z m3) fun k m4 => (k = true → okO (d t m4) fun y m5 => okP (g' w y m5) Q) ∧ (k = false → Q (.bl false) m4) := by
  unfold cChain
  simp only [okO_bind, okO_ofO]
  refine iff_of_eq (congrArg _ (funext fun u => funext fun m1 => congrArg _ (funext fun w => funext fun m2 => congrArg _ (funext fun z => funext fun m3 => congrArg _ (funext fun k => funext fun m4 => ?_)))))
  cases k with
  | true => simp only [okO_bind, okO_ofO, true_implies, reduceCtorEq, false_implies, and_true]
  | false => simp only [okO_ok, reduceCtorEq, false_implies, true_implies, true_and]
@[simp] theorem ok_cPart_none {P : Option Int → MH → Prop} : okO (cPart none t m) P ↔ P none m := Iff.rfl
def okI (u : U) (P : Int → Prop) : Prop := match u with
  | .int i => P i
  | _ => False
@[simp] theorem okI_int (i : Int) {P : Int → Prop} : okI (.int i) P ↔ P i := Iff.rfl
@[simp] theorem ok_cPart_some {f : E1} {P : Option Int → MH → Prop} : okO (cPart (some f) t m) P ↔ okO (f t m) fun u m1 => okI u fun i => P (some i) m1 := by
  show okO ((f t m).bind _) P ↔ _
  rw [okO_bind]
  cases f t m with
  | ok u m1 => cases u <;> exact Iff.rfl
  | _ => exact Iff.rfl
@[simp] theorem ok_cSlice {a : E1} {lo hi : Option E1} : okO (cSlice a lo hi t m) Q ↔ okO (a t m) fun u m1 => okO (cPart lo t m1) fun l m2 => okO (cPart hi t m2) fun h m3 => okP (slcU u l h m3) Q := by
  unfold cSlice
  simp only [okO_bind, okO_ofO]
@[simp] theorem ok_cCallK {n k : Nat} {f : List U → List U → MH → Out U} {a b : Fn1 (List U)} : okO (cCallK n k f a b t m) Q ↔ okO (a t m) fun us m1 => okO (b t m1) fun zs m2 => us.length = n ∧ zs.length = k ∧ okO (f us zs m2) Q := by
  unfold cCallK
  simp only [okO_bind]
  refine iff_of_eq (congrArg _ (funext fun u => funext fun m1 => congrArg _ (funext fun w => funext fun m2 => propext ?_)))
  by_cases h : u.length = n ∧ w.length = k
  · rw [if_pos h]
    exact ⟨fun x => ⟨h.1, h.2, x⟩, fun x => x.2.2⟩
  · rw [if_neg h]
    exact ⟨fun x => x.elim, fun x => h ⟨x.1, x.2.1⟩⟩
@[simp] theorem ok_cDic : okO (cDic t m) Q ↔ Q (.ref m.length) (m ++ [.dic false []]) := Iff.rfl
@[simp] theorem ok_cYes {P : Bool → MH → Prop} : okO (cYes t m) P ↔ P true m := Iff.rfl
/-! ### statements -/
@[simp] theorem ok_sNx : okS (sNx t m) N R ↔ N t m := Iff.rfl
@[simp] theorem ok_sSeq {a b : S1} : okS (sSeq a b t m) N R ↔ okS (a t m) (fun t' m' => okS (b t' m') N R) R := by
  unfold sSeq
  cases a t m <;> exact Iff.rfl
theorem ok_sE {f : Fn1 α} {k : α → S1} : okS (sE f k t m) N R ↔ okO (f t m) fun u m1 => okS (k u t m1) N R := by
  unfold sE
  cases f t m <;> exact Iff.rfl
@[simp] theorem ok_sRet {a : E1} : okS (sRet a t m) N R ↔ okO (a t m) R := by
  unfold sRet
  rw [ok_sE]
  exact Iff.rfl
@[simp] theorem ok_sDrop {a : E1} : okS (sDrop a t m) N R ↔ okO (a t m) fun _ m1 => N t m1 := by
  unfold sDrop
  rw [ok_sE]
  exact Iff.rfl
@[simp] theorem ok_sIf {q : Fn1 Bool} {a b : S1} : okS (sIf q a b t m) N R ↔ okO (q t m) fun x m1 => (x = true → okS (a t m1) N R) ∧ (x = false → okS (b t m1) N R) := by
  unfold sIf
  rw [ok_sE]
  refine iff_of_eq (congrArg _ (funext fun x => funext fun m1 => propext ?_))
  cases x <;> simp
@[simp] theorem ok_sAsg {a : E1} {g : G1} : okS (sAsg a g t m) N R ↔ okO (a t m) fun u m1 => okP (g u t m1) N := by
  unfold sAsg
  rw [ok_sE]
  refine iff_of_eq (congrArg _ (funext fun u => funext fun m1 => propext ?_))
  cases g u t m1 <;> exact Iff.rfl
@[simp] theorem ok_gName {i : Nat} {u : U} {P : Env1 → MH → Prop} : okP (gName i u t m) P ↔ P (t.set i (some u)) m := Iff.rfl
@[simp] theorem ok_gSubU {fo fi : E1} {u : U} {P : Env1 → MH → Prop} : okP (gSubU fo fi u t m) P ↔ okO (fo t m) fun o m1 => okO (fi t m1) fun i m2 => ∃ m3, setU o i u m2 = some m3 ∧ P t m3 := by
  unfold gSubU
  cases fo t m with
  | ok o m1 =>
    simp only [okO_ok]
    cases fi t m1 with
    | ok i m2 =>
      simp only [okO_ok]
      cases setU o i u m2 with
      | none => simp
      | some m3 => simp
    | _ => exact Iff.rfl
  | _ => exact Iff.rfl
/-! ### loops -/
theorem loopL_inv {g : G1} {b : S1} (Inv : Nat → Env1 → MH → Prop) {us : List U} (step : ∀ i u t m, us[i]? = some u → Inv i t m → okP (g u t m) fun t' m' => okS (b t' m') (Inv (i + 1)) R) (fin : ∀ t m, Inv us.length t m → N t m) :
    ∀ (ws : List U) (i : Nat), us.drop i = ws → i ≤ us.length → ∀ t m, Inv i t m → okS (loopL g b ws t m) N R
  | [], i, e, hi, t, m, h => by
    have : i = us.length := by
      have := congrArg List.length e
      rw [List.length_drop] at this
      simp at this
      omega
    subst this
    exact fin t m h
  | u :: ws, i, e, hi, t, m, h => by
    have hlt : i < us.length := by
      have := congrArg List.length e
      rw [List.length_drop] at this
      simp at this
      omega
    have eu : us[i]? = some u := by
      have : (us.drop i)[0]? = some u := by rw [e]; rfl
      rw [List.getElem?_drop] at this
      simpa using this
    have ew : us.drop (i + 1) = ws := by
      have : (us.drop i).drop 1 = ws := by rw [e]; rfl
      rw [List.drop_drop] at this
      exact this
    have s := step i u t m eu h
    unfold loopL
    cases e1 : g u t m with
    | none =>
      rw [e1] at s
      exact s.elim
    | some p =>
      obtain ⟨t', m'⟩ := p
      rw [e1] at s
      dsimp only
      have s' : okS (b t' m') (Inv (i + 1)) R := s
      cases e2 : b t' m' with
      | nx t2 m2 =>
        rw [e2] at s'
        exact loopL_inv Inv step fin ws (i + 1) ew hlt t2 m2 s'
      | rt u2 m2 =>
        rw [e2] at s'
        exact s'
      | _ =>
        rw [e2] at s'
        exact s'.elim
theorem ok_loop {g : G1} {b : S1} {us : List U} (Inv : Nat → Env1 → MH → Prop) (h0 : Inv 0 t m) (step : ∀ i u t m, us[i]? = some u → Inv i t m → okP (g u t m) fun t' m' => okS (b t' m') (Inv (i + 1)) R) (fin : ∀ t m, Inv us.length t m → N t m) :
    okS (loopI (constIt us) g b us.length 0 t m) N R := by
  have e := loopL_all g b us t m
  have el : (constIt us).len = us.length := rfl
  rw [el] at e
  rw [e]
  exact loopL_inv Inv step fin us 0 rfl (Nat.zero_le _) t m h0
@[simp] theorem ok_sFor {f : I1} {g : G1} {b : S1} : okS (sFor f g b t m) N R ↔ okO (f t m) fun it m1 => okS (loopI it g b it.len 0 t m1) N R := by
  unfold sFor
  rw [ok_sE]
@[simp] theorem ok_cIt {f : E1} {P : ItU → MH → Prop} : okO (cIt f t m) P ↔ okO (f t m) fun u m1 => okP (itOf u m1) P := by
  unfold cIt
  simp only [okO_bind, okO_ofO]
@[simp] theorem ok_cRng1 {f : Fn1 (List U)} {P : ItU → MH → Prop} : okO (cRng1 f t m) P ↔ okO (f t m) fun us m1 => okP (rngOf1 us m1) P := by
  unfold cRng1
  simp only [okO_bind, okO_ofO]
@[simp] theorem ok_cRng2 {f : Fn1 (List U)} {P : ItU → MH → Prop} : okO (cRng2 f t m) P ↔ okO (f t m) fun us m1 => okP (rngOf2 us m1) P := by
  unfold cRng2
  simp only [okO_bind, okO_ofO]
@[simp] theorem ok_rng1 {j : Int} {P : ItU → MH → Prop} : okP (rngOf1 [.int j] m) P ↔ rngBd j = true ∧ P (constIt (rangeU 0 j.toNat)) m := by
  show okP (if rngBd j = true then some (constIt (rangeU 0 j.toNat), m) else none) P ↔ _
  by_cases h : rngBd j = true
  · rw [if_pos h]
    exact ⟨fun x => ⟨h, x⟩, fun x => x.2⟩
  · rw [if_neg h]
    exact ⟨fun x => x.elim, fun x => h x.1⟩
@[simp] theorem ok_itOf_tup {us : List U} {P : ItU → MH → Prop} : okP (itOf (.tup us) m) P ↔ P (constIt us) m := Iff.rfl
@[simp] theorem ok_itOf_fl {us : List U} {P : ItU → MH → Prop} : okP (itOf (.fl us) m) P ↔ P (constIt us) m := Iff.rfl
@[simp] theorem ok_itOf_cl {us : List U} {P : ItU → MH → Prop} : okP (itOf (.cl us) m) P ↔ P (constIt us) m := Iff.rfl
@[simp] theorem ok_itOf_str {x : Str} {P : ItU → MH → Prop} : okP (itOf (.str x) m) P ↔ P (constIt (signsU x)) m := Iff.rfl
@[simp] theorem ok_cLc {hp : Bool} {f : I1} {g : G1} {q : Fn1 Bool} {e : E1} {own : List Nat} : okO (cLc hp f g q e own t m) Q ↔ okO (f t m) fun it m1 => lineOk it.len = true ∧ okP (lcI it g q e (wipeU t own) it.len 0 [] m1) fun us m2 => Q (flP hp (us, m2)).1 (flP hp (us, m2)).2 := by
  unfold cLc
  rw [okO_bind]
  refine iff_of_eq (congrArg _ (funext fun it => funext fun m1 => propext ?_))
  rw [okO_ofO]
  by_cases h : lineOk it.len = true
  · rw [if_pos h]
    cases lcI it g q e (wipeU t own) it.len 0 [] m1 with
    | none => exact ⟨fun x => x.elim, fun x => x.2.elim⟩
    | some p => exact ⟨fun x => ⟨h, x⟩, fun x => x.2⟩
  · rw [if_neg h]
    exact ⟨fun x => x.elim, fun x => h x.1⟩
theorem lc_inv {g : G1} {q : Fn1 Bool} {e : E1} {t0 : Env1} (Inv : Nat → List U → MH → Prop) {us : List U}
    (step : ∀ i u acc m, us[i]? = some u → Inv i acc m → okP (g u t0 m) fun t1 m1 => okO (q t1 m1) fun b m2 => (b = true → okO (e t1 m2) fun w m3 => Inv (i + 1) (acc ++ [w]) m3) ∧ (b = false → Inv (i + 1) acc m2)) :
    ∀ (k i : Nat) (acc : List U) (m : MH), i + k = us.length → Inv i acc m → okP (lcI (constIt us) g q e t0 k i acc m) (Inv us.length)
  | 0, i, acc, m, hk, h => by
    have : i = us.length := by omega
    subst this
    exact h
  | k + 1, i, acc, m, hk, h => by
    have hlt : i < us.length := by omega
    have eu : (constIt us).get m i = some us[i] := by
      show us[i]? = _
      exact List.getElem?_eq_getElem hlt
    have s := step i us[i] acc m (List.getElem?_eq_getElem hlt) h
    unfold lcI
    rw [eu, Option.bind_some]
    cases e1 : g us[i] t0 m with
    | none =>
      rw [e1] at s
      exact s.elim
    | some p =>
      obtain ⟨t1, m1⟩ := p
      rw [e1] at s
      rw [Option.bind_some]
      dsimp only
      have s' : okO (q t1 m1) fun b m2 => (b = true → okO (e t1 m2) fun w m3 => Inv (i + 1) (acc ++ [w]) m3) ∧ (b = false → Inv (i + 1) acc m2) := s
      cases e2 : q t1 m1 with
      | ok b m2 =>
        rw [e2] at s'
        cases b with
        | true =>
          have s2 := s'.1 rfl
          cases e3 : e t1 m2 with
          | ok w m3 =>
            rw [e3] at s2
            have s3 := lc_inv Inv step k (i + 1) (acc ++ [w]) m3 (by omega) s2
            simp only [e3]
            exact s3
          | _ =>
            rw [e3] at s2
            exact s2.elim
        | false => exact lc_inv Inv step k (i + 1) acc m2 (by omega) (s'.2 rfl)
      | _ =>
        rw [e2] at s'
        exact s'.elim
theorem ok_lc {g : G1} {q : Fn1 Bool} {e : E1} {t0 : Env1} {us : List U} {P : List U → MH → Prop} (Inv : Nat → List U → MH → Prop) (h0 : Inv 0 [] m)
    (step : ∀ i u acc m, us[i]? = some u → Inv i acc m → okP (g u t0 m) fun t1 m1 => okO (q t1 m1) fun b m2 => (b = true → okO (e t1 m2) fun w m3 => Inv (i + 1) (acc ++ [w]) m3) ∧ (b = false → Inv (i + 1) acc m2))
    (fin : ∀ acc m, Inv us.length acc m → P acc m) : okP (lcI (constIt us) g q e t0 us.length 0 [] m) P :=
  okP_mono (lc_inv Inv step us.length 0 [] m (Nat.zero_add _) h0) fin
/-- while: a measure -/
theorem ok_while {q : Fn1 Bool} {b : S1} (Inv : Nat → Env1 → MH → Prop) (step : ∀ n t m, Inv n t m → okO (q t m) fun x m1 => (x = true → okS (b t m1) (fun t' m' => ∃ n', n' < n ∧ Inv n' t' m') R) ∧ (x = false → N t m1)) :
    ∀ (k n : Nat) (t : Env1) (m : MH), n < k → Inv n t m → okS (sWhile q b k t m) N R
  | 0, n, t, m, hk, h => absurd hk (Nat.not_lt_zero _)
  | k + 1, n, t, m, hk, h => by
    have s := step n t m h
    unfold sWhile
    rw [ok_sE]
    refine okO_mono s fun x m1 hx => ?_
    cases x with
    | false => exact hx.2 rfl
    | true =>
      have s1 := hx.1 rfl
      dsimp only
      cases e : b t m1 with
      | nx t2 m2 =>
        rw [e] at s1
        obtain ⟨n', hn, h'⟩ := s1
        exact ok_while Inv step k n' t2 m2 (by omega) h'
      | rt u m2 =>
        rw [e] at s1
        exact s1
      | _ =>
        rw [e] at s1
        exact s1.elim
end
/-- a def's run -/
theorem ok_run {T : Tab} {f : De} {c : S1} (e : bodyU T f = c) {us : List U} {m : MH} {Q : U → MH → Prop} (hl : us.length = f.ps.length) (h : okS (c (startU f.N us) m) (fun _ m' => Q .non m') Q) : okO (runDf T f us m) Q := by
  unfold runDf
  rw [if_pos hl, e]
  cases e1 : c (startU f.N us) m with
  | nx t m' =>
    rw [e1] at h
    exact h
  | rt u m' =>
    rw [e1] at h
    exact h
  | _ =>
    rw [e1] at h
    exact h.elim
theorem callN_some {S : Sta} {n : Nat} {key : FKey} {f : De} (h : S.df key = some f) : callN S (n + 1) key = runDf (S.tab (callN S n)) f := by
  funext us m
  show (match S.df key with
    | none => Out.bad
    | some f => runDf (S.tab (callN S n)) f us m) = _
  rw [h]
end Mi
/-! Mi, part X: operations on known values; the drawing of numbers that many laws share. -/
namespace Mi
open PySem PySem.Spec PyProof.Rows L2
set_option linter.unusedVariables false
set_option maxRecDepth 10000
set_option exponentiation.threshold 2000
section
variable {Q : U → MH → Prop} {m : MH}
theorem okP_ite {α : Type} {b : Bool} {p : α × MH} {P : α → MH → Prop} : okP (if b = true then some p else none) P ↔ b = true ∧ P p.1 p.2 := by
  by_cases h : b = true
  · rw [if_pos h]
    exact ⟨fun x => ⟨h, x⟩, fun x => x.2⟩
  · rw [if_neg h]
    exact ⟨fun x => x.elim, fun x => h x.1⟩
@[simp] theorem ok_add (i j : Int) : okP (addU (.int i) (.int j) m) Q ↔ Q (.int (i + j)) m := Iff.rfl
@[simp] theorem ok_sub (i j : Int) : okP (subU (.int i) (.int j) m) Q ↔ Q (.int (i - j)) m := Iff.rfl
@[simp] theorem ok_neg (i : Int) : okP (negU (.int i) m) Q ↔ Q (.int (-i)) m := Iff.rfl
theorem ok_mul {i j : Int} (h : mulOk i j = true) : okP (mulU (.int i) (.int j) m) Q ↔ Q (.int (i * j)) m := by
  show okP (if mulOk i j = true then some (.int (i * j), m) else none) Q ↔ _
  rw [if_pos h]
  exact Iff.rfl
theorem ok_mod {i j : Int} (h : 0 < j) : okP (modU (.int i) (.int j) m) Q ↔ Q (.int (i % j)) m := by
  show okP (if decide (0 < j) = true then some (.int (i % j), m) else none) Q ↔ _
  rw [if_pos (decide_eq_true h)]
  exact Iff.rfl
theorem ok_div {i j : Int} (h : divOk j = true) : okP (fdivU (.int i) (.int j) m) Q ↔ Q (.int (i / j)) m := by
  show okP (if divOk j = true then some (.int (i / j), m) else none) Q ↔ _
  rw [if_pos h]
  exact Iff.rfl
theorem ok_pow {i j : Int} (h : powOk i j = true) : okP (powU (.int i) (.int j) m) Q ↔ Q (.int (i ^ j.toNat)) m := by
  show okP (if powOk i j = true then some (.int (i ^ j.toNat), m) else none) Q ↔ _
  rw [if_pos h]
  exact Iff.rfl
@[simp] theorem ok_cmpI (p : Int → Int → Bool) (i j : Int) : okP (cmpI p (.int i) (.int j) m) Q ↔ Q (.bl (p i j)) m := Iff.rfl
@[simp] theorem ok_eqI (i j : Int) : okP (eqU (.int i) (.int j) m) Q ↔ Q (.bl (decide (i = j))) m := Iff.rfl
@[simp] theorem ok_neI (i j : Int) : okP (neU (.int i) (.int j) m) Q ↔ Q (.bl (!decide (i = j))) m := Iff.rfl
@[simp] theorem ok_eqS (i j : Str) : okP (eqU (.str i) (.str j) m) Q ↔ Q (.bl (decide (i = j))) m := Iff.rfl
@[simp] theorem ok_neS (i j : Str) : okP (neU (.str i) (.str j) m) Q ↔ Q (.bl (!decide (i = j))) m := Iff.rfl
@[simp] theorem ok_eqB (i j : Bool) : okP (eqU (.bl i) (.bl j) m) Q ↔ Q (.bl (decide (i = j))) m := Iff.rfl
@[simp] theorem ok_neB (i j : Bool) : okP (neU (.bl i) (.bl j) m) Q ↔ Q (.bl (!decide (i = j))) m := Iff.rfl
theorem ok_eqOf {u w : U} {b : Bool} (h : eqB u w m = some b) : okP (eqU u w m) Q ↔ Q (.bl b) m := by
  unfold eqU
  rw [h]
  exact Iff.rfl
theorem ok_neOf {u w : U} {b : Bool} (h : eqB u w m = some b) : okP (neU u w m) Q ↔ Q (.bl (!b)) m := by
  unfold neU
  rw [h]
  exact Iff.rfl
theorem ok_idxL {n : Nat} {us : List U} {i : Int} {u : U} (h : m[n]? = some (.lst us)) (e : atI us i = some u) : okP (idxU (.ref n) (.int i) m) Q ↔ Q u m := by
  have e0 : seqL (.ref n) m = some us := by
    unfold seqL
    simp only [h]
  have e1 : idxU (.ref n) (.int i) m = (atI us i).map fun u => (u, m) := by
    unfold idxU
    simp only [e0]
  rw [e1, e]
  exact Iff.rfl
theorem ok_idxF {us : List U} {i : Int} {u : U} (e : atI us i = some u) : okP (idxU (.fl us) (.int i) m) Q ↔ Q u m := by
  have e1 : idxU (.fl us) (.int i) m = (atI us i).map fun u => (u, m) := rfl
  rw [e1, e]
  exact Iff.rfl
theorem ok_idxT {us : List U} {i : Int} {u : U} (e : atI us i = some u) : okP (idxU (.tup us) (.int i) m) Q ↔ Q u m := by
  have e1 : idxU (.tup us) (.int i) m = (atI us i).map fun u => (u, m) := rfl
  rw [e1, e]
  exact Iff.rfl
theorem ok_mkFl {us : List U} (h : lineOk us.length = true) : okP (mkFl us m) Q ↔ Q (.fl us) m := by
  unfold mkFl
  rw [if_pos h]
  exact Iff.rfl
theorem ok_mkLst {us : List U} (h : lineOk us.length = true) : okP (mkLst us m) Q ↔ Q (.ref m.length) (m ++ [.lst us]) := by
  unfold mkLst
  rw [if_pos h]
  exact Iff.rfl
theorem ok_mkTup {us : List U} (h : lineOk us.length = true) : okP (mkTup us m) Q ↔ Q (.tup us) m := by
  unfold mkTup
  rw [if_pos h]
  exact Iff.rfl
theorem ixN_nat {n : Nat} {i : Int} (h0 : 0 ≤ i) (h1 : i < n) : ixN n i = some i.toNat := by
  unfold ixN
  rw [if_pos h0, if_pos h1]
theorem atI_nat {α : Type} {us : List α} {i : Int} (h0 : 0 ≤ i) (h1 : i < us.length) : atI us i = us[i.toNat]? := by
  unfold atI ixN
  rw [if_pos h0, if_pos h1]
  rfl
theorem atI_0 {α : Type} {us : List α} {a : α} : atI (a :: us) 0 = some a := by
  rw [atI_nat (Int.le_refl _) (by rw [List.length_cons]; omega)]
  rfl
theorem atI_last {α : Type} {us : List α} {a : α} : atI (us ++ [a]) (-1) = some a := by
  unfold atI ixN
  rw [if_neg (by decide)]
  have h : (-((us ++ [a]).length : Int)) ≤ -1 := by rw [List.length_append]; simp; omega
  rw [if_pos h]
  have e : (-1 + ((us ++ [a]).length : Int)).toNat = us.length := by rw [List.length_append]; simp; omega
  show (us ++ [a])[(-1 + ((us ++ [a]).length : Int)).toNat]? = _
  rw [e, List.getElem?_append_right (Nat.le_refl _), Nat.sub_self]
  rfl
theorem ok_pop0 {g : Nat} {u : U} {us : List U} (h : m[g]? = some (.lst (u :: us))) : okP (mePop (.ref g) [.int 0] m) Q ↔ Q u (m.set g (.lst us)) := by
  have e : mePop (.ref g) [.int 0] m = some (u, m.set g (.lst us)) := by
    unfold mePop lstAt
    simp only [h, Option.bind_some]
    have e2 : ixN (u :: us).length 0 = some 0 := by
      unfold ixN
      rw [if_pos (Int.le_refl _), if_pos (by rw [List.length_cons]; omega)]
      rfl
    rw [e2]
    rfl
  rw [e]
  exact Iff.rfl
theorem recv_lst {g : Nat} {us : List U} (h : m[g]? = some (.lst us)) : recvK (.ref g) m = some "list" := by
  unfold recvK
  simp only [h]
theorem ok_append {g : Nat} {u : U} {us : List U} (h : m[g]? = some (.lst us)) (hl : lineOk (us.length + 1) = true) : okP (meAppend (.ref g) [u] m) Q ↔ Q .non (m.set g (.lst (us ++ [u]))) := by
  have e : meAppend (.ref g) [u] m = some (.non, m.set g (.lst (us ++ [u]))) := by
    unfold meAppend lstAt
    simp only [h, Option.bind_some, hl, if_true]
  rw [e]
  exact Iff.rfl
theorem ok_setL {n : Nat} {us : List U} {k : Int} {j : Nat} {u : U} {P : MH → Prop} (h : m[n]? = some (.lst us)) (hj : ixN us.length k = some j) (q : P (m.set n (.lst (us.set j u)))) : ∃ m3, setU (.ref n) (.int k) u m = some m3 ∧ P m3 := by
  refine ⟨_, ?_, q⟩
  unfold setU
  simp only [h, hj, Option.map_some]
theorem ok_lenF {us : List U} : okP (biLen [.fl us] m) Q ↔ Q (.int us.length) m := Iff.rfl
theorem ok_lenS {x : Str} (h : lineOk x.length = true) : okP (biLen [.str x] m) Q ↔ Q (.int x.length) m := by
  have e : biLen [.str x] m = some (.int x.length, m) := by
    show (if lineOk x.length = true then some x.length else none).map _ = _
    rw [if_pos h]
    rfl
  rw [e]
  exact Iff.rfl
theorem ok_lenR {g : Nat} {us : List U} (h : m[g]? = some (.lst us)) : okP (biLen [.ref g] m) Q ↔ Q (.int us.length) m := by
  have e : biLen [.ref g] m = some (.int us.length, m) := by
    unfold biLen lenU
    simp only [h, Option.map_some]
  rw [e]
  exact Iff.rfl
/-- a method of a built-in thing -/
theorem ok_meth {T : Tab} {name : Str} {kind : String} {phi : MU} {n : Nat} {o : E1} {a b : Fn1 (List U)} {t : Env1} (hk : methTab name kind = some phi)
    (h : okO (o t m) fun u m1 => recvK u m1 = some kind ∧ okO (a t m1) fun us m2 => us.length = n ∧ okP (phi u us m2) Q) : okO (cMeth T name n [] o a b t m) Q := by
  unfold cMeth
  rw [okO_bind]
  refine okO_mono h fun u m1 ⟨h1, h2⟩ => ?_
  simp only [h1, hk, if_true]
  rw [okO_bind]
  refine okO_mono h2 fun us m2 ⟨h3, h4⟩ => ?_
  rw [if_pos h3, okO_ofO]
  exact h4
end
/-! ### lists of whole numbers -/
theorem lay_ints : ∀ gs : List Int, layUs (gs.map U.int) = true
  | [] => rfl
  | g :: gs => by
    show (layU (.int g) && layUs (gs.map U.int)) = true
    rw [lay_ints gs]
    rfl
theorem dep_ints : ∀ gs : List Int, depUs (gs.map U.int) = 0
  | [] => rfl
  | g :: gs => by
    show max (depU (.int g)) (depUs (gs.map U.int)) = 0
    rw [dep_ints gs]
    rfl
theorem okD_ints (gs : List Int) : okD (.fl (gs.map U.int)) = true := by
  unfold okD
  show (layUs (gs.map U.int) && decide (depUs (gs.map U.int) + 1 ≤ 50)) = true
  rw [lay_ints, dep_ints]
  rfl
theorem eqv_nil (l : List PyData) : PyData.eqv (.list l) (.list []) = l.isEmpty := by
  cases l <;> rfl
theorem deref_lst {m : MH} {g : Nat} {us : List U} (h : m[g]? = some (.lst us)) : deref (.ref g) m = .fl us := by
  unfold deref
  simp only [h]
theorem toDs_empty (us : List U) : (toDs us).isEmpty = us.isEmpty := by
  cases us <;> rfl
theorem eq_nil_ref {m : MH} {g : Nat} {gs : List Int} (h : m[g]? = some (.lst (gs.map U.int))) : eqB (.ref g) (.fl []) m = some gs.isEmpty := by
  unfold eqB
  show (if (okD (deref (.ref g) m) && okD (.fl [])) = true then some (PyData.eqv (toD (deref (.ref g) m)) (.list [])) else none) = _
  rw [deref_lst h, okD_ints]
  show (if (true && okD (.fl [])) = true then some (PyData.eqv (.list (toDs (gs.map U.int))) (.list [])) else none) = _
  rw [if_pos (show (true && okD (.fl [])) = true from rfl), eqv_nil, toDs_empty]
  cases gs <;> rfl
theorem eq_nil_fl {m : MH} {gs : List Int} : eqB (.fl (gs.map U.int)) (.fl []) m = some gs.isEmpty := by
  unfold eqB
  show (if (okD (.fl (gs.map U.int)) && okD (.fl [])) = true then some (PyData.eqv (.list (toDs (gs.map U.int))) (.list [])) else none) = _
  rw [okD_ints, if_pos (show (true && okD (.fl [])) = true from rfl), eqv_nil, toDs_empty]
  cases gs <;> rfl
/-! ### _law_bag, _law_draw -/
def bigM : Int := 618970019642690137449562111
structure BagG (m : MH) (b g : Nat) (gs ls : List Int) (n s : Int) : Prop where
  hb : m[b]? = some (.lst [.ref g, .fl (ls.map U.int), .int n, .int s])
  hg : m[g]? = some (.lst (gs.map U.int))
  ne : b ≠ g
  len : gs.length ≤ 63
  l0 : ls ≠ []
  lb : ∀ x ∈ ls, 0 ≤ x ∧ x < 10 ^ 18
  n0 : 0 ≤ n
  s0 : 0 ≤ s
  s1 : s < bigM
def Bag (m : MH) (b g : Nat) (N : Nat) : Prop := ∃ gs ls n s, BagG m b g gs ls n s ∧ n ≤ (N : Int)
/-- nothing beside the bag has changed -/
def Fr (b g : Nat) (m m' : MH) : Prop := m'.length = m.length ∧ ∀ i, i ≠ b → i ≠ g → m'[i]? = m[i]?
theorem Fr.refl (b g : Nat) (m : MH) : Fr b g m m := ⟨rfl, fun _ _ _ => rfl⟩
theorem Fr.trans {b g : Nat} {m m1 m2 : MH} (a : Fr b g m m1) (c : Fr b g m1 m2) : Fr b g m m2 := ⟨c.1.trans a.1, fun i h1 h2 => (c.2 i h1 h2).trans (a.2 i h1 h2)⟩
theorem Fr.setB {b g : Nat} {m : MH} {o : MO} : Fr b g m (m.set b o) := ⟨List.length_set, fun i h1 _ => List.getElem?_set_ne (Ne.symm h1)⟩
theorem Fr.setG {b g : Nat} {m : MH} {o : MO} : Fr b g m (m.set g o) := ⟨List.length_set, fun i _ h2 => List.getElem?_set_ne (Ne.symm h2)⟩
theorem get_lt {m : MH} {b : Nat} {o : MO} (h : m[b]? = some o) : b < m.length := (List.getElem?_eq_some_iff.mp h).1
theorem get_set {m : MH} {b : Nat} {o o' : MO} (h : m[b]? = some o) : (m.set b o')[b]? = some o' := List.getElem?_set_self (get_lt h)
def c_draw (T : Tab) : S1 := (sSeq (sWhile (cAnd (cIsBl (cBin neU (cBin idxU (cVar 0) (cK (.int 0))) (cFn mkFl cNil))) (cIsBl (cBin eqU (cBin idxU (cBin idxU (cVar 0) (cK (.int 0))) (cK (.int 0))) (cK (.int 0))))) (sSeq (sDrop (cMeth T "pop" 1 [] (cBin idxU (cVar 0) (cK (.int 0))) (cCons (cK (.int 0)) cNil) cNil)) sNx) 70) (sSeq (sIf (cIsBl (cBin neU (cBin idxU (cVar 0) (cK (.int 0))) (cFn mkFl cNil))) (sSeq (sAsg (cBin modU (cBin idxU (cBin idxU (cVar 0) (cK (.int 0))) (cK (.int 0))) (cVar 1)) (gName 3)) (sSeq (sAsg (cBin fdivU (cBin idxU (cBin idxU (cVar 0) (cK (.int 0))) (cK (.int 0))) (cVar 1)) (gSubU (cBin idxU (cVar 0) (cK (.int 0))) (cK (.int 0)))) (sSeq (sRet (cVar 3)) sNx))) sNx) (sSeq (sAsg (cBin addU (cBin idxU (cVar 0) (cK (.int 2))) (cK (.int 1))) (gSubU (cVar 0) (cK (.int 2)))) (sSeq (sAsg (cBin idxU (cBin idxU (cVar 0) (cK (.int 1))) (cBin modU (cBin idxU (cVar 0) (cK (.int 2))) (cFn biLen (cCons (cBin idxU (cVar 0) (cK (.int 1))) cNil)))) (gName 2)) (sSeq (sAsg (cBin modU (cBin powU (cBin addU (cBin idxU (cVar 0) (cK (.int 3))) (cBin mulU (cBin addU (cVar 2) (cBin mulU (cK (.int 3)) (cBin idxU (cVar 0) (cK (.int 2))))) (cBin addU (cBin mulU (cK (.int 2)) (cBin idxU (cVar 0) (cK (.int 2)))) (cK (.int 1))))) (cK (.int 7))) (cK (.int 618970019642690137449562111))) (gSubU (cVar 0) (cK (.int 3)))) (sSeq (sRet (cBin modU (cBin fdivU (cBin idxU (cVar 0) (cK (.int 3))) (cK (.int 65536))) (cVar 1))) sNx))))))
section
variable {m : MH} {b g : Nat} {gs ls : List Int} {n s : Int}
theorem BagG.at0 (h : BagG m b g gs ls n s) {Q : U → MH → Prop} : okP (idxU (.ref b) (.int 0) m) Q ↔ Q (.ref g) m := ok_idxL h.hb rfl
theorem BagG.at1 (h : BagG m b g gs ls n s) {Q : U → MH → Prop} : okP (idxU (.ref b) (.int 1) m) Q ↔ Q (.fl (ls.map U.int)) m := ok_idxL h.hb rfl
theorem BagG.at2 (h : BagG m b g gs ls n s) {Q : U → MH → Prop} : okP (idxU (.ref b) (.int 2) m) Q ↔ Q (.int n) m := ok_idxL h.hb rfl
theorem BagG.at3 (h : BagG m b g gs ls n s) {Q : U → MH → Prop} : okP (idxU (.ref b) (.int 3) m) Q ↔ Q (.int s) m := ok_idxL h.hb rfl
theorem BagG.atG {x : Int} (h : BagG m b g (x :: gs) ls n s) {Q : U → MH → Prop} : okP (idxU (.ref g) (.int 0) m) Q ↔ Q (.int x) m := ok_idxL h.hg atI_0
theorem BagG.setG (h : BagG m b g gs ls n s) {gs' : List Int} (hl : gs'.length ≤ 63) : BagG (m.set g (.lst (gs'.map U.int))) b g gs' ls n s :=
  ⟨by rw [List.getElem?_set_ne (Ne.symm h.ne)]; exact h.hb, get_set h.hg, h.ne, hl, h.l0, h.lb, h.n0, h.s0, h.s1⟩
theorem BagG.setB (h : BagG m b g gs ls n s) {n' s' : Int} (h1 : 0 ≤ n') (h2 : 0 ≤ s') (h3 : s' < bigM) : BagG (m.set b (.lst [.ref g, .fl (ls.map U.int), .int n', .int s'])) b g gs ls n' s' :=
  ⟨get_set h.hb, by rw [List.getElem?_set_ne h.ne]; exact h.hg, h.ne, h.len, h.l0, h.lb, h1, h2, h3⟩
theorem nat_lt {x : Int} (k n : Nat) (h0 : 0 ≤ x) (h1 : x < (2 : Int) ^ k) (h2 : k ≤ n) : x.natAbs < 2 ^ n := by
  have e : (x.natAbs : Int) = x := Int.natAbs_of_nonneg h0
  have h3 : (x.natAbs : Int) < ((2 ^ k : Nat) : Int) := by
    rw [e]
    exact_mod_cast h1
  exact Nat.lt_of_lt_of_le (Int.ofNat_lt.mp h3) (Nat.pow_le_pow_right (by decide) h2)
theorem draw_ok {T : Tab} {N : Nat} {k : Int} (h : Bag m b g N) (hN : N < 10 ^ 9) (hk : 0 < k) (hk2 : k < 2 ^ 200) :
    okS (c_draw T [some (.ref b), some (.int k), none, none] m) (fun _ _ => False) fun v m' => ∃ i, v = .int i ∧ 0 ≤ i ∧ i < k ∧ Bag m' b g (N + 1) ∧ Fr b g m m' := by
  obtain ⟨gs, ls, n, s, h, hn⟩ := h
  unfold c_draw
  rw [ok_sSeq]
  refine ok_while (fun j t m' => t = [some (.ref b), some (.int k), none, none] ∧ ∃ gs', BagG m' b g gs' ls n s ∧ Fr b g m m' ∧ gs'.length = j) ?_ 70 gs.length _ m (by have := h.len; omega) ⟨rfl, gs, h, Fr.refl _ _ _, rfl⟩
  rintro j t m1 ⟨rfl, gs1, h1, f1, rfl⟩
  have dk : divOk k = true := by
    unfold divOk
    rw [Bool.and_eq_true, decide_eq_true_eq, decide_eq_true_eq]
    exact ⟨hk, nat_lt 200 1000 (by omega) hk2 (by decide)⟩
  -- behind the loop: nothing left there, or a number that isn't 0
  have rest : okS (sSeq (sIf (cIsBl (cBin neU (cBin idxU (cVar 0) (cK (.int 0))) (cFn mkFl cNil))) (sSeq (sAsg (cBin modU (cBin idxU (cBin idxU (cVar 0) (cK (.int 0))) (cK (.int 0))) (cVar 1)) (gName 3)) (sSeq (sAsg (cBin fdivU (cBin idxU (cBin idxU (cVar 0) (cK (.int 0))) (cK (.int 0))) (cVar 1)) (gSubU (cBin idxU (cVar 0) (cK (.int 0))) (cK (.int 0)))) (sSeq (sRet (cVar 3)) sNx))) sNx) (sSeq (sAsg (cBin addU (cBin idxU (cVar 0) (cK (.int 2))) (cK (.int 1))) (gSubU (cVar 0) (cK (.int 2)))) (sSeq (sAsg (cBin idxU (cBin idxU (cVar 0) (cK (.int 1))) (cBin modU (cBin idxU (cVar 0) (cK (.int 2))) (cFn biLen (cCons (cBin idxU (cVar 0) (cK (.int 1))) cNil)))) (gName 2)) (sSeq (sAsg (cBin modU (cBin powU (cBin addU (cBin idxU (cVar 0) (cK (.int 3))) (cBin mulU (cBin addU (cVar 2) (cBin mulU (cK (.int 3)) (cBin idxU (cVar 0) (cK (.int 2))))) (cBin addU (cBin mulU (cK (.int 2)) (cBin idxU (cVar 0) (cK (.int 2)))) (cK (.int 1))))) (cK (.int 7))) (cK (.int 618970019642690137449562111))) (gSubU (cVar 0) (cK (.int 3)))) (sSeq (sRet (cBin modU (cBin fdivU (cBin idxU (cVar 0) (cK (.int 3))) (cK (.int 65536))) (cVar 1))) sNx)))) [some (.ref b), some (.int k), none, none] m1) (fun _ _ => False) fun v m' => ∃ i, v = .int i ∧ 0 ≤ i ∧ i < k ∧ Bag m' b g (N + 1) ∧ Fr b g m m' := by
    have dk6 : divOk 65536 = true := rfl
    simp only [ok_sSeq, ok_sIf, ok_cIsBl, ok_cBin, ok_cVar0, ok_cK, h1.at0, ok_cFn, ok_cNil, ok_mkFl (us := []) rfl, ok_neOf (eq_nil_ref h1.hg), ok_blOf]
    cases gs1 with
    | cons x gs1 =>
      refine ⟨fun _ => ?_, fun z => (nomatch z)⟩
      simp only [ok_sAsg, ok_cBin, ok_cVar0, ok_cVarS, ok_cK, h1.at0, h1.atG, ok_mod hk, ok_gName, ok_gSubU, ok_div dk, ok_sRet, List.set_cons_succ, List.set_cons_zero]
      refine ok_setL h1.hg (j := 0) (ixN_nat (Int.le_refl _) (by rw [List.length_map, List.length_cons]; omega)) ?_
      have h2 := h1.setG (gs' := (x / k) :: gs1) (by have := h1.len; simpa using this)
      exact ⟨x % k, rfl, Int.emod_nonneg _ (by omega), Int.emod_lt_of_pos _ hk, ⟨_, _, _, _, h2, by omega⟩, f1.trans Fr.setG⟩
    | nil =>
      refine ⟨fun z => (nomatch z), fun _ => ?_⟩
      simp only [ok_sNx, ok_sSeq, ok_sAsg, ok_cBin, ok_cVar0, ok_cVarS, ok_cK, h1.at2, ok_add, ok_gName, ok_gSubU]
      refine ok_setL h1.hb (j := 2) rfl ?_
      have h2 := h1.setB (n' := n + 1) (s' := s) (by have := h1.n0; omega) h1.s0 h1.s1
      have hl : 0 < (ls.map U.int).length := by
        rw [List.length_map]
        exact List.length_pos_iff.mpr h1.l0
      have hl' : (0 : Int) < ((ls.map U.int).length : Int) := by omega
      simp only [List.set_cons_succ, List.set_cons_zero] at h2 ⊢
      simp only [ok_sAsg, ok_cBin, ok_cVar0, ok_cVarS, ok_cK, h2.at1, h2.at2, ok_cFn, ok_cCons, ok_cNil, ok_lenF, ok_mod hl', ok_gName]
      have i0 : 0 ≤ (n + 1) % ((ls.map U.int).length : Int) := Int.emod_nonneg _ (by omega)
      have i1 : (n + 1) % ((ls.map U.int).length : Int) < ((ls.map U.int).length : Int) := Int.emod_lt_of_pos _ hl'
      obtain ⟨y, ey, hy⟩ : ∃ y, atI (ls.map U.int) ((n + 1) % ((ls.map U.int).length : Int)) = some (.int y) ∧ y ∈ ls := by
        rw [atI_nat i0 i1, List.getElem?_map]
        have : ((n + 1) % ((ls.map U.int).length : Int)).toNat < ls.length := by
          rw [List.length_map] at i1 i0 ⊢
          omega
        rw [List.getElem?_eq_getElem this]
        exact ⟨_, rfl, List.getElem_mem _⟩
      obtain ⟨y0, y1⟩ := h1.lb y hy
      have hnN : n + 1 ≤ (N : Int) + 1 := by omega
      have hN' : (N : Int) < 10 ^ 9 := by exact_mod_cast hN
      have n0 := h1.n0
      have s0 := h1.s0
      have s1 := h1.s1
      unfold bigM at s1
      have m1ok : mulOk 3 (n + 1) = true := by
        unfold mulOk
        rw [Bool.or_eq_true, Bool.or_eq_true]
        exact .inl (.inl rfl)
      have m2ok : mulOk 2 (n + 1) = true := by
        unfold mulOk
        rw [Bool.or_eq_true, Bool.or_eq_true]
        exact .inl (.inl rfl)
      have b2 : 2 * (n + 1) + 1 < 4 * 10 ^ 9 := by omega
      have m3ok : mulOk (y + 3 * (n + 1)) (2 * (n + 1) + 1) = true := by
        unfold mulOk
        rw [Bool.or_eq_true, Bool.or_eq_true, decide_eq_true_eq, decide_eq_true_eq]
        exact .inl (.inr (by omega))
      have p0 : 0 ≤ (y + 3 * (n + 1)) * (2 * (n + 1) + 1) := Int.mul_nonneg (by omega) (by omega)
      have p1 : (y + 3 * (n + 1)) * (2 * (n + 1) + 1) ≤ (2 * 10 ^ 18) * (4 * 10 ^ 9) := Int.mul_le_mul (by omega) (by omega) (by omega) (by omega)
      have pok : powOk (s + (y + 3 * (n + 1)) * (2 * (n + 1) + 1)) 7 = true := by
        unfold powOk
        have e1 : (decide (0 ≤ (7 : Int)) && decide ((7 : Int) ≤ 100)) = true := rfl
        rw [e1, Bool.true_and, decide_eq_true_eq]
        exact nat_lt 100 1000 (by omega) (by omega) (by decide)
      simp only [ok_idxF ey, ok_gName, List.set_cons_succ, List.set_cons_zero, ok_cBin, ok_sSeq, ok_sAsg, ok_cVar0, ok_cVarS, ok_cK, h2.at3, h2.at2, ok_mul m1ok, ok_mul m2ok, ok_add, ok_mul m3ok, ok_pow pok, ok_mod (show (0 : Int) < 618970019642690137449562111 by decide), ok_gSubU]
      refine ok_setL h2.hb (j := 3) rfl ?_
      generalize he : (s + (y + 3 * (n + 1)) * (2 * (n + 1) + 1)) ^ (Int.toNat 7) % 618970019642690137449562111 = s2
      have z0 : 0 ≤ s2 := by rw [← he]; exact Int.emod_nonneg _ (by decide)
      have z1 : s2 < bigM := by rw [← he]; exact Int.emod_lt_of_pos _ (by decide)
      have h3 := h2.setB (n' := n + 1) (s' := s2) (by omega) z0 z1
      simp only [List.set_cons_succ, List.set_cons_zero] at h3 ⊢
      simp only [ok_sRet, ok_cBin, ok_cVar0, ok_cVarS, ok_cK, h3.at3, ok_div dk6, ok_mod hk]
      exact ⟨_, rfl, Int.emod_nonneg _ (by omega), Int.emod_lt_of_pos _ hk, ⟨_, _, _, _, h3, by omega⟩, (f1.trans Fr.setB).trans Fr.setB⟩
  simp only [ok_cAnd, ok_cIsBl, ok_cBin, ok_cVar0, ok_cK, h1.at0, ok_cFn, ok_cNil, ok_mkFl (us := []) rfl, ok_neOf (eq_nil_ref h1.hg), ok_blOf]
  cases gs1 with
  | nil =>
    refine ⟨fun z => (nomatch z), fun _ => ⟨fun z => (nomatch z), fun _ => rest⟩⟩
  | cons x gs1 =>
    refine ⟨fun _ => ?_, fun z => (nomatch z)⟩
    simp only [h1.atG, ok_eqI, ok_blOf]
    refine ⟨fun _ => ?_, fun _ => rest⟩
    simp only [ok_sSeq, ok_sDrop, ok_sNx]
    refine ok_meth (kind := "list") (phi := mePop) rfl ?_
    simp only [ok_cBin, ok_cVar0, ok_cK, h1.at0, ok_cCons, ok_cNil, ok_pop0 h1.hg]
    exact ⟨recv_lst h1.hg, rfl, _, Nat.lt_succ_self _, trivial, gs1, h1.setG (by have := h1.len; simp at this; omega), f1.trans Fr.setG, rfl⟩
end
end Mi
/-! Mi, part Y: _law_bag, _law_count. -/
namespace Mi
open PySem PySem.Spec PyProof.Rows L2
set_option linter.unusedVariables false
set_option linter.unusedSimpArgs false
set_option maxRecDepth 10000
set_option exponentiation.threshold 2000
section
variable {Q : U → MH → Prop} {m : MH}
theorem ok_slcC {us : List U} {lo hi : Option Int} : okP (slcU (.cl us) lo hi m) Q ↔ Q (.fl (cutU us lo hi)) m := Iff.rfl
theorem ok_slcF {us : List U} {lo hi : Option Int} : okP (slcU (.fl us) lo hi m) Q ↔ Q (.fl (cutU us lo hi)) m := Iff.rfl
theorem cut_ints (ns : List Int) (lo hi : Option Int) : ∃ ks : List Int, cutU (ns.map U.int) lo hi = ks.map U.int ∧ ks.length ≤ ns.length := by
  unfold cutU
  refine ⟨(ns.drop (HT.sIx (ns.map U.int).length 0 lo)).take (HT.sIx (ns.map U.int).length (ns.map U.int).length hi - HT.sIx (ns.map U.int).length 0 lo), ?_, ?_⟩
  · rw [List.map_take, List.map_drop]
  · rw [List.length_take, List.length_drop]
    omega
theorem ok_addF {us ws : List U} (h : lineOk (us.length + ws.length) = true) : okP (addU (.fl us) (.fl ws) m) Q ↔ Q (.fl (us ++ ws)) m := by
  have e : addU (.fl us) (.fl ws) m = some (.fl (us ++ ws), m) := by
    unfold addU seqW
    simp only [h, if_true]
  rw [e]
  exact Iff.rfl
theorem line_le {n k : Nat} (h : n ≤ k) (hk : k ≤ 16777216) : lineOk n = true := decide_eq_true (Nat.le_trans h hk)
theorem map_get {ks : List Int} {i : Nat} {u : U} (h : (ks.map U.int)[i]? = some u) : ∃ x, u = .int x ∧ ks[i]? = some x := by
  rw [List.getElem?_map] at h
  cases e : ks[i]? with
  | none =>
    rw [e] at h
    cases h
  | some x =>
    rw [e] at h
    cases h
    exact ⟨x, rfl, rfl⟩
end
def c_bag : S1 := (sSeq (sAsg (cLc true (cIt (cSlice (cVar 0) none (some (cK (.int 63))))) (gName 4) (cIsBl (cBin (cmpI geI) (cVar 4) (cBin powU (cK (.int 10)) (cK (.int 18))))) (cBin subU (cVar 4) (cBin powU (cK (.int 10)) (cK (.int 18)))) [4]) (gName 1)) (sSeq (sAsg (cLc false (cIt (cSlice (cVar 0) none (some (cK (.int 63))))) (gName 4) (cIsBl (cBin (cmpI ltI) (cVar 4) (cBin powU (cK (.int 10)) (cK (.int 18))))) (cBin modU (cVar 4) (cBin powU (cK (.int 10)) (cK (.int 18)))) [4]) (gName 2)) (sSeq (sAsg (cK (.int 5)) (gName 3)) (sSeq (sFor (cIt (cVar 2)) (gName 4) (sSeq (sAsg (cBin modU (cBin powU (cBin addU (cBin addU (cVar 3) (cVar 4)) (cK (.int 1))) (cK (.int 7))) (cK (.int 618970019642690137449562111))) (gName 3)) sNx)) (sSeq (sRet (cFn mkLst (cCons (cVar 1) (cCons (cBin addU (cVar 2) (cFn mkFl (cCons (cK (.int 0)) cNil))) (cCons (cK (.int 0)) (cCons (cVar 3) cNil)))))) sNx)))))
theorem bag_ok {m : MH} {ns : List Int} (hl : ns.length ≤ 63) : okS (c_bag [some (.cl (ns.map U.int)), none, none, none, none] m) (fun _ _ => False) fun v m' => v = .ref (m.length + 1) ∧ Bag m' (m.length + 1) m.length 0 ∧ m'.length = m.length + 2 ∧ ∀ i, i < m.length → m'[i]? = m[i]? := by
  obtain ⟨ks, ek, hk⟩ := cut_ints ns none (some 63)
  have hk63 : ks.length ≤ 63 := Nat.le_trans hk hl
  have pe : powOk 10 18 = true := rfl
  have hlk : lineOk (constIt (ks.map U.int)).len = true := by
    show lineOk (ks.map U.int).length = true
    rw [List.length_map]
    exact line_le hk63 (by decide)
  have h18 : (0 : Int) < (10 : Int) ^ (Int.toNat 18) := by decide
  unfold c_bag
  simp only [ok_sSeq, ok_sAsg, ok_cLc, ok_cIt, ok_cSlice, ok_cVar0, ok_cPart_none, ok_cPart_some, ok_cK, okI_int, ok_slcC, ek, ok_itOf_fl, hlk, true_and]
  refine ok_lc (fun i acc m1 => m1 = m ∧ ∃ gs : List Int, acc = gs.map U.int ∧ gs.length ≤ i) ⟨rfl, [], rfl, Nat.le_refl _⟩ ?_ ?_
  · rintro i u acc m1 hu ⟨rfl, gs, rfl, hg⟩
    obtain ⟨x, rfl, hx⟩ := map_get hu
    simp only [ok_gName, wipeU, List.set_cons_succ, List.set_cons_zero, ok_cIsBl, ok_cBin, ok_cVarS, ok_cVar0, ok_cK, ok_pow pe, ok_cmpI, ok_blOf, ok_sub]
    exact ⟨fun _ => ⟨trivial, gs ++ [_], by rw [List.map_append]; rfl, by rw [List.length_append]; exact Nat.succ_le_succ hg⟩, fun _ => ⟨trivial, gs, rfl, by omega⟩⟩
  rintro acc m1 ⟨rfl, gs, rfl, hg⟩
  rw [List.length_map] at hg
  have hg63 : gs.length ≤ 63 := Nat.le_trans hg hk63
  simp only [flP, ok_gName, List.set_cons_succ, List.set_cons_zero, ok_cVar0, ok_cK, okI_int, ok_slcC, ek, ok_itOf_fl, hlk, true_and]
  refine ok_lc (fun i acc m2 => m2 = m1 ++ [.lst (gs.map U.int)] ∧ ∃ ls : List Int, acc = ls.map U.int ∧ ls.length ≤ i ∧ ∀ x ∈ ls, 0 ≤ x ∧ x < 10 ^ 18) ⟨rfl, [], rfl, Nat.le_refl _, fun _ h => (nomatch h)⟩ ?_ ?_
  · rintro i u acc m2 hu ⟨rfl, ls, rfl, hls, hb⟩
    obtain ⟨x, rfl, hx⟩ := map_get hu
    simp only [ok_gName, wipeU, List.set_cons_succ, List.set_cons_zero, ok_cIsBl, ok_cBin, ok_cVarS, ok_cVar0, ok_cK, ok_pow pe, ok_cmpI, ok_blOf, ok_mod h18]
    refine ⟨fun _ => ⟨trivial, ls ++ [x % 10 ^ (Int.toNat 18)], by rw [List.map_append]; rfl, by rw [List.length_append]; exact Nat.succ_le_succ hls, fun y hy => ?_⟩, fun _ => ⟨trivial, ls, rfl, by omega, hb⟩⟩
    rcases List.mem_append.mp hy with hy | hy
    · exact hb y hy
    · rw [List.mem_singleton.mp hy]
      exact ⟨Int.emod_nonneg _ (by decide), Int.emod_lt_of_pos _ h18⟩
  rintro acc m2 ⟨rfl, ls, rfl, hls, hb⟩
  rw [List.length_map] at hls
  have hls63 : ls.length ≤ 63 := Nat.le_trans hls hk63
  simp only [flP, ok_gName, List.set_cons_succ, List.set_cons_zero, ok_cK, ok_sFor, ok_cIt, ok_cVarS, ok_cVar0, ok_itOf_fl]
  refine ok_loop (us := ls.map U.int) (fun i t m2 => m2 = m1 ++ [.lst (gs.map U.int)] ∧ ∃ s c, t = [some (.cl (ns.map U.int)), some (.ref m1.length), some (.fl (ls.map U.int)), some (.int s), c] ∧ 0 ≤ s ∧ s < bigM) ⟨rfl, 5, none, rfl, by decide, by decide⟩ ?_ ?_
  · rintro i u t m2 hu ⟨rfl, s, c, rfl, s0, s1⟩
    obtain ⟨x, rfl, hx⟩ := map_get hu
    obtain ⟨x0, x1⟩ := hb x (List.mem_of_getElem? hx)
    unfold bigM at s1
    have pok : powOk (s + x + 1) 7 = true := by
      unfold powOk
      have e1 : (decide (0 ≤ (7 : Int)) && decide ((7 : Int) ≤ 100)) = true := rfl
      rw [e1, Bool.true_and, decide_eq_true_eq]
      exact nat_lt 100 1000 (by omega) (by omega) (by decide)
    simp only [ok_gName, List.set_cons_succ, List.set_cons_zero, ok_sSeq, ok_sAsg, ok_cBin, ok_cVarS, ok_cVar0, ok_cK, ok_add, ok_pow pok, ok_mod (show (0 : Int) < 618970019642690137449562111 by decide), ok_sNx]
    exact ⟨trivial, _, _, rfl, Int.emod_nonneg _ (by decide), Int.emod_lt_of_pos _ (by decide)⟩
  rintro t m2 ⟨rfl, s, c, rfl, s0, s1⟩
  have l1 : lineOk ((ls.map U.int).length + [U.int 0].length) = true := by
    rw [List.length_map]
    exact line_le (k := 64) (by show ls.length + 1 ≤ 64; omega) (by decide)
  simp only [ok_sRet, ok_cFn, ok_cCons, ok_cVarS, ok_cVar0, ok_cBin, ok_cK, ok_cNil, ok_mkFl (us := [U.int 0]) rfl, ok_addF l1]
  rw [ok_mkLst rfl]
  have e1 : (m1 ++ [MO.lst (gs.map U.int)]).length = m1.length + 1 := by rw [List.length_append]; rfl
  rw [e1]
  refine ⟨rfl, ⟨gs, ls ++ [0], 0, s, ⟨?_, ?_, by omega, hg63, by simp, ?_, Int.le_refl _, s0, s1⟩, Int.le_refl _⟩, by rw [List.length_append, e1]; rfl, fun i hi => ?_⟩
  · rw [List.getElem?_append_right (by rw [e1]; exact Nat.le_refl _), e1, Nat.sub_self]
    rw [List.map_append]
    rfl
  · rw [List.getElem?_append_left (by rw [e1]; exact Nat.lt_succ_self _), List.getElem?_append_right (Nat.le_refl _), Nat.sub_self]
    rfl
  · intro x hx
    rcases List.mem_append.mp hx with hx | hx
    · exact hb x hx
    · rw [List.mem_singleton.mp hx]
      exact ⟨Int.le_refl _, by decide⟩
  · rw [List.getElem?_append_left (by rw [e1]; omega), List.getElem?_append_left hi]
/-! ### what a table's call of the drawing promises -/
def DrawC (call : FKey → List U → MH → Out U) : Prop := ∀ (m : MH) (b g N : Nat) (k : Int), Bag m b g N → N < 10 ^ 9 → 0 < k → k < 2 ^ 200 → okO (call ("_law_draw", none) [.ref b, .int k] m) fun v m' => ∃ i, v = .int i ∧ 0 ≤ i ∧ i < k ∧ Bag m' b g (N + 1) ∧ Fr b g m m'
def CountC (call : FKey → List U → MH → Out U) : Prop := ∀ (m : MH) (b g N : Nat), Bag m b g N → N + 2 < 10 ^ 9 → okO (call ("_law_count", none) [.ref b] m) fun v m' => ∃ i, v = .int i ∧ 0 ≤ i ∧ i < 10 ^ 15 ∧ Bag m' b g (N + 2) ∧ Fr b g m m'
theorem Bag.up {m : MH} {b g N N' : Nat} (h : Bag m b g N) (hN : N ≤ N') : Bag m b g N' := by
  obtain ⟨gs, ls, n, s, h1, h2⟩ := h
  exact ⟨gs, ls, n, s, h1, by omega⟩
def c_count (call : FKey → List U → MH → Out U) : S1 := (sSeq (sAsg (cCallK 2 0 (fun as _ m => call ("_law_draw", none) as m) (cCons (cVar 0) (cCons (cK (.int 5)) cNil)) cNil) (gName 1)) (sSeq (sIf (cIsBl (cBin (cmpI ltI) (cVar 1) (cK (.int 2)))) (sSeq (sRet (cCallK 2 0 (fun as _ m => call ("_law_draw", none) as m) (cCons (cVar 0) (cCons (cBin idxU (cFn mkFl (cCons (cK (.int 7)) (cCons (cK (.int 2000)) cNil))) (cVar 1)) cNil)) cNil)) sNx) sNx) (sSeq (sIf (cIsBl (cBin eqU (cVar 1) (cK (.int 2)))) (sSeq (sRet (cBin subU (cBin subU (cBin powU (cK (.int 10)) (cK (.int 15))) (cK (.int 1))) (cCallK 2 0 (fun as _ m => call ("_law_draw", none) as m) (cCons (cVar 0) (cCons (cK (.int 3)) cNil)) cNil))) sNx) sNx) (sSeq (sRet (cCallK 2 0 (fun as _ m => call ("_law_draw", none) as m) (cCons (cVar 0) (cCons (cBin idxU (cFn mkFl (cCons (cK (.int 40)) (cCons (cBin powU (cK (.int 10)) (cK (.int 15))) cNil))) (cBin subU (cVar 1) (cK (.int 3)))) cNil)) cNil)) sNx))))
theorem count_ok {call : FKey → List U → MH → Out U} (hd : DrawC call) {m : MH} {b g N : Nat} (h : Bag m b g N) (hN : N + 2 < 10 ^ 9) :
    okS (c_count call [some (.ref b), none] m) (fun _ _ => False) fun v m' => ∃ i, v = .int i ∧ 0 ≤ i ∧ i < 10 ^ 15 ∧ Bag m' b g (N + 2) ∧ Fr b g m m' := by
  unfold c_count
  have pe : powOk 10 15 = true := rfl
  simp only [ok_sSeq, ok_sAsg, ok_cCallK, ok_cCons, ok_cVar0, ok_cK, ok_cNil]
  refine ⟨rfl, rfl, okO_mono (hd m b g N 5 h (by omega) (by decide) (by decide)) ?_⟩
  rintro v m1 ⟨i, rfl, i0, i5, h1, f1⟩
  simp only [ok_gName, List.set_cons_succ, List.set_cons_zero, ok_sIf, ok_cIsBl, ok_cBin, ok_cVar0, ok_cVarS, ok_cK, ok_cmpI, ok_blOf, ok_sSeq, ok_sNx, ok_sRet, ok_cCallK, ok_cCons, ok_cNil, ok_cFn, ok_mkFl (us := [U.int 7, U.int 2000]) rfl, ok_eqI, ok_pow pe, ok_sub]
  have go : ∀ k : Int, 0 < k → k ≤ 10 ^ 15 → okO (call ("_law_draw", none) [.ref b, .int k] m1) fun v m' => ∃ i, v = .int i ∧ 0 ≤ i ∧ i < 10 ^ 15 ∧ Bag m' b g (N + 2) ∧ Fr b g m m' := fun k k0 k1 => by
    refine okO_mono (hd m1 b g (N + 1) k h1 (by omega) k0 (by omega)) ?_
    rintro v m2 ⟨j, rfl, j0, j1, h2, f2⟩
    exact ⟨j, rfl, j0, by omega, h2, f1.trans f2⟩
  refine ⟨fun hi => ?_, fun hi => ⟨fun h2 => ?_, fun h2 => ?_⟩⟩
  · have hi2 : i < 2 := of_decide_eq_true hi
    have : i = 0 ∨ i = 1 := by omega
    rcases this with rfl | rfl
    · rw [ok_idxF (u := .int 7) rfl]
      exact ⟨rfl, rfl, go 7 (by decide) (by decide)⟩
    · rw [ok_idxF (u := .int 2000) rfl]
      exact ⟨rfl, rfl, go 2000 (by decide) (by decide)⟩
  · refine ⟨rfl, rfl, okO_mono (hd m1 b g (N + 1) 3 h1 (by omega) (by decide) (by decide)) ?_⟩
    rintro v m2 ⟨j, rfl, j0, j1, h3, f2⟩
    simp only [ok_sub]
    exact ⟨_, rfl, by have : (10 : Int) ^ (Int.toNat 15) = 1000000000000000 := rfl; omega, by have : (10 : Int) ^ (Int.toNat 15) = 1000000000000000 := rfl; omega, h3, f1.trans f2⟩
  · have hi2 : ¬ i < 2 := of_decide_eq_false hi
    have hi3 : ¬ i = 2 := of_decide_eq_false h2
    have : i = 3 ∨ i = 4 := by omega
    rw [ok_mkFl rfl]
    rcases this with rfl | rfl
    · rw [ok_idxF (u := .int 40) rfl]
      exact ⟨rfl, rfl, go 40 (by decide) (by decide)⟩
    · rw [ok_idxF (u := .int (10 ^ (Int.toNat 15))) rfl]
      exact ⟨rfl, rfl, go _ (by decide) (by decide)⟩
end Mi
/-! Mi, part Z: texts. -/
namespace Mi
open PySem PySem.Spec PyProof.Rows L2
set_option linter.unusedVariables false
set_option linter.unusedSimpArgs false
set_option maxRecDepth 10000
/-- every sign stands below p -/
def Sg (p : Nat → Prop) (z : Str) : Prop := ∀ k ∈ z.cps.toList, p k
abbrev lawful (k : Nat) : Prop := k < 0x110000
theorem strOk_of {z : Str} (h : Sg lawful z) : PyData.strOk z = true := by
  show z.cps.all (fun x => decide (x < 1114112)) = true
  rw [Array.all_eq_true']
  intro x hx
  exact decide_eq_true (h x (Array.mem_toList_iff.mpr hx))
theorem Sg.app {p : Nat → Prop} {x y : Str} (hx : Sg p x) (hy : Sg p y) : Sg p (x ++ y) := by
  intro k hk
  have e : (x ++ y).cps = x.cps ++ y.cps := rfl
  rw [e, Array.toList_append] at hk
  rcases List.mem_append.mp hk with h | h
  · exact hx k h
  · exact hy k h
theorem len_app (x y : Str) : (x ++ y).length = x.length + y.length := by
  show (x.cps ++ y.cps).size = _
  rw [Array.size_append]
  rfl
theorem Sg.cut {p : Nat → Prop} {z : Str} (h : Sg p z) (lo hi : Option Int) : Sg p (cutS z lo hi) := by
  intro k hk
  unfold cutS at hk
  have hk' : k ∈ (z.cps.toList.drop (HT.sIx z.length 0 lo)).take (HT.sIx z.length z.length hi - HT.sIx z.length 0 lo) := by simpa using hk
  exact h k (List.mem_of_mem_drop (List.mem_of_mem_take hk'))
theorem len_cut (z : Str) (lo hi : Option Int) : (cutS z lo hi).length ≤ z.length := by
  unfold cutS
  show ((z.cps.toList.drop _).take _).toArray.size ≤ _
  rw [List.size_toArray, List.length_take, List.length_drop]
  have : z.cps.toList.length = z.length := rfl
  omega
theorem Sg.one {p : Nat → Prop} {k : Nat} (h : p k) : Sg p ⟨#[k]⟩ := by
  intro j hj
  have : j = k := by simpa using hj
  rw [this]
  exact h
theorem Sg.nil {p : Nat → Prop} : Sg p Str.empty := fun k hk => (nomatch hk)
theorem fold_mem {k : Nat} : ∀ (l : List (Array Nat)) (acc : Array Nat), k ∈ (l.foldl (· ++ ·) acc).toList → k ∈ acc.toList ∨ ∃ a ∈ l, k ∈ a.toList
  | [], acc, h => .inl h
  | a :: l, acc, h => by
    rcases fold_mem l (acc ++ a) h with h | ⟨b, hb, h⟩
    · rw [Array.toList_append] at h
      rcases List.mem_append.mp h with h | h
      · exact .inl h
      · exact .inr ⟨a, List.mem_cons_self, h⟩
    · exact .inr ⟨b, List.mem_cons_of_mem _ hb, h⟩
theorem Sg.rep {p : Nat → Prop} {z : Str} (h : Sg p z) (n : Int) : Sg p (repS z n) := by
  unfold repS
  split
  · exact Sg.nil
  · split
    · exact h
    · intro k hk
      rcases fold_mem _ _ hk with hk | ⟨a, ha, hk⟩
      · exact (nomatch hk)
      · rw [List.eq_of_mem_replicate ha] at hk
        exact h k hk
theorem len_rep (z : Str) (n : Int) : (repS z n).length ≤ z.length + n.toNat * z.length := by
  unfold repS
  split
  · exact Nat.zero_le _
  · split
    · omega
    · show (List.foldl (fun x1 x2 : Array Nat => x1 ++ x2) #[] (List.replicate n.toNat z.cps)).size ≤ _
      rw [rep_size]
      show 0 + n.toNat * z.length ≤ _
      omega
theorem glue_mem {k : Nat} {g : Array Nat} : ∀ (l : List Str) (acc : Array Nat), k ∈ (l.foldl (fun acc p => acc ++ g ++ p.cps) acc).toList → k ∈ acc.toList ∨ k ∈ g.toList ∨ ∃ a ∈ l, k ∈ a.cps.toList
  | [], acc, h => .inl h
  | a :: l, acc, h => by
    rcases glue_mem l (acc ++ g ++ a.cps) h with h | h | ⟨b, hb, h⟩
    · rw [Array.toList_append, Array.toList_append] at h
      rcases List.mem_append.mp h with h | h
      · rcases List.mem_append.mp h with h | h
        · exact .inl h
        · exact .inr (.inl h)
      · exact .inr (.inr ⟨a, List.mem_cons_self, h⟩)
    · exact .inr (.inl h)
    · exact .inr (.inr ⟨b, List.mem_cons_of_mem _ hb, h⟩)
theorem Sg.join {p : Nat → Prop} {ys : List Str} (h : ∀ y ∈ ys, Sg p y) : Sg p (Txt.join Str.empty ys) := by
  intro k hk
  have hk' : k ∈ ((ys.drop 1).foldl (fun acc p => acc ++ Str.empty.cps ++ p.cps) (ys.headD Str.empty).cps).toList := hk
  rcases glue_mem _ _ hk' with hk | hk | ⟨a, ha, hk⟩
  · cases ys with
    | nil => exact (nomatch hk)
    | cons y r => exact h y List.mem_cons_self k hk
  · exact (nomatch hk)
  · exact h a (List.mem_of_mem_drop ha) k hk
theorem glue_len : ∀ (l : List Str) (acc : Array Nat), (l.foldl (fun acc p => acc ++ Str.empty.cps ++ p.cps) acc).size = acc.size + (l.map (·.length)).sum
  | [], acc => rfl
  | a :: l, acc => by
    rw [List.foldl_cons, glue_len l, Array.size_append, Array.size_append, List.map_cons, List.sum_cons]
    show acc.size + 0 + a.length + _ = _
    omega
theorem len_join (ys : List Str) : (Txt.join Str.empty ys).length = (ys.map (·.length)).sum := by
  show ((ys.drop 1).foldl (fun acc p => acc ++ Str.empty.cps ++ p.cps) (ys.headD Str.empty).cps).size = _
  rw [glue_len]
  cases ys with
  | nil => rfl
  | cons y r => rfl
/-- upper: signs of what stands for a sign -/
theorem Sg.upper {p q : Nat → Prop} {z : Str} (h : Sg p z) (hu : ∀ c, p c → ∀ k ∈ Unicode.upperOf c, q k) : Sg q (Txt.upper z) := by
  intro k hk
  have hk' : k ∈ ((z.cps.mapIdx fun i c => (Unicode.upperOf c).toArray).flatten).toList := hk
  have hk2 : k ∈ (z.cps.mapIdx fun i c => (Unicode.upperOf c).toArray).flatten := Array.mem_toList_iff.mp hk'
  obtain ⟨a, ha, hka⟩ := Array.mem_flatten.mp hk2
  obtain ⟨i, hi, rfl⟩ := Array.mem_mapIdx.mp ha
  exact hu _ (h z.cps[i] (Array.mem_toList_iff.mpr (Array.getElem_mem hi))) k (by simpa using hka)
theorem len_upper (z : Str) : (Txt.upper z).length ≤ 3 * z.length := PyProof.Rows.len_upper z
/-! ### strings as values -/
section
variable {Q : U → MH → Prop} {m : MH}
theorem ok_addS {x y : Str} (h : lineOk (x.length + y.length) = true) : okP (addU (.str x) (.str y) m) Q ↔ Q (.str (x ++ y)) m := by
  show okP (if lineOk (x.length + y.length) = true then some (.str (x ++ y), m) else none) Q ↔ _
  rw [if_pos h]
  exact Iff.rfl
theorem ok_mulS {x : Str} {j : Int} (h : (decide (0 ≤ j) && decide (j ≤ 100000) && decide (x.length ≤ 100)) = true) : okP (mulU (.str x) (.int j) m) Q ↔ Q (.str (repS x j)) m := by
  show okP (if (decide (0 ≤ j) && decide (j ≤ 100000) && decide (x.length ≤ 100)) = true then some (.str (repS x j), m) else none) Q ↔ _
  rw [if_pos h]
  exact Iff.rfl
theorem ok_slcS {x : Str} {lo hi : Option Int} (h : lineOk x.length = true) : okP (slcU (.str x) lo hi m) Q ↔ Q (.str (cutS x lo hi)) m := by
  show okP (if lineOk x.length = true then some (.str (cutS x lo hi), m) else none) Q ↔ _
  rw [if_pos h]
  exact Iff.rfl
theorem ok_idxS {z : Str} {i : Int} {k : Nat} (h : lineOk z.length = true) (e : atI z.cps.toList i = some k) : okP (idxU (.str z) (.int i) m) Q ↔ Q (.str ⟨#[k]⟩) m := by
  have e1 : idxU (.str z) (.int i) m = some (.str ⟨#[k]⟩, m) := by
    show (if lineOk z.length = true then (atI z.cps.toList i).map fun (k : Nat) => (U.str ⟨#[k]⟩, m) else none) = _
    rw [if_pos h, e]
    rfl
  rw [e1]
  exact Iff.rfl
theorem ok_inS {x z : Str} : okP (inU (.str x) (.str z) m) Q ↔ Q (.bl (strIn x z)) m := Iff.rfl
theorem ok_ninS {x z : Str} : okP (ninU (.str x) (.str z) m) Q ↔ Q (.bl (!strIn x z)) m := Iff.rfl
theorem bls_map (l : List Bool) : blsOf (l.map U.bl) = some l := by
  induction l with
  | nil => rfl
  | cons b l ih =>
    show (blsOf (l.map U.bl)).map (b :: ·) = _
    rw [ih]
    rfl
theorem strs_map (l : List Str) : strsOf (l.map U.str) = some l := by
  induction l with
  | nil => rfl
  | cons b l ih =>
    show (strsOf (l.map U.str)).map (b :: ·) = _
    rw [ih]
    rfl
theorem ok_all {l : List Bool} : okP (biAll [.fl (l.map U.bl)] m) Q ↔ Q (.bl (l.all id)) m := by
  have e : biAll [.fl (l.map U.bl)] m = some (.bl (l.all id), m) := by
    show ((some (l.map U.bl)).bind blsOf).map _ = _
    rw [Option.bind_some, bls_map]
    rfl
  rw [e]
  exact Iff.rfl
theorem lay_strs : ∀ {l : List Str}, (∀ x ∈ l, Sg lawful x) → layUs (l.map U.str) = true
  | [], _ => rfl
  | x :: l, h => by
    show (PyData.strOk x && layUs (l.map U.str)) = true
    rw [strOk_of (h x List.mem_cons_self), lay_strs fun y hy => h y (List.mem_cons_of_mem _ hy)]
    rfl
theorem dep_strs : ∀ l : List Str, depUs (l.map U.str) = 0
  | [] => rfl
  | x :: l => by
    show max (depU (.str x)) (depUs (l.map U.str)) = 0
    rw [dep_strs l]
    rfl
theorem eq_nil_strs {l : List Str} (h : ∀ x ∈ l, Sg lawful x) : eqB (.fl (l.map U.str)) (.fl []) m = some l.isEmpty := by
  unfold eqB
  have e : okD (.fl (l.map U.str)) = true := by
    show (layUs (l.map U.str) && decide (depUs (l.map U.str) + 1 ≤ 50)) = true
    rw [lay_strs h, dep_strs]
    rfl
  show (if (okD (.fl (l.map U.str)) && okD (.fl [])) = true then some (PyData.eqv (.list (toDs (l.map U.str))) (.list [])) else none) = _
  rw [e, if_pos (show (true && okD (.fl [])) = true from rfl), eqv_nil, toDs_empty]
  cases l <;> rfl
end
end Mi
/-! Qa: data, how great it is; when repr tells it. -/
namespace Mi
open PySem PySem.Spec PyProof.Rows L2
set_option linter.unusedVariables false
set_option linter.unusedSimpArgs false
/-- plain signs all through -/
def ascB (z : Str) : Bool := z.cps.all fun k => decide (k < 128)
theorem asc_mem {z : Str} : ascB z = true ↔ ∀ k ∈ z.cps.toList, k < 128 := by
  unfold ascB
  rw [Array.all_eq_true']
  constructor
  · intro h k hk
    exact of_decide_eq_true (h k (Array.mem_toList_iff.mp hk))
  · intro h k hk
    exact decide_eq_true (h k (Array.mem_toList_iff.mpr hk))
theorem asc_ok {z : Str} (h : ascB z = true) : PyData.strOk z = true := strOk_of fun k hk => by
  have := asc_mem.mp h k hk
  show k < 1114112
  omega
def gdK (B : Nat) : Key → Bool
  | .inl i => decide (i.natAbs ≤ B)
  | .inr x => ascB x
mutual
/-- data all through: whole numbers up to B, lawful signs -/
def gdU (B : Nat) : U → Bool
  | .non => true
  | .bl _ => true
  | .int i => decide (i.natAbs ≤ B)
  | .str x => ascB x
  | .tup us => gdUs B us
  | .fl us => gdUs B us
  | .cl us => gdUs B us
  | .fd ks us => ks.all (gdK B) && decide (ks.length = us.length) && gdUs B us
  | _ => false
def gdUs (B : Nat) : List U → Bool
  | [] => true
  | u :: us => gdU B u && gdUs B us
end
def keyW : Key → Nat
  | .inl _ => 1921
  | .inr x => 10 * x.length + 2
mutual
/-- how long its repr is at most -/
def wtU : U → Nat
  | .int _ => 1921
  | .str x => 10 * x.length + 2
  | .tup us => wtUs us + 6
  | .fl us => wtUs us + 6
  | .cl us => wtUs us + 6
  | .fd ks us => (ks.map fun k => keyW k + 2).sum + wtUs us + 6
  | _ => 5
def wtUs : List U → Nat
  | [] => 0
  | u :: us => wtU u + 2 + wtUs us
end
mutual
def dpU : U → Nat
  | .tup us => dpUs us + 1
  | .fl us => dpUs us + 1
  | .cl us => dpUs us + 1
  | .fd _ us => dpUs us + 1
  | _ => 0
def dpUs : List U → Nat
  | [] => 0
  | u :: us => max (dpU u) (dpUs us)
end
section
variable {B : Nat}
theorem gdUs_iff : ∀ {us : List U}, gdUs B us = true ↔ ∀ u ∈ us, gdU B u = true
  | [] => by simp [gdUs]
  | u :: us => by
    show (gdU B u && gdUs B us) = true ↔ _
    rw [Bool.and_eq_true, gdUs_iff (us := us)]
    simp
theorem dpUs_le {d : Nat} : ∀ {us : List U}, dpUs us ≤ d ↔ ∀ u ∈ us, dpU u ≤ d
  | [] => by simp [dpUs]
  | u :: us => by
    show max (dpU u) (dpUs us) ≤ d ↔ _
    rw [Nat.max_le, dpUs_le (us := us)]
    simp
theorem wtUs_app : ∀ (us ws : List U), wtUs (us ++ ws) = wtUs us + wtUs ws
  | [], ws => (Nat.zero_add _).symm
  | u :: us, ws => by
    show wtU u + 2 + wtUs (us ++ ws) = wtU u + 2 + wtUs us + wtUs ws
    rw [wtUs_app us ws]
    omega
theorem wtUs_take (n : Nat) (us : List U) : wtUs (us.take n) ≤ wtUs us := by
  have := wtUs_app (us.take n) (us.drop n)
  rw [List.take_append_drop] at this
  omega
theorem wtUs_drop (n : Nat) (us : List U) : wtUs (us.drop n) ≤ wtUs us := by
  have := wtUs_app (us.take n) (us.drop n)
  rw [List.take_append_drop] at this
  omega
theorem wtUs_rev : ∀ us : List U, wtUs us.reverse = wtUs us
  | [] => rfl
  | u :: us => by
    rw [List.reverse_cons, wtUs_app, wtUs_rev us]
    show wtUs us + (wtU u + 2 + 0) = wtU u + 2 + wtUs us
    omega
theorem wtUs_mem {u : U} : ∀ {us : List U}, u ∈ us → wtU u + 2 ≤ wtUs us
  | v :: us, h => by
    show wtU u + 2 ≤ wtU v + 2 + wtUs us
    rcases List.mem_cons.mp h with rfl | h
    · omega
    · have := wtUs_mem h; omega
theorem wtUs_len : ∀ us : List U, 2 * us.length ≤ wtUs us
  | [] => Nat.le_refl 0
  | u :: us => by
    have := wtUs_len us
    show 2 * (us.length + 1) ≤ wtU u + 2 + wtUs us
    omega
theorem wtUs_cut (us : List U) (lo hi : Option Int) : wtUs (cutU us lo hi) ≤ wtUs us := by
  unfold cutU
  exact Nat.le_trans (wtUs_take _ _) (wtUs_drop _ _)
theorem cut_mem {us : List U} {lo hi : Option Int} {u : U} (h : u ∈ cutU us lo hi) : u ∈ us := by
  unfold cutU at h
  exact List.mem_of_mem_drop (List.mem_of_mem_take h)
mutual
theorem gd_rd : ∀ {u : U}, gdU B u = true → rdU u = true
  | .non, _ => rfl
  | .bl _, _ => rfl
  | .int _, _ => rfl
  | .str _, _ => rfl
  | .tup us, h => gds_rd (us := us) h
  | .fl us, h => gds_rd (us := us) h
  | .cl us, h => gds_rd (us := us) h
  | .fd ks us, h => by
    have h' : (ks.all (gdK B) && decide (ks.length = us.length) && gdUs B us) = true := h
    rw [Bool.and_eq_true] at h'
    exact gds_rd (us := us) h'.2
  | .ref _, h => nomatch (show false = true from h)
  | .glo _, h => nomatch (show false = true from h)
  | .ty _, h => nomatch (show false = true from h)
  | .exn _, h => nomatch (show false = true from h)
theorem gds_rd : ∀ {us : List U}, gdUs B us = true → rdUs us = true
  | [], _ => rfl
  | u :: us, h => by
    have h' : (gdU B u && gdUs B us) = true := h
    rw [Bool.and_eq_true] at h'
    show (rdU u && rdUs us) = true
    rw [gd_rd h'.1, gds_rd h'.2]
    rfl
end
theorem log_of {i : Int} (hB : B < 2 ^ 1900) (h : i.natAbs ≤ B) : i.natAbs.log2 < 1920 := by
  by_cases hz : i.natAbs = 0
  · rw [hz]; decide
  · have h1 : i.natAbs < 2 ^ 1900 := Nat.lt_of_le_of_lt h hB
    have := (Nat.log2_lt hz).mpr h1
    omega
theorem toDs_len : ∀ us : List U, (toDs us).length = us.length
  | [] => rfl
  | u :: us => congrArg (· + 1) (toDs_len us)
mutual
theorem gd_show (hB : B < 2 ^ 1900) : ∀ {u : U}, gdU B u = true → (toD u).showable = true
  | .non, _ => rfl
  | .bl _, _ => rfl
  | .int i, h => decide_eq_true (log_of hB (of_decide_eq_true h))
  | .str _, _ => rfl
  | .tup us, h => gds_show hB (us := us) h
  | .fl us, h => gds_show hB (us := us) h
  | .cl us, h => gds_show hB (us := us) h
  | .fd ks us, h => by
    have h' : (ks.all (gdK B) && decide (ks.length = us.length) && gdUs B us) = true := h
    rw [Bool.and_eq_true, Bool.and_eq_true] at h'
    have hs := gds_show hB (us := us) h'.2
    have hk : ∀ k ∈ ks, (keyD k).showable = true := fun k hk => by
      have := List.all_eq_true.mp h'.1.1 k hk
      cases k with
      | inl i => exact decide_eq_true (log_of hB (of_decide_eq_true this))
      | inr x => rfl
    show PyData.showableKv ((ks.map keyD).zip (toDs us)) = true
    have key : ∀ (ks : List Key) (ds : List PyData), (∀ k ∈ ks, (keyD k).showable = true) → PyData.showableAll ds = true → PyData.showableKv ((ks.map keyD).zip ds) = true := by
      intro ks
      induction ks with
      | nil => intro ds _ _; rfl
      | cons k ks ih =>
        intro ds h1 h2
        cases ds with
        | nil => rfl
        | cons d ds =>
          have h2' : (d.showable && PyData.showableAll ds) = true := h2
          rw [Bool.and_eq_true] at h2'
          show ((keyD k).showable && d.showable && PyData.showableKv ((ks.map keyD).zip ds)) = true
          rw [h1 k List.mem_cons_self, h2'.1, ih ds (fun j hj => h1 j (List.mem_cons_of_mem _ hj)) h2'.2]
          rfl
    exact key ks _ hk hs
  | .ref _, h => nomatch (show false = true from h)
  | .glo _, h => nomatch (show false = true from h)
  | .ty _, h => nomatch (show false = true from h)
  | .exn _, h => nomatch (show false = true from h)
theorem gds_show (hB : B < 2 ^ 1900) : ∀ {us : List U}, gdUs B us = true → PyData.showableAll (toDs us) = true
  | [], _ => rfl
  | u :: us, h => by
    have h' : (gdU B u && gdUs B us) = true := h
    rw [Bool.and_eq_true] at h'
    show ((toD u).showable && PyData.showableAll (toDs us)) = true
    rw [gd_show hB h'.1, gds_show hB h'.2]
    rfl
end
theorem keyD_depth (k : Key) : (keyD k).depth = 0 := by cases k <;> rfl
mutual
theorem gd_depth : ∀ {u : U}, gdU B u = true → (toD u).depth ≤ dpU u
  | .non, _ => Nat.le_refl _
  | .bl _, _ => Nat.le_refl _
  | .int i, h => Nat.le_refl _
  | .str _, _ => Nat.le_refl _
  | .tup us, h => Nat.succ_le_succ (gds_depth (us := us) h)
  | .fl us, h => Nat.succ_le_succ (gds_depth (us := us) h)
  | .cl us, h => Nat.succ_le_succ (gds_depth (us := us) h)
  | .fd ks us, h => by
    have h' : (ks.all (gdK B) && decide (ks.length = us.length) && gdUs B us) = true := h
    rw [Bool.and_eq_true, Bool.and_eq_true] at h'
    have hs := gds_depth (us := us) h'.2
    show PyData.depthKv ((ks.map keyD).zip (toDs us)) + 1 ≤ dpUs us + 1
    have key : ∀ (ks : List Key) (ds : List PyData), PyData.depthKv ((ks.map keyD).zip ds) ≤ PyData.depthAll ds := by
      intro ks
      induction ks with
      | nil => intro ds; exact Nat.zero_le _
      | cons k ks ih =>
        intro ds
        cases ds with
        | nil => exact Nat.zero_le _
        | cons d ds =>
          have := ih ds
          show max (max (keyD k).depth d.depth) (PyData.depthKv ((ks.map keyD).zip ds)) ≤ max d.depth (PyData.depthAll ds)
          rw [keyD_depth]
          omega
    have := key ks (toDs us)
    omega
  | .ref _, h => nomatch (show false = true from h)
  | .glo _, h => nomatch (show false = true from h)
  | .ty _, h => nomatch (show false = true from h)
  | .exn _, h => nomatch (show false = true from h)
theorem gds_depth : ∀ {us : List U}, gdUs B us = true → PyData.depthAll (toDs us) ≤ dpUs us
  | [], _ => Nat.le_refl _
  | u :: us, h => by
    have h' : (gdU B u && gdUs B us) = true := h
    rw [Bool.and_eq_true] at h'
    have h1 := gd_depth h'.1
    have h2 := gds_depth h'.2
    show max (toD u).depth (PyData.depthAll (toDs us)) ≤ max (dpU u) (dpUs us)
    omega
end
theorem textFrom_le : ∀ (ts : List Str) (k : Nat) (acc : Str), (textFrom k acc ts).length ≤ acc.length + piled ts
  | [], k, acc => by
    show acc.length ≤ _
    omega
  | t :: r, k, acc => by
    have ih := textFrom_le r (k + 1) (acc ++ (if k > 0 then ", " else "" : String) ++ t)
    have e : (acc ++ (if k > 0 then ", " else "" : String) ++ t).length ≤ acc.length + 2 + t.length := by
      rw [len_app, len_app]
      have : (Str.ofString (if k > 0 then ", " else "" : String)).length ≤ 2 := by
        by_cases h : k > 0
        · rw [if_pos h]; decide
        · rw [if_neg h]; decide
      omega
    show (textFrom (k + 1) (acc ++ (if k > 0 then ", " else "" : String) ++ t) r).length ≤ _
    rw [piled_cons]
    omega
theorem join_le (ts : List Str) : (Str.join ", " ts).length ≤ piled ts := by
  by_cases h : ts = []
  · subst h; decide
  · have := join_length_add ts h
    omega
theorem str_repr_le {x : Str} (ha : ascB x = true) : (reprText x).length ≤ 10 * x.length + 2 := by
  have h := asc_ok ha
  refine StrLaws.reprText_len x fun c hc => ?_
  have h' : x.cps.all (fun x => decide (x < 1114112)) = true := h
  rw [Array.all_eq_true'] at h'
  have := of_decide_eq_true (h' c (Array.mem_toList_iff.mp hc))
  omega
theorem int_show_le {i : Int} (h : i.natAbs.log2 < 1920) : (Str.ofString (toString i)).length ≤ 1921 := int_text_len_1921 h
mutual
theorem gd_shown (hB : B < 2 ^ 1900) : ∀ {u : U}, gdU B u = true → (toD u).shown.length ≤ wtU u
  | .non, _ => by show (Str.ofString "None").length ≤ 5; decide
  | .bl b, _ => by cases b <;> (first | (show (Str.ofString "True").length ≤ 5; decide) | (show (Str.ofString "False").length ≤ 5; decide))
  | .int i, h => int_show_le (log_of hB (of_decide_eq_true h))
  | .str x, h => str_repr_le h
  | .tup us, h => by
    have ih := gds_shown hB (us := us) h
    show (tupleText (PyData.shownAll (toDs us))).length ≤ wtUs us + 6
    unfold tupleText
    rw [len_app, len_app]
    have h1 := join_le (PyData.shownAll (toDs us))
    have h2 : (Str.ofString "(").length = 1 := by decide
    have h3 : (Str.ofString (if (PyData.shownAll (toDs us)).length == 1 then ",)" else ")" : String)).length ≤ 2 := by
      by_cases h : ((PyData.shownAll (toDs us)).length == 1) = true
      · rw [if_pos h]; decide
      · rw [if_neg h]; decide
    omega
  | .fl us, h => by
    have ih := gds_shown hB (us := us) h
    show (textFrom 0 "[" (PyData.shownAll (toDs us)) ++ Str.ofString "]").length ≤ wtUs us + 6
    rw [len_app]
    have h1 := textFrom_le (PyData.shownAll (toDs us)) 0 "["
    have h2 : (Str.ofString "[").length = 1 := by decide
    have h3 : (Str.ofString "]").length = 1 := by decide
    omega
  | .cl us, h => by
    have ih := gds_shown hB (us := us) h
    show (textFrom 0 "[" (PyData.shownAll (toDs us)) ++ Str.ofString "]").length ≤ wtUs us + 6
    rw [len_app]
    have h1 := textFrom_le (PyData.shownAll (toDs us)) 0 "["
    have h2 : (Str.ofString "[").length = 1 := by decide
    have h3 : (Str.ofString "]").length = 1 := by decide
    omega
  | .fd ks us, h => by
    have h' : (ks.all (gdK B) && decide (ks.length = us.length) && gdUs B us) = true := h
    rw [Bool.and_eq_true, Bool.and_eq_true] at h'
    have ih := gds_shown hB (us := us) h'.2
    have hk : ∀ k ∈ ks, (keyD k).shown.length ≤ keyW k := fun k hk => by
      have := List.all_eq_true.mp h'.1.1 k hk
      cases k with
      | inl i => exact int_show_le (log_of hB (of_decide_eq_true this))
      | inr x => exact str_repr_le this
    have key : ∀ (ks : List Key) (ds : List PyData), (∀ k ∈ ks, (keyD k).shown.length ≤ keyW k) → piled (PyData.shownKv ((ks.map keyD).zip ds)) ≤ (ks.map fun k => keyW k + 2).sum + piled (PyData.shownAll ds) := by
      intro ks
      induction ks with
      | nil => intro ds _; exact Nat.zero_le _
      | cons k ks ih =>
        intro ds h1
        cases ds with
        | nil => exact Nat.zero_le _
        | cons d ds =>
          have i1 := ih ds fun j hj => h1 j (List.mem_cons_of_mem _ hj)
          have i2 := h1 k List.mem_cons_self
          show piled (((keyD k).shown ++ ": " ++ d.shown) :: PyData.shownKv ((ks.map keyD).zip ds)) ≤ (List.map (fun k => keyW k + 2) (k :: ks)).sum + piled (d.shown :: PyData.shownAll ds)
          rw [piled_cons, piled_cons, List.map_cons, List.sum_cons, len_app, len_app]
          have h2 : (Str.ofString ": ").length = 2 := by decide
          omega
    have h9 := key ks (toDs us) hk
    show (dictText (PyData.shownKv ((ks.map keyD).zip (toDs us)))).length ≤ (ks.map fun k => keyW k + 2).sum + wtUs us + 6
    unfold dictText
    rw [len_app, len_app]
    have h1 := join_le (PyData.shownKv ((ks.map keyD).zip (toDs us)))
    have h2 : (Str.ofString "{").length = 1 := by decide
    have h3 : (Str.ofString "}").length = 1 := by decide
    omega
  | .ref _, h => nomatch (show false = true from h)
  | .glo _, h => nomatch (show false = true from h)
  | .ty _, h => nomatch (show false = true from h)
  | .exn _, h => nomatch (show false = true from h)
theorem gds_shown (hB : B < 2 ^ 1900) : ∀ {us : List U}, gdUs B us = true → piled (PyData.shownAll (toDs us)) ≤ wtUs us
  | [], _ => Nat.le_refl _
  | u :: us, h => by
    have h' : (gdU B u && gdUs B us) = true := h
    rw [Bool.and_eq_true] at h'
    have h1 := gd_shown hB h'.1
    have h2 := gds_shown hB h'.2
    show piled ((toD u).shown :: PyData.shownAll (toDs us)) ≤ wtU u + 2 + wtUs us
    rw [piled_cons]
    omega
end
mutual
theorem gd_mono {B C : Nat} (hB : B ≤ C) : ∀ {u : U}, gdU B u = true → gdU C u = true
  | .non, _ => rfl
  | .bl _, _ => rfl
  | .int i, h => decide_eq_true (Nat.le_trans (of_decide_eq_true h) hB)
  | .str _, h => h
  | .tup us, h => gds_mono hB (us := us) h
  | .fl us, h => gds_mono hB (us := us) h
  | .cl us, h => gds_mono hB (us := us) h
  | .fd ks us, h => by
    have h' : (ks.all (gdK B) && decide (ks.length = us.length) && gdUs B us) = true := h
    rw [Bool.and_eq_true, Bool.and_eq_true] at h'
    show (ks.all (gdK C) && decide (ks.length = us.length) && gdUs C us) = true
    rw [Bool.and_eq_true, Bool.and_eq_true]
    refine ⟨⟨List.all_eq_true.mpr fun k hk => ?_, h'.1.2⟩, gds_mono hB h'.2⟩
    have := List.all_eq_true.mp h'.1.1 k hk
    cases k with
    | inl i => exact decide_eq_true (Nat.le_trans (of_decide_eq_true this) hB)
    | inr x => exact this
  | .ref _, h => nomatch (show false = true from h)
  | .glo _, h => nomatch (show false = true from h)
  | .ty _, h => nomatch (show false = true from h)
  | .exn _, h => nomatch (show false = true from h)
theorem gds_mono {B C : Nat} (hB : B ≤ C) : ∀ {us : List U}, gdUs B us = true → gdUs C us = true
  | [], _ => rfl
  | u :: us, h => by
    have h' : (gdU B u && gdUs B us) = true := h
    rw [Bool.and_eq_true] at h'
    show (gdU C u && gdUs C us) = true
    rw [gd_mono hB h'.1, gds_mono hB h'.2]
    rfl
end
/-- repr tells data that is neither too great nor too deep -/
theorem repOk_of {u : U} (h : gdU B u = true) (hB : B < 2 ^ 1900) (hw : wtU u ≤ 16777216) (hd : dpU u ≤ 60) : repOk u = true := by
  unfold repOk
  rw [gd_rd h, gd_show hB h]
  have h1 := gd_depth h
  have h2 := gd_shown hB h
  rw [decide_eq_true (show (toD u).depth ≤ 60 by omega)]
  show lineOk (toD u).shown.length = true
  exact decide_eq_true (by omega)
end
theorem ok_repr {u : U} {m : MH} {Q : U → MH → Prop} (h : repOk u = true) : okP (biRepr [u] m) Q ↔ Q (.str (toD u).shown) m := by
  have e : biRepr [u] m = some (.str (toD u).shown, m) := by
    show (if repOk u = true then some (U.str (toD u).shown, m) else none) = _
    rw [if_pos h]
  rw [e]
  exact Iff.rfl
end Mi
/-! Qb: plain reasoning on runs, further. -/
namespace Mi
open PySem PySem.Spec PyProof.Rows L2
set_option linter.unusedVariables false
set_option linter.unusedSimpArgs false
set_option maxRecDepth 10000
abbrev CallT := FKey → List U → MH → Out U
def tyF : U → String
  | .non => "NoneType"
  | .bl _ => "bool"
  | .int _ => "int"
  | .str _ => "str"
  | .tup _ => "tuple"
  | .fl _ => "list"
  | .cl _ => "list"
  | _ => "dict"
theorem tyF_ok {u : U} {m : MH} (h : rdU u = true) : tyU u m = some (tyF u) := by
  cases u <;> first | rfl | exact nomatch (show false = true from h)
section
variable {T : Tab} {call : CallT} {m : MH} {Q : U → MH → Prop} {t : Env1}
theorem ok_isa {u : U} {a n : String} (h : tyU u m = some a) (hn : tys.contains n = true) : okP (biIsa T [u, .ty n] m) Q ↔ Q (.bl (isT a n)) m := by
  have e : isa1 T u (.ty n) m = some (isT a n) := by
    have e1 : isa1 T u (.ty n) m = (tyU u m).bind fun a => if tys.contains n = true then some (isT a n) else none := by
      cases u with
      | exn x => cases h
      | _ => rfl
    rw [e1, h, Option.bind_some, if_pos hn]
  have e2 : biIsa T [u, .ty n] m = some (.bl (isT a n), m) := by
    show (isa1 T u (.ty n) m).map _ = _
    rw [e]
    rfl
  rw [e2]
  exact Iff.rfl
theorem ok_isaD {u : U} {n : String} (h : rdU u = true) (hn : tys.contains n = true) : okP (biIsa T [u, .ty n] m) Q ↔ Q (.bl (isT (tyF u) n)) m := ok_isa (tyF_ok h) hn
theorem tysI : tys.contains "int" = true := by decide
theorem tysB : tys.contains "bool" = true := by decide
theorem tysS : tys.contains "str" = true := by decide
theorem tysT : tys.contains "tuple" = true := by decide
theorem tysL : tys.contains "list" = true := by decide
theorem tysD : tys.contains "dict" = true := by decide
def isTup : U → Bool
  | .tup _ => true
  | _ => false
def isStr : U → Bool
  | .str _ => true
  | _ => false
def isIntB : U → Bool
  | .int _ => true
  | .bl _ => true
  | _ => false
theorem isT_tup (u : U) : isT (tyF u) "tuple" = isTup u := by cases u <;> kernel_rfl
theorem isT_str (u : U) : isT (tyF u) "str" = isStr u := by cases u <;> kernel_rfl
theorem isT_int (u : U) : isT (tyF u) "int" = isIntB u := by cases u <;> kernel_rfl
theorem ok_isaTup {u : U} (h : rdU u = true) : okP (biIsa T [u, .ty "tuple"] m) Q ↔ Q (.bl (isTup u)) m := by rw [ok_isaD h tysT, isT_tup]
theorem ok_isaStr {u : U} (h : rdU u = true) : okP (biIsa T [u, .ty "str"] m) Q ↔ Q (.bl (isStr u)) m := by rw [ok_isaD h tysS, isT_str]
theorem ok_isaInt {u : U} (h : rdU u = true) : okP (biIsa T [u, .ty "int"] m) Q ↔ Q (.bl (isIntB u)) m := by rw [ok_isaD h tysI, isT_int]
theorem ok_isaBB (b : Bool) : okP (biIsa T [.bl b, .ty "bool"] m) Q ↔ Q (.bl true) m := by
  rw [ok_isa (a := "bool") rfl tysB, show isT "bool" "bool" = true by decide]
theorem ok_lenT {us : List U} : okP (biLen [.tup us] m) Q ↔ Q (.int us.length) m := Iff.rfl
@[simp] theorem ok_gTup {gs : List G1} {us : List U} {P : Env1 → MH → Prop} : okP (gTup gs (.tup us) t m) P ↔ us.length = gs.length ∧ okP (gAll gs us t m) P := by
  show okP (if us.length = gs.length then gAll gs us t m else none) P ↔ _
  by_cases h : us.length = gs.length
  · rw [if_pos h]; exact ⟨fun x => ⟨h, x⟩, fun x => x.2⟩
  · rw [if_neg h]; exact ⟨fun x => x.elim, fun x => h x.1⟩
@[simp] theorem ok_gTupF {gs : List G1} {us : List U} {P : Env1 → MH → Prop} : okP (gTup gs (.fl us) t m) P ↔ us.length = gs.length ∧ okP (gAll gs us t m) P := by
  show okP (if us.length = gs.length then gAll gs us t m else none) P ↔ _
  by_cases h : us.length = gs.length
  · rw [if_pos h]; exact ⟨fun x => ⟨h, x⟩, fun x => x.2⟩
  · rw [if_neg h]; exact ⟨fun x => x.elim, fun x => h x.1⟩
@[simp] theorem ok_gAll0 {P : Env1 → MH → Prop} : okP (gAll [] [] t m) P ↔ P t m := Iff.rfl
@[simp] theorem ok_gAllS {g : G1} {gs : List G1} {u : U} {us : List U} {P : Env1 → MH → Prop} : okP (gAll (g :: gs) (u :: us) t m) P ↔ okP (g u t m) fun t' m' => okP (gAll gs us t' m') P := by
  show okP ((g u t m).bind fun p => gAll gs us p.1 p.2) P ↔ _
  cases g u t m <;> exact Iff.rfl
@[simp] theorem ok_gStar {i : Nat} {gs : List G1} {us : List U} {P : Env1 → MH → Prop} : okP (gStar i gs (.tup us) t m) P ↔ (i < gs.length ∧ gs.length ≤ us.length + 1) ∧ okP (gAll gs (starU i gs.length us) t m) P := by
  show okP (if i < gs.length ∧ gs.length ≤ us.length + 1 then gAll gs (starU i gs.length us) t m else none) P ↔ _
  by_cases h : i < gs.length ∧ gs.length ≤ us.length + 1
  · rw [if_pos h]; exact ⟨fun x => ⟨h, x⟩, fun x => x.2⟩
  · rw [if_neg h]; exact ⟨fun x => x.elim, fun x => h x.1⟩
@[simp] theorem ok_gStarF {i : Nat} {gs : List G1} {us : List U} {P : Env1 → MH → Prop} : okP (gStar i gs (.fl us) t m) P ↔ (i < gs.length ∧ gs.length ≤ us.length + 1) ∧ okP (gAll gs (starU i gs.length us) t m) P := by
  show okP (if i < gs.length ∧ gs.length ≤ us.length + 1 then gAll gs (starU i gs.length us) t m else none) P ↔ _
  by_cases h : i < gs.length ∧ gs.length ≤ us.length + 1
  · rw [if_pos h]; exact ⟨fun x => ⟨h, x⟩, fun x => x.2⟩
  · rw [if_neg h]; exact ⟨fun x => x.elim, fun x => h x.1⟩
theorem ok_slcT {us : List U} {lo hi : Option Int} : okP (slcU (.tup us) lo hi m) Q ↔ Q (.tup (cutU us lo hi)) m := Iff.rfl
theorem ok_addT {us ws : List U} (h : lineOk (us.length + ws.length) = true) : okP (addU (.tup us) (.tup ws) m) Q ↔ Q (.tup (us ++ ws)) m := by
  have e : addU (.tup us) (.tup ws) m = some (.tup (us ++ ws), m) := by
    show (if lineOk (us.length + ws.length) = true then some (U.tup (us ++ ws), m) else none) = _
    rw [if_pos h]
  rw [e]
  exact Iff.rfl
theorem ok_revT {us : List U} (h : lineOk us.length = true) : okP (rev2U (.tup us) m) Q ↔ Q (.tup us.reverse) m := by
  have e : rev2U (.tup us) m = some (.tup us.reverse, m) := by
    show (if lineOk us.length = true then some (U.tup us.reverse, m) else none) = _
    rw [if_pos h]
  rw [e]
  exact Iff.rfl
@[simp] theorem ok_cmpG (i j : Int) : okP (cmpG (.int i) (.int j) m) Q ↔ Q (.bl (decide (j < i))) m := Iff.rfl
@[simp] theorem ok_cmpGB (b : Bool) (j : Int) : okP (cmpG (.bl b) (.int j) m) Q ↔ Q (.bl (decide (j < bI b))) m := Iff.rfl
@[simp] theorem ok_addBI (b : Bool) (j : Int) : okP (addU (.bl b) (.int j) m) Q ↔ Q (.int (bI b + j)) m := Iff.rfl
@[simp] theorem ok_subBI (b : Bool) (j : Int) : okP (subU (.bl b) (.int j) m) Q ↔ Q (.int (bI b - j)) m := Iff.rfl
@[simp] theorem ok_subIB (b : Bool) (j : Int) : okP (subU (.int j) (.bl b) m) Q ↔ Q (.int (j - bI b)) m := Iff.rfl
@[simp] theorem ok_biMax (i j : Int) : okP (biMax [.int i, .int j] m) Q ↔ Q (.int (if j > i then j else i)) m := Iff.rfl
@[simp] theorem ok_biMin (i j : Int) : okP (biMin [.int i, .int j] m) Q ↔ Q (.int (if j < i then j else i)) m := Iff.rfl
@[simp] theorem ok_biTuF {us : List U} (h : lineOk us.length = true) : okP (biTuple [.fl us] m) Q ↔ Q (.tup us) m := by
  have e : biTuple [.fl us] m = some (.tup us, m) := by
    show ((some us).bind fun us => if lineOk us.length = true then some (U.tup us, m) else none) = _
    rw [Option.bind_some, if_pos h]
  rw [e]
  exact Iff.rfl
theorem ok_biLiT {us : List U} (h : lineOk us.length = true) : okP (biList [.tup us] m) Q ↔ Q (.fl us) m := by
  have e : biList [.tup us] m = some (.fl us, m) := by
    show (if lineOk us.length = true then some (U.fl us, m) else none) = _
    rw [if_pos h]
  rw [e]
  exact Iff.rfl
@[simp] theorem ok_cDic0 : okO (cDic0 t m) Q ↔ Q (.fd [] []) m := Iff.rfl
@[simp] theorem ok_sAug {i : Nat} {p : Int → Int → Int} {f : E1} {a : Int} {N : Env1 → MH → Prop} {R : U → MH → Prop} (h : t[i]? = some (some (.int a))) : okS (sAug i p f t m) N R ↔ okO (f t m) fun w m1 => okI w fun b => N (t.set i (some (.int (p a b)))) m1 := by
  unfold sAug
  rw [h]
  dsimp only
  rw [ok_sE]
  refine iff_of_eq (congrArg _ (funext fun u => funext fun m1 => propext ?_))
  cases u <;> exact Iff.rfl
/-- a tuple's or list's place, told -/
theorem ok_ixT {us : List U} {i : Nat} {u : U} (e : us[i]? = some u) : okP (idxU (.tup us) (.int (i : Int)) m) Q ↔ Q u m :=
  ok_idxT (by rw [atI_nat (by omega) (by have := (List.getElem?_eq_some_iff.mp e).1; omega)]; exact e)
theorem ok_ixF {us : List U} {i : Nat} {u : U} (e : us[i]? = some u) : okP (idxU (.fl us) (.int (i : Int)) m) Q ↔ Q u m :=
  ok_idxF (by rw [atI_nat (by omega) (by have := (List.getElem?_eq_some_iff.mp e).1; omega)]; exact e)
/-- some item of a list whose place is drawn -/
theorem ok_ixAny {us : List U} {i : Int} (h0 : 0 ≤ i) (h1 : i < us.length) (h : ∀ u ∈ us, Q u m) : okP (idxU (.fl us) (.int i) m) Q := by
  have lt : i.toNat < us.length := by omega
  rw [ok_idxF (by rw [atI_nat h0 h1]; exact List.getElem?_eq_getElem lt)]
  exact h _ (List.getElem_mem lt)
theorem ok_ixAnyT {us : List U} {i : Int} (h0 : 0 ≤ i) (h1 : i < us.length) (h : ∀ u ∈ us, Q u m) : okP (idxU (.tup us) (.int i) m) Q := by
  have lt : i.toNat < us.length := by omega
  rw [ok_idxT (by rw [atI_nat h0 h1]; exact List.getElem?_eq_getElem lt)]
  exact h _ (List.getElem_mem lt)
end
/-- a body that ends with just one value -/
theorem rt_of {o : SO} {x : U} {m : MH} (h : okS o (fun _ _ => False) (fun v m' => v = x ∧ m' = m)) : o = .rt x m := by
  cases o with
  | rt u m' => obtain ⟨rfl, rfl⟩ := h; rfl
  | nx _ _ => exact h.elim
  | _ => exact (show False from h).elim
theorem call_of {S : Sta} {n : Nat} {key : FKey} {f : De} {c : S1} {us : List U} {m : MH} {v : U} (h : S.df key = some f) (e : bodyU (S.tab (callN S n)) f = c) (hl : us.length = f.ps.length) (hb : c (startU f.N us) m = .rt v m) : callN S (n + 1) key us m = .ok v m := by
  rw [callN_some h]
  unfold runDf
  rw [if_pos hl, e, hb]
  rfl
theorem okcall_of {S : Sta} {n : Nat} {key : FKey} {f : De} {c : S1} {us : List U} {m : MH} {Q : U → MH → Prop} (h : S.df key = some f) (e : bodyU (S.tab (callN S n)) f = c) (hl : us.length = f.ps.length) (hb : okS (c (startU f.N us) m) (fun _ m' => Q .non m') Q) : okO (callN S (n + 1) key us m) Q := by
  rw [callN_some h]
  exact ok_run e hl hb
end Mi
/-! what defs do that several laws share, by own values. -/
namespace Mi
open PySem PySem.Spec PyProof.Rows L2
set_option linter.unusedVariables false
def P_is_whole (T : Tab) (call : FKey → List U → MH → Out U) : S1 := (sSeq (sRet (cAndV (cFn (biIsa T) (cCons (cVar 0) (cCons (cK (.ty "int")) cNil))) (cNotV (cFn (biIsa T) (cCons (cVar 0) (cCons (cK (.ty "bool")) cNil)))))) sNx)
def P_is_count (T : Tab) (call : FKey → List U → MH → Out U) : S1 := (sSeq (sRet (cAndV (cCallK 1 0 (fun as _ m => call ("is_whole", none) as m) (cCons (cVar 0) cNil) cNil) (cBin (cmpI geI) (cVar 0) (cK (.int 0))))) sNx)
def P_is_amount (T : Tab) (call : FKey → List U → MH → Out U) : S1 := (sSeq (sRet (cAndV (cCallK 1 0 (fun as _ m => call ("is_whole", none) as m) (cCons (cVar 0) cNil) cNil) (cBin (cmpI geI) (cVar 0) (cK (.int 1))))) sNx)
def P_is_side (T : Tab) (call : FKey → List U → MH → Out U) : S1 := (sSeq (sRet (cAndV (cFn (biIsa T) (cCons (cVar 0) (cCons (cK (.ty "str")) cNil))) (cBin inU (cVar 0) (cFn mkTup (cCons (cK (.str "left")) (cCons (cK (.str "right")) cNil)))))) sNx)
def P_is_lock (T : Tab) (call : FKey → List U → MH → Out U) : S1 := (sSeq (sIf (cOr (cNot (cTruth (cFn (biIsa T) (cCons (cVar 0) (cCons (cK (.ty "tuple")) cNil))))) (cIsBl (cBin neU (cFn biLen (cCons (cVar 0) cNil)) (cK (.int 5))))) (sSeq (sRet (cK (.bl false))) sNx) sNx) (sSeq (sAsg (cVar 0) (gTup [(gName 1), (gName 2), (gName 3), (gName 4), (gName 5)])) (sSeq (sRet (cAndV (cCallK 1 0 (fun as _ m => call ("is_amount", none) as m) (cCons (cVar 1) cNil) cNil) (cAndV (cCallK 1 0 (fun as _ m => call ("is_side", none) as m) (cCons (cVar 2) cNil) cNil) (cAndV (cCallK 1 0 (fun as _ m => call ("is_amount", none) as m) (cCons (cVar 3) cNil) cNil) (cAndV (cCallK 1 0 (fun as _ m => call ("is_count", none) as m) (cCons (cVar 4) cNil) cNil) (cCallK 1 0 (fun as _ m => call ("is_count", none) as m) (cCons (cVar 5) cNil) cNil)))))) sNx)))
def P_is_state (T : Tab) (call : FKey → List U → MH → Out U) : S1 := (sSeq (sIf (cOr (cNot (cTruth (cFn (biIsa T) (cCons (cVar 0) (cCons (cK (.ty "tuple")) cNil))))) (cOr (cIsBl (cBin neU (cFn biLen (cCons (cVar 0) cNil)) (cK (.int 5)))) (cNot (cTruth (cFn (biIsa T) (cCons (cBin idxU (cVar 0) (cK (.int 4))) (cCons (cK (.ty "tuple")) cNil))))))) (sSeq (sRet (cK (.bl false))) sNx) sNx) (sSeq (sAsg (cVar 0) (gStar 0 [(gName 4), (gName 3)])) (sSeq (sIf (cOr (cNot (cTruth (cFn biAll (cCons (cLc false (cIt (cVar 4)) (gName 5) cYes (cCallK 1 0 (fun as _ m => call ("is_count", none) as m) (cCons (cVar 5) cNil) cNil) [5]) cNil)))) (cIsBl (cBin cmpG (cFn biLen (cCons (cVar 3) cNil)) (cK (.int 30))))) (sSeq (sRet (cK (.bl false))) sNx) sNx) (sSeq (sAsg (cK (.int 1)) (gName 1)) (sSeq (sFor (cIt (cVar 3)) (gName 2) (sSeq (sIf (cOr (cNot (cTruth (cCallK 1 0 (fun as _ m => call ("is_lock", none) as m) (cCons (cVar 2) cNil) cNil))) (cIsBl (cBin (cmpI ltI) (cBin idxU (cVar 2) (cK (.int 0))) (cVar 1)))) (sSeq (sRet (cK (.bl false))) sNx) sNx) (sSeq (sAsg (cBin addU (cBin idxU (cVar 2) (cK (.int 0))) (cK (.int 1))) (gName 1)) sNx))) (sSeq (sRet (cBin (cmpI leI) (cVar 1) (cBin addU (cBin idxU (cVar 4) (cK (.int 1))) (cK (.int 1))))) sNx))))))
def P_is_step (T : Tab) (call : FKey → List U → MH → Out U) : S1 := (sSeq (sIf (cOr (cNot (cTruth (cFn (biIsa T) (cCons (cVar 0) (cCons (cK (.ty "tuple")) cNil))))) (cOr (cIsBl (cBin eqU (cVar 0) (cFn mkTup cNil))) (cNot (cTruth (cFn (biIsa T) (cCons (cBin idxU (cVar 0) (cK (.int 0))) (cCons (cK (.ty "str")) cNil))))))) (sSeq (sRet (cK (.bl false))) sNx) sNx) (sSeq (sAsg (cVar 0) (gStar 1 [(gName 1), (gName 2)])) (sSeq (sIf (cIsBl (cBin eqU (cVar 1) (cK (.str "pay")))) (sSeq (sRet (cAndV (cBin eqU (cFn biLen (cCons (cVar 2) cNil)) (cK (.int 2))) (cAndV (cCallK 1 0 (fun as _ m => call ("is_side", none) as m) (cCons (cBin idxU (cVar 2) (cK (.int 0))) cNil) cNil) (cCallK 1 0 (fun as _ m => call ("is_amount", none) as m) (cCons (cBin idxU (cVar 2) (cK (.int 1))) cNil) cNil)))) sNx) sNx) (sSeq (sIf (cIsBl (cBin eqU (cVar 1) (cK (.str "lock")))) (sSeq (sRet (cAndV (cBin eqU (cFn biLen (cCons (cVar 2) cNil)) (cK (.int 4))) (cCallK 1 0 (fun as _ m => call ("is_lock", none) as m) (cCons (cBin addU (cFn mkTup (cCons (cK (.int 1)) cNil)) (cFn biTuple (cCons (cVar 2) cNil))) cNil) cNil))) sNx) sNx) (sSeq (sIf (cIsBl (cBin eqU (cVar 1) (cK (.str "fold")))) (sSeq (sRet (cAndV (cBin eqU (cFn biLen (cCons (cVar 2) cNil)) (cK (.int 2))) (cAndV (cCallK 1 0 (fun as _ m => call ("is_amount", none) as m) (cCons (cBin idxU (cVar 2) (cK (.int 0))) cNil) cNil) (cCallK 1 0 (fun as _ m => call ("is_count", none) as m) (cCons (cBin idxU (cVar 2) (cK (.int 1))) cNil) cNil)))) sNx) sNx) (sSeq (sIf (cIsBl (cBin eqU (cVar 1) (cK (.str "drop")))) (sSeq (sRet (cAndV (cBin eqU (cFn biLen (cCons (cVar 2) cNil)) (cK (.int 1))) (cCallK 1 0 (fun as _ m => call ("is_amount", none) as m) (cCons (cBin idxU (cVar 2) (cK (.int 0))) cNil) cNil))) sNx) sNx) (sSeq (sRet (cAndV (cBin eqU (cVar 1) (cK (.str "pass"))) (cBin eqU (cVar 2) (cFn mkFl cNil)))) sNx)))))))
def P_law_whole (T : Tab) (call : FKey → List U → MH → Out U) : S1 := (sSeq (sRet (cAndV (cFn (biIsa T) (cCons (cVar 0) (cCons (cK (.ty "int")) cNil))) (cAndV (cNotV (cFn (biIsa T) (cCons (cVar 0) (cCons (cK (.ty "bool")) cNil)))) (cBin (cmpI geI) (cVar 0) (cVar 1))))) sNx)
def P_law_is_lock (T : Tab) (call : FKey → List U → MH → Out U) : S1 := (sSeq (sIf (cOr (cNot (cTruth (cFn (biIsa T) (cCons (cVar 0) (cCons (cK (.ty "tuple")) cNil))))) (cOr (cIsBl (cBin neU (cFn biLen (cCons (cVar 0) cNil)) (cK (.int 5)))) (cNot (cTruth (cFn (biIsa T) (cCons (cBin idxU (cVar 0) (cK (.int 1))) (cCons (cK (.ty "str")) cNil))))))) (sSeq (sRet (cK (.bl false))) sNx) sNx) (sSeq (sIf (cOr (cAnd (cIsBl (cBin neU (cBin idxU (cVar 0) (cK (.int 1))) (cK (.str "left")))) (cIsBl (cBin neU (cBin idxU (cVar 0) (cK (.int 1))) (cK (.str "right"))))) (cOr (cNot (cTruth (cCallK 2 0 (fun as _ m => call ("_law_whole", none) as m) (cCons (cBin idxU (cVar 0) (cK (.int 0))) (cCons (cK (.int 1)) cNil)) cNil))) (cNot (cTruth (cCallK 2 0 (fun as _ m => call ("_law_whole", none) as m) (cCons (cBin idxU (cVar 0) (cK (.int 2))) (cCons (cK (.int 1)) cNil)) cNil))))) (sSeq (sRet (cK (.bl false))) sNx) sNx) (sSeq (sRet (cAndV (cCallK 2 0 (fun as _ m => call ("_law_whole", none) as m) (cCons (cBin idxU (cVar 0) (cK (.int 3))) (cCons (cK (.int 0)) cNil)) cNil) (cCallK 2 0 (fun as _ m => call ("_law_whole", none) as m) (cCons (cBin idxU (cVar 0) (cK (.int 4))) (cCons (cK (.int 0)) cNil)) cNil))) sNx)))
def P_law_is_state (T : Tab) (call : FKey → List U → MH → Out U) : S1 := (sSeq (sIf (cOr (cNot (cTruth (cFn (biIsa T) (cCons (cVar 0) (cCons (cK (.ty "tuple")) cNil))))) (cOr (cIsBl (cBin neU (cFn biLen (cCons (cVar 0) cNil)) (cK (.int 5)))) (cOr (cNot (cTruth (cFn (biIsa T) (cCons (cBin idxU (cVar 0) (cK (.int 4))) (cCons (cK (.ty "tuple")) cNil))))) (cIsBl (cBin cmpG (cFn biLen (cCons (cBin idxU (cVar 0) (cK (.int 4))) cNil)) (cK (.int 30))))))) (sSeq (sRet (cK (.bl false))) sNx) sNx) (sSeq (sIf (cOr (cIsBl (cBin neU (cLc false (cRng1 (cCons (cK (.int 4)) cNil)) (gName 3) (cNot (cTruth (cCallK 2 0 (fun as _ m => call ("_law_whole", none) as m) (cCons (cBin idxU (cVar 0) (cVar 3)) (cCons (cK (.int 0)) cNil)) cNil))) (cK (.int 1)) [3]) (cFn mkFl cNil))) (cIsBl (cBin neU (cLc false (cIt (cBin idxU (cVar 0) (cK (.int 4)))) (gName 3) (cNot (cTruth (cCallK 1 0 (fun as _ m => call ("_law_is_lock", none) as m) (cCons (cVar 3) cNil) cNil))) (cK (.int 1)) [3]) (cFn mkFl cNil)))) (sSeq (sRet (cK (.bl false))) sNx) sNx) (sSeq (sAsg (cLc false (cIt (cBin idxU (cVar 0) (cK (.int 4)))) (gName 2) cYes (cBin idxU (cVar 2) (cK (.int 0))) [2]) (gName 1)) (sSeq (sRet (cAndV (cBin eqU (cVar 1) (cFn biRise (cCons (cVar 1) cNil))) (cOrV (cBin eqU (cVar 1) (cFn mkFl cNil)) (cBin (cmpI leI) (cBin idxU (cVar 1) (cUn negU (cK (.int 1)))) (cBin idxU (cVar 0) (cK (.int 1))))))) sNx))))
def P_law_is_step (T : Tab) (call : FKey → List U → MH → Out U) : S1 := (sSeq (sIf (cOr (cNot (cTruth (cFn (biIsa T) (cCons (cVar 0) (cCons (cK (.ty "tuple")) cNil))))) (cOr (cIsBl (cBin eqU (cVar 0) (cFn mkTup cNil))) (cNot (cTruth (cFn (biIsa T) (cCons (cBin idxU (cVar 0) (cK (.int 0))) (cCons (cK (.ty "str")) cNil))))))) (sSeq (sRet (cK (.bl false))) sNx) sNx) (sSeq (sIf (cIsBl (cBin eqU (cBin idxU (cVar 0) (cK (.int 0))) (cK (.str "pay")))) (sSeq (sRet (cAndV (cBin eqU (cFn biLen (cCons (cVar 0) cNil)) (cK (.int 3))) (cCallK 1 0 (fun as _ m => call ("_law_is_lock", none) as m) (cCons (cFn mkTup (cCons (cK (.int 1)) (cCons (cBin idxU (cVar 0) (cK (.int 1))) (cCons (cBin idxU (cVar 0) (cK (.int 2))) (cCons (cK (.int 0)) (cCons (cK (.int 0)) cNil)))))) cNil) cNil))) sNx) sNx) (sSeq (sIf (cIsBl (cBin eqU (cBin idxU (cVar 0) (cK (.int 0))) (cK (.str "lock")))) (sSeq (sRet (cAndV (cBin eqU (cFn biLen (cCons (cVar 0) cNil)) (cK (.int 5))) (cCallK 1 0 (fun as _ m => call ("_law_is_lock", none) as m) (cCons (cBin addU (cFn mkTup (cCons (cK (.int 1)) cNil)) (cSlice (cVar 0) (some (cK (.int 1))) none)) cNil) cNil))) sNx) sNx) (sSeq (sIf (cIsBl (cBin eqU (cBin idxU (cVar 0) (cK (.int 0))) (cK (.str "fold")))) (sSeq (sRet (cAndV (cBin eqU (cFn biLen (cCons (cVar 0) cNil)) (cK (.int 3))) (cAndV (cCallK 2 0 (fun as _ m => call ("_law_whole", none) as m) (cCons (cBin idxU (cVar 0) (cK (.int 1))) (cCons (cK (.int 1)) cNil)) cNil) (cCallK 2 0 (fun as _ m => call ("_law_whole", none) as m) (cCons (cBin idxU (cVar 0) (cK (.int 2))) (cCons (cK (.int 0)) cNil)) cNil)))) sNx) sNx) (sSeq (sIf (cIsBl (cBin eqU (cBin idxU (cVar 0) (cK (.int 0))) (cK (.str "drop")))) (sSeq (sRet (cAndV (cBin eqU (cFn biLen (cCons (cVar 0) cNil)) (cK (.int 2))) (cCallK 2 0 (fun as _ m => call ("_law_whole", none) as m) (cCons (cBin idxU (cVar 0) (cK (.int 1))) (cCons (cK (.int 1)) cNil)) cNil))) sNx) sNx) (sSeq (sRet (cBin eqU (cVar 0) (cFn mkTup (cCons (cK (.str "pass")) cNil)))) sNx))))))
def P_law_odd (T : Tab) (call : FKey → List U → MH → Out U) : S1 := (sSeq (sAsg (cFn mkFl (cCons (cK .non) (cCons (cK (.bl true)) (cCons (cK (.bl false)) (cCons (cK (.int 0)) (cCons (cK (.int 1)) (cCons (cUn negU (cK (.int 1))) (cCons (cK (.int 7)) (cCons (cK (.str "")) (cCons (cK (.str "a")) (cCons (cK (.str "left")) (cCons (cK (.str "right")) (cCons (cK (.str "up")) (cCons (cK (.str "pay")) (cCons (cK (.str "pass")) (cCons (cK (.str "Left")) (cCons (cFn mkTup cNil) (cCons (cFn mkFl cNil) (cCons cDic0 (cCons (cDict false [((cK (.str "a")), (cK (.int 1)))]) cNil)))))))))))))))))))) (gName 1)) (sSeq (sAsg (cBin addU (cVar 1) (cFn mkFl (cCons (cFn mkTup (cCons (cK (.int 1)) (cCons (cK (.str "left")) (cCons (cK (.int 1)) (cCons (cK (.int 0)) (cCons (cK (.int 0)) cNil)))))) (cCons (cFn mkTup (cCons (cK (.int 2)) (cCons (cK (.str "right")) (cCons (cK (.int 5)) (cCons (cK (.int 3)) (cCons (cK (.int 9)) cNil)))))) (cCons (cFn mkTup (cCons (cK (.str "left")) cNil)) (cCons (cFn mkFl (cCons (cK (.int 1)) cNil)) (cCons (cBin subU (cK (.int 0)) (cBin powU (cK (.int 10)) (cK (.int 14)))) (cCons (cFn mkTup (cCons (cFn mkTup cNil) cNil)) (cCons (cK (.str "left ")) cNil))))))))) (gName 1)) (sSeq (sRet (cBin idxU (cVar 1) (cCallK 2 0 (fun as _ m => call ("_law_draw", none) as m) (cCons (cVar 0) (cCons (cK (.int 26)) cNil)) cNil))) sNx)))
def P_law_spoilt_end (T : Tab) (call : FKey → List U → MH → Out U) : S1 := (sSeq (sAsg (cCallK 2 0 (fun as _ m => call ("_law_draw", none) as m) (cCons (cVar 0) (cCons (cK (.int 6)) cNil)) cNil) (gName 2)) (sSeq (sAsg (cIf (cTruth (cFn (biIsa T) (cCons (cVar 1) (cCons (cK (.ty "tuple")) cNil)))) (cCallK 2 0 (fun as _ m => call ("_law_draw", none) as m) (cCons (cVar 0) (cCons (cBin addU (cFn biLen (cCons (cVar 1) cNil)) (cK (.int 1))) cNil)) cNil) (cK (.int 0))) (gName 3)) (sSeq (sIf (cAnd (cTruth (cFn (biIsa T) (cCons (cVar 1) (cCons (cK (.ty "tuple")) cNil)))) (cIsBl (cBin (cmpI ltI) (cVar 2) (cK (.int 5))))) (sSeq (sIf (cIsBl (cBin eqU (cVar 2) (cK (.int 0)))) (sSeq (sRet (cBin addU (cSlice (cVar 1) none (some (cVar 3))) (cSlice (cVar 1) (some (cBin addU (cVar 3) (cK (.int 1)))) none))) sNx) sNx) (sSeq (sIf (cIsBl (cBin eqU (cVar 2) (cK (.int 1)))) (sSeq (sRet (cBin addU (cBin addU (cSlice (cVar 1) none (some (cVar 3))) (cFn mkTup (cCons (cCallK 1 0 (fun as _ m => call ("_law_odd", none) as m) (cCons (cVar 0) cNil) cNil) cNil))) (cSlice (cVar 1) (some (cVar 3)) none))) sNx) sNx) (sSeq (sIf (cIsBl (cBin eqU (cVar 2) (cK (.int 2)))) (sSeq (sRet (cBin addU (cBin addU (cSlice (cVar 1) none (some (cVar 3))) (cUn rev2U (cSlice (cVar 1) (some (cVar 3)) (some (cBin addU (cVar 3) (cK (.int 2))))))) (cSlice (cVar 1) (some (cBin addU (cVar 3) (cK (.int 2)))) none))) sNx) sNx) (sSeq (sRet (cIf (cIsBl (cBin eqU (cVar 2) (cK (.int 3)))) (cFn biList (cCons (cVar 1) cNil)) (cBin addU (cBin addU (cSlice (cVar 1) none (some (cVar 3))) (cSlice (cVar 1) (some (cVar 3)) (some (cBin addU (cVar 3) (cK (.int 1)))))) (cSlice (cVar 1) (some (cVar 3)) none)))) sNx)))) sNx) (sSeq (sIf (cAnd (cTruth (cFn (biIsa T) (cCons (cVar 1) (cCons (cK (.ty "int")) cNil)))) (cIsBl (cBin (cmpI ltI) (cVar 2) (cK (.int 4))))) (sSeq (sRet (cBin idxU (cFn mkFl (cCons (cFn biMin (cCons (cBin addU (cVar 1) (cK (.int 1))) (cCons (cBin subU (cBin powU (cK (.int 10)) (cK (.int 15))) (cK (.int 1))) cNil))) (cCons (cBin subU (cVar 1) (cK (.int 1))) (cCons (cBin subU (cUn negU (cK (.int 1))) (cVar 1)) (cCons (cBin cmpG (cVar 1) (cK (.int 0))) cNil))))) (cVar 2))) sNx) sNx) (sSeq (sIf (cAnd (cTruth (cFn (biIsa T) (cCons (cVar 1) (cCons (cK (.ty "str")) cNil)))) (cIsBl (cBin (cmpI ltI) (cVar 2) (cK (.int 3))))) (sSeq (sRet (cBin idxU (cFn mkFl (cCons (cBin addU (cVar 1) (cK (.str "a"))) (cCons (cSlice (cVar 1) (some (cK (.int 1))) none) (cCons (cMeth T "upper" 0 [] (cVar 1) cNil cNil) cNil)))) (cVar 2))) sNx) sNx) (sSeq (sRet (cCallK 1 0 (fun as _ m => call ("_law_odd", none) as m) (cCons (cVar 0) cNil) cNil)) sNx))))))
def P_law_spoilt (T : Tab) (call : FKey → List U → MH → Out U) : S1 := (sSeq (sIf (cAnd (cTruth (cFn (biIsa T) (cCons (cVar 1) (cCons (cK (.ty "tuple")) cNil)))) (cAnd (cIsBl (cBin cmpG (cFn biLen (cCons (cVar 1) cNil)) (cK (.int 0)))) (cAnd (cIsBl (cBin cmpG (cVar 2) (cK (.int 0)))) (cIsBl (cBin cmpG (cCallK 2 0 (fun as _ m => call ("_law_draw", none) as m) (cCons (cVar 0) (cCons (cK (.int 4)) cNil)) cNil) (cK (.int 0))))))) (sSeq (sAsg (cCallK 2 0 (fun as _ m => call ("_law_draw", none) as m) (cCons (cVar 0) (cCons (cFn biLen (cCons (cVar 1) cNil)) cNil)) cNil) (gName 3)) (sSeq (sRet (cBin addU (cBin addU (cSlice (cVar 1) none (some (cVar 3))) (cFn mkTup (cCons (cCallK 3 0 (fun as _ m => call ("_law_spoilt", none) as m) (cCons (cVar 0) (cCons (cBin idxU (cVar 1) (cVar 3)) (cCons (cBin subU (cVar 2) (cK (.int 1))) cNil))) cNil) cNil))) (cSlice (cVar 1) (some (cBin addU (cVar 3) (cK (.int 1)))) none))) sNx)) sNx) (sSeq (sRet (cCallK 2 0 (fun as _ m => call ("_law_spoilt_end", none) as m) (cCons (cVar 0) (cCons (cVar 1) cNil)) cNil)) sNx))
def P_law_lock (T : Tab) (call : FKey → List U → MH → Out U) : S1 := (sSeq (sRet (cFn mkTup (cCons (cVar 1) (cCons (cBin idxU (cFn mkFl (cCons (cK (.str "left")) (cCons (cK (.str "right")) cNil))) (cCallK 2 0 (fun as _ m => call ("_law_draw", none) as m) (cCons (cVar 0) (cCons (cK (.int 2)) cNil)) cNil)) (cCons (cFn biMax (cCons (cK (.int 1)) (cCons (cCallK 1 0 (fun as _ m => call ("_law_count", none) as m) (cCons (cVar 0) cNil) cNil) cNil))) (cCons (cCallK 1 0 (fun as _ m => call ("_law_count", none) as m) (cCons (cVar 0) cNil) cNil) (cCons (cCallK 1 0 (fun as _ m => call ("_law_count", none) as m) (cCons (cVar 0) cNil) cNil) cNil))))))) sNx)
def P_law_locks (T : Tab) (call : FKey → List U → MH → Out U) : S1 := (sSeq (sAsg (cFn mkLst cNil) (gName 3)) (sSeq (sFor (cRng1 (cCons (cCallK 2 0 (fun as _ m => call ("_law_draw", none) as m) (cCons (cVar 0) (cCons (cBin addU (cVar 1) (cK (.int 1))) cNil)) cNil) cNil)) (gName 4) (sSeq (sAsg (cBin addU (cK (.int 1)) (cCallK 2 0 (fun as _ m => call ("_law_draw", none) as m) (cCons (cVar 0) (cCons (cVar 2) cNil)) cNil)) (gName 5)) (sSeq (sIf (cIsBl (cBin ninU (cVar 5) (cVar 3))) (sSeq (sDrop (cMeth T "append" 1 [] (cVar 3) (cCons (cVar 5) cNil) cNil)) sNx) sNx) sNx))) (sSeq (sRet (cFn biTuple (cCons (cLc false (cIt (cFn biSorted (cCons (cVar 3) cNil))) (gName 5) cYes (cCallK 2 0 (fun as _ m => call ("_law_lock", none) as m) (cCons (cVar 0) (cCons (cVar 5) cNil)) cNil) [5]) cNil))) sNx)))
def P_law_state (T : Tab) (call : FKey → List U → MH → Out U) : S1 := (sSeq (sAsg (cFn biMax (cCons (cK (.int 1)) (cCons (cBin idxU (cFn mkFl (cCons (cCallK 2 0 (fun as _ m => call ("_law_draw", none) as m) (cCons (cVar 0) (cCons (cK (.int 60)) cNil)) cNil) (cCons (cCallK 1 0 (fun as _ m => call ("_law_count", none) as m) (cCons (cVar 0) cNil) cNil) cNil))) (cCallK 2 0 (fun as _ m => call ("_law_draw", none) as m) (cCons (cVar 0) (cCons (cK (.int 2)) cNil)) cNil)) cNil))) (gName 2)) (sSeq (sAsg (cCallK 3 0 (fun as _ m => call ("_law_locks", none) as m) (cCons (cVar 0) (cCons (cVar 1) (cCons (cVar 2) cNil))) cNil) (gName 3)) (sSeq (sIf (cAnd (cIsBl (cBin eqU (cVar 3) (cFn mkTup cNil))) (cIsBl (cBin eqU (cCallK 2 0 (fun as _ m => call ("_law_draw", none) as m) (cCons (cVar 0) (cCons (cK (.int 3)) cNil)) cNil) (cK (.int 0))))) (sSeq (sAsg (cK (.int 0)) (gName 2)) sNx) sNx) (sSeq (sRet (cFn mkTup (cCons (cCallK 1 0 (fun as _ m => call ("_law_count", none) as m) (cCons (cVar 0) cNil) cNil) (cCons (cVar 2) (cCons (cCallK 1 0 (fun as _ m => call ("_law_count", none) as m) (cCons (cVar 0) cNil) cNil) (cCons (cCallK 1 0 (fun as _ m => call ("_law_count", none) as m) (cCons (cVar 0) cNil) cNil) (cCons (cVar 3) cNil))))))) sNx))))
def P_law_step (T : Tab) (call : FKey → List U → MH → Out U) : S1 := (sSeq (sAsg (cBin idxU (cFn mkFl (cCons (cK (.str "pay")) (cCons (cK (.str "lock")) (cCons (cK (.str "fold")) (cCons (cK (.str "drop")) (cCons (cK (.str "pass")) cNil)))))) (cCallK 2 0 (fun as _ m => call ("_law_draw", none) as m) (cCons (cVar 0) (cCons (cK (.int 5)) cNil)) cNil)) (gName 1)) (sSeq (sAsg (cBin idxU (cFn mkFl (cCons (cK (.str "left")) (cCons (cK (.str "right")) cNil))) (cCallK 2 0 (fun as _ m => call ("_law_draw", none) as m) (cCons (cVar 0) (cCons (cK (.int 2)) cNil)) cNil)) (gName 2)) (sSeq (sIf (cIsBl (cBin eqU (cVar 1) (cK (.str "pay")))) (sSeq (sRet (cFn mkTup (cCons (cVar 1) (cCons (cVar 2) (cCons (cFn biMax (cCons (cK (.int 1)) (cCons (cCallK 1 0 (fun as _ m => call ("_law_count", none) as m) (cCons (cVar 0) cNil) cNil) cNil))) cNil))))) sNx) sNx) (sSeq (sIf (cIsBl (cBin eqU (cVar 1) (cK (.str "lock")))) (sSeq (sRet (cFn mkTup (cCons (cVar 1) (cCons (cVar 2) (cCons (cFn biMax (cCons (cK (.int 1)) (cCons (cCallK 1 0 (fun as _ m => call ("_law_count", none) as m) (cCons (cVar 0) cNil) cNil) cNil))) (cCons (cCallK 1 0 (fun as _ m => call ("_law_count", none) as m) (cCons (cVar 0) cNil) cNil) (cCons (cCallK 1 0 (fun as _ m => call ("_law_count", none) as m) (cCons (cVar 0) cNil) cNil) cNil))))))) sNx) sNx) (sSeq (sIf (cIsBl (cBin eqU (cVar 1) (cK (.str "fold")))) (sSeq (sRet (cFn mkTup (cCons (cVar 1) (cCons (cFn biMax (cCons (cK (.int 1)) (cCons (cCallK 1 0 (fun as _ m => call ("_law_count", none) as m) (cCons (cVar 0) cNil) cNil) cNil))) (cCons (cCallK 1 0 (fun as _ m => call ("_law_count", none) as m) (cCons (cVar 0) cNil) cNil) cNil))))) sNx) sNx) (sSeq (sRet (cIf (cIsBl (cBin eqU (cVar 1) (cK (.str "drop")))) (cFn mkTup (cCons (cVar 1) (cCons (cFn biMax (cCons (cK (.int 1)) (cCons (cCallK 1 0 (fun as _ m => call ("_law_count", none) as m) (cCons (cVar 0) cNil) cNil) cNil))) cNil))) (cFn mkTup (cCons (cVar 1) cNil)))) sNx))))))
def P_law_count40 (T : Tab) (call : FKey → List U → MH → Out U) : S1 := (sSeq (sAsg (cCallK 2 0 (fun as _ m => call ("_law_draw", none) as m) (cCons (cVar 0) (cCons (cK (.int 6)) cNil)) cNil) (gName 1)) (sSeq (sIf (cIsBl (cBin (cmpI ltI) (cVar 1) (cK (.int 2)))) (sSeq (sRet (cCallK 2 0 (fun as _ m => call ("_law_draw", none) as m) (cCons (cVar 0) (cCons (cBin idxU (cFn mkFl (cCons (cK (.int 7)) (cCons (cK (.int 2000)) cNil))) (cVar 1)) cNil)) cNil)) sNx) sNx) (sSeq (sIf (cIsBl (cBin eqU (cVar 1) (cK (.int 2)))) (sSeq (sRet (cBin subU (cBin subU (cBin powU (cK (.int 10)) (cK (.int 15))) (cK (.int 1))) (cCallK 2 0 (fun as _ m => call ("_law_draw", none) as m) (cCons (cVar 0) (cCons (cK (.int 3)) cNil)) cNil))) sNx) sNx) (sSeq (sRet (cCallK 2 0 (fun as _ m => call ("_law_draw", none) as m) (cCons (cVar 0) (cCons (cBin idxU (cFn mkFl (cCons (cK (.int 40)) (cCons (cBin powU (cK (.int 10)) (cK (.int 15))) (cCons (cBin powU (cK (.int 10)) (cK (.int 40))) cNil)))) (cBin subU (cVar 1) (cK (.int 3)))) cNil)) cNil)) sNx))))
def P_other_side (T : Tab) (call : FKey → List U → MH → Out U) : S1 := (sSeq (sRet (cIf (cIsBl (cBin eqU (cVar 0) (cK (.str "left")))) (cK (.str "right")) (cK (.str "left")))) sNx)
def P_share_of (T : Tab) (call : FKey → List U → MH → Out U) : S1 := (sSeq (sRet (cIf (cIsBl (cBin eqU (cVar 1) (cK (.str "left")))) (cBin idxU (cVar 0) (cK (.int 2))) (cBin idxU (cVar 0) (cK (.int 3))))) sNx)
def P_state_moved (T : Tab) (call : FKey → List U → MH → Out U) : S1 := (sSeq (sAsg (cVar 0) (gTup [(gName 4), (gName 5), (gName 6), (gName 7), (gName 8)])) (sSeq (sIf (cIsBl (cBin (cmpI ltI) (cBin addU (cCallK 2 0 (fun as _ m => call ("share_of", none) as m) (cCons (cVar 0) (cCons (cVar 1) cNil)) cNil) (cVar 2)) (cK (.int 0)))) (sSeq (sRaise "NoStep") sNx) sNx) (sSeq (sIf (cIsBl (cBin cmpG (cFn biLen (cCons (cVar 3) cNil)) (cK (.int 30)))) (sSeq (sRaise "NoStep") sNx) sNx) (sSeq (sIf (cIsBl (cBin eqU (cVar 1) (cK (.str "left")))) (sSeq (sAug 6 (fun i j => i + j) (cVar 2)) sNx) (sSeq (sAug 7 (fun i j => i + j) (cVar 2)) sNx)) (sSeq (sRet (cFn mkTup (cCons (cVar 4) (cCons (cBin addU (cVar 5) (cK (.int 1))) (cCons (cVar 6) (cCons (cVar 7) (cCons (cFn biTuple (cCons (cVar 3) cNil)) cNil))))))) sNx)))))
def P_lock_of (T : Tab) (call : FKey → List U → MH → Out U) : S1 := (sSeq (sFor (cIt (cBin idxU (cVar 0) (cK (.int 4)))) (gName 2) (sSeq (sIf (cIsBl (cBin eqU (cBin idxU (cVar 2) (cK (.int 0))) (cVar 1))) (sSeq (sRet (cVar 2)) sNx) sNx) sNx)) (sSeq (sRaise "NoStep") sNx))
def P_locks_but (T : Tab) (call : FKey → List U → MH → Out U) : S1 := (sSeq (sRet (cLc false (cIt (cBin idxU (cVar 0) (cK (.int 4)))) (gName 2) (cIsBl (cBin neU (cBin idxU (cVar 2) (cK (.int 0))) (cVar 1))) (cVar 2) [2])) sNx)
def P_state_paid (T : Tab) (call : FKey → List U → MH → Out U) : S1 := (sSeq (sAsg (cCallK 4 0 (fun as _ m => call ("state_moved", none) as m) (cCons (cVar 0) (cCons (cVar 1) (cCons (cBin subU (cK (.int 0)) (cVar 2)) (cCons (cBin idxU (cVar 0) (cK (.int 4))) cNil)))) cNil) (gTup [(gName 3), (gName 4), (gName 5), (gName 6), (gName 7)])) (sSeq (sIf (cIsBl (cBin eqU (cVar 1) (cK (.str "left")))) (sSeq (sAug 6 (fun i j => i + j) (cVar 2)) sNx) (sSeq (sAug 5 (fun i j => i + j) (cVar 2)) sNx)) (sSeq (sRet (cFn mkTup (cCons (cVar 3) (cCons (cVar 4) (cCons (cVar 5) (cCons (cVar 6) (cCons (cVar 7) cNil))))))) sNx)))
def P_next_state (T : Tab) (call : FKey → List U → MH → Out U) : S1 := (sSeq (sDrop (cCallK 1 0 (fun as _ m => call ("need_state", none) as m) (cCons (cVar 0) cNil) cNil)) (sSeq (sIf (cNot (cTruth (cCallK 1 0 (fun as _ m => call ("is_step", none) as m) (cCons (cVar 1) cNil) cNil))) (sSeq (sRaise "NoStep") sNx) sNx) (sSeq (sAsg (cBin idxU (cVar 1) (cK (.int 0))) (gName 2)) (sSeq (sIf (cIsBl (cBin eqU (cVar 2) (cK (.str "pay")))) (sSeq (sRet (cCallK 3 0 (fun as _ m => call ("state_paid", none) as m) (cCons (cVar 0) (cCons (cBin idxU (cVar 1) (cK (.int 1))) (cCons (cBin idxU (cVar 1) (cK (.int 2))) cNil))) cNil)) sNx) sNx) (sSeq (sIf (cIsBl (cBin eqU (cVar 2) (cK (.str "lock")))) (sSeq (sAsg (cBin addU (cFn mkTup (cCons (cBin addU (cBin idxU (cVar 0) (cK (.int 1))) (cK (.int 1))) cNil)) (cSlice (cVar 1) (some (cK (.int 1))) none)) (gName 4)) (sSeq (sRet (cCallK 4 0 (fun as _ m => call ("state_moved", none) as m) (cCons (cVar 0) (cCons (cBin idxU (cVar 1) (cK (.int 1))) (cCons (cBin subU (cK (.int 0)) (cBin idxU (cVar 1) (cK (.int 2)))) (cCons (cBin addU (cFn biList (cCons (cBin idxU (cVar 0) (cK (.int 4))) cNil)) (cFn mkFl (cCons (cVar 4) cNil))) cNil)))) cNil)) sNx)) sNx) (sSeq (sIf (cIsBl (cBin eqU (cVar 2) (cK (.str "pass")))) (sSeq (sRet (cCallK 4 0 (fun as _ m => call ("state_moved", none) as m) (cCons (cVar 0) (cCons (cK (.str "left")) (cCons (cK (.int 0)) (cCons (cBin idxU (cVar 0) (cK (.int 4))) cNil)))) cNil)) sNx) sNx) (sSeq (sAsg (cCallK 2 0 (fun as _ m => call ("lock_of", none) as m) (cCons (cVar 0) (cCons (cBin idxU (cVar 1) (cK (.int 1))) cNil)) cNil) (gName 3)) (sSeq (sIf (cIsBl (cBin eqU (cVar 2) (cK (.str "drop")))) (sSeq (sRet (cCallK 4 0 (fun as _ m => call ("state_moved", none) as m) (cCons (cVar 0) (cCons (cBin idxU (cVar 3) (cK (.int 1))) (cCons (cBin idxU (cVar 3) (cK (.int 2))) (cCons (cCallK 2 0 (fun as _ m => call ("locks_but", none) as m) (cCons (cVar 0) (cCons (cBin idxU (cVar 1) (cK (.int 1))) cNil)) cNil) cNil)))) cNil)) sNx) sNx) (sSeq (sIf (cIsBl (cBin neU (cCallK 1 0 (fun as _ m => call ("seal_of", none) as m) (cCons (cBin idxU (cVar 1) (cK (.int 2))) cNil) cNil) (cBin idxU (cVar 3) (cK (.int 3))))) (sSeq (sRaise "NoStep") sNx) sNx) (sSeq (sRet (cCallK 4 0 (fun as _ m => call ("state_moved", none) as m) (cCons (cVar 0) (cCons (cCallK 1 0 (fun as _ m => call ("other_side", none) as m) (cCons (cBin idxU (cVar 3) (cK (.int 1))) cNil) cNil) (cCons (cBin idxU (cVar 3) (cK (.int 2))) (cCons (cCallK 2 0 (fun as _ m => call ("locks_but", none) as m) (cCons (cVar 0) (cCons (cBin idxU (cVar 1) (cK (.int 1))) cNil)) cNil) cNil)))) cNil)) sNx))))))))))
def P_need_state (T : Tab) (call : FKey → List U → MH → Out U) : S1 := (sSeq (sIf (cNot (cTruth (cCallK 1 0 (fun as _ m => call ("is_state", none) as m) (cCons (cVar 0) cNil) cNil))) (sSeq (sRaise "NoState") sNx) sNx) sNx)
def P_worth (T : Tab) (call : FKey → List U → MH → Out U) : S1 := (sSeq (sDrop (cCallK 1 0 (fun as _ m => call ("need_state", none) as m) (cCons (cVar 0) cNil) cNil)) (sSeq (sRet (cBin addU (cBin addU (cBin idxU (cVar 0) (cK (.int 2))) (cBin idxU (cVar 0) (cK (.int 3)))) (cFn biSum (cCons (cLc false (cIt (cBin idxU (cVar 0) (cK (.int 4)))) (gName 1) cYes (cBin idxU (cVar 1) (cK (.int 2))) [1]) cNil)))) sNx))
def P_first_state (T : Tab) (call : FKey → List U → MH → Out U) : S1 := (sSeq (sRet (cFn mkTup (cCons (cVar 0) (cCons (cK (.int 0)) (cCons (cVar 1) (cCons (cVar 2) (cCons (cFn mkTup cNil) cNil))))))) sNx)
end Mi
/-! Qd: what the looks at locks, states, steps tell, of any data. -/
namespace Mi
open PySem PySem.Spec PyProof.Rows L2
set_option linter.unusedVariables false
set_option linter.unusedSimpArgs false
set_option maxRecDepth 10000
def geB (k : Int) : U → Bool
  | .int i => decide (k ≤ i)
  | _ => false
def wholeB : U → Bool
  | .int _ => true
  | _ => false
def sideB : U → Bool
  | .str x => decide (x = "left") || decide (x = "right")
  | _ => false
def lockB : U → Bool
  | .tup [a, b, c, d, e] => geB 1 a && (sideB b && (geB 1 c && (geB 0 d && geB 0 e)))
  | _ => false
theorem nB {b : Bool} (h : (!b) = true) : b = false := by cases b <;> first | rfl | cases h
theorem nB' {b : Bool} (h : (!b) = false) : b = true := by cases b <;> first | rfl | cases h
section
variable {T : Tab} {call : CallT} {m : MH} {Q : U → MH → Prop}
def WholeK (call : CallT) : Prop := ∀ m u, rdU u = true → call ("is_whole", none) [u] m = .ok (.bl (wholeB u)) m
def CountK (call : CallT) : Prop := ∀ m u, rdU u = true → call ("is_count", none) [u] m = .ok (.bl (geB 0 u)) m
def AmountK (call : CallT) : Prop := ∀ m u, rdU u = true → call ("is_amount", none) [u] m = .ok (.bl (geB 1 u)) m
def SideK (call : CallT) : Prop := ∀ m u, rdU u = true → call ("is_side", none) [u] m = .ok (.bl (sideB u)) m
def LockK (call : CallT) : Prop := ∀ m u, rdU u = true → call ("is_lock", none) [u] m = .ok (.bl (lockB u)) m
def LWholeK (call : CallT) : Prop := ∀ m u (k : Int), rdU u = true → call ("_law_whole", none) [u, .int k] m = .ok (.bl (geB k u)) m
def LLockK (call : CallT) : Prop := ∀ m u, rdU u = true → call ("_law_is_lock", none) [u] m = .ok (.bl (lockB u)) m
theorem whole_eq {u : U} (h : rdU u = true) : P_is_whole T call [some u] m = .rt (.bl (wholeB u)) m := by
  cases u <;> first | rfl | exact nomatch (show false = true from h)
theorem count_eq (hW : WholeK call) {u : U} (h : rdU u = true) : P_is_count T call [some u] m = .rt (.bl (geB 0 u)) m := by
  refine rt_of ?_
  unfold P_is_count
  simp only [ok_sSeq, ok_sRet, ok_cAndV, ok_cCallK, ok_cCons, ok_cVar0, ok_cNil, hW m u h, okO_ok, okT_bl, ok_cBin, ok_cK]
  cases u <;> first | exact nomatch (show false = true from h) | (simp [wholeB, geB, cmpI, geI]; done)
theorem amount_eq (hW : WholeK call) {u : U} (h : rdU u = true) : P_is_amount T call [some u] m = .rt (.bl (geB 1 u)) m := by
  refine rt_of ?_
  unfold P_is_amount
  simp only [ok_sSeq, ok_sRet, ok_cAndV, ok_cCallK, ok_cCons, ok_cVar0, ok_cNil, hW m u h, okO_ok, okT_bl, ok_cBin, ok_cK]
  cases u <;> first | exact nomatch (show false = true from h) | (simp [wholeB, geB, cmpI, geI]; done)
theorem ok_inLR {x : Str} : okP (inU (.str x) (.tup [.str "left", .str "right"]) m) Q ↔ Q (.bl (sideB (.str x))) m := by
  have e : inB (.str x) (.tup [.str "left", .str "right"]) m = some (sideB (.str x)) := by
    show (if (true && ([U.str "left", U.str "right"].all flatU)) = true then some ([U.str "left", U.str "right"].any fun z => PyData.eqv (toD z) (toD (.str x))) else none) = _
    rw [if_pos (show (true && ([U.str "left", U.str "right"].all flatU)) = true from rfl)]
    have e1 : ∀ a : Str, PyData.eqv (.str a) (.str x) = decide (x = a) := fun a => by
      show (a == x) = _
      rw [Bool.eq_iff_iff, beq_iff_eq, decide_eq_true_eq]
      exact eq_comm
    show some ((PyData.eqv (.str "left") (.str x)) || ((PyData.eqv (.str "right") (.str x)) || false)) = _
    rw [e1, e1, Bool.or_false]
    rfl
  have e2 : inU (.str x) (.tup [.str "left", .str "right"]) m = some (.bl (sideB (.str x)), m) := by
    unfold inU
    rw [e]
    rfl
  rw [e2]
  exact Iff.rfl
theorem side_eq {u : U} (h : rdU u = true) : P_is_side T call [some u] m = .rt (.bl (sideB u)) m := by
  refine rt_of ?_
  unfold P_is_side
  simp only [ok_sSeq, ok_sRet, ok_cAndV, ok_cFn, ok_cCons, ok_cVar0, ok_cNil, ok_cK, ok_isaStr h, okT_bl, ok_cBin, ok_mkTup (us := [U.str "left", U.str "right"]) rfl]
  cases u with
  | str x => simp only [ok_inLR, isStr, true_implies, reduceCtorEq, false_implies, and_true, and_self]
  | _ => simp [isStr, sideB]
theorem len5 {α : Type} {us : List α} (h : us.length = 5) : ∃ a b c d e, us = [a, b, c, d, e] := by
  match us, h with
  | [a, b, c, d, e], _ => exact ⟨a, b, c, d, e, rfl⟩
theorem lockB_len {us : List U} (h : us.length ≠ 5) : lockB (.tup us) = false := by
  match us, h with
  | [], _ => rfl
  | [_], _ => rfl
  | [_, _], _ => rfl
  | [_, _, _], _ => rfl
  | [_, _, _, _], _ => rfl
  | [_, _, _, _, _], h => exact absurd rfl h
  | _ :: _ :: _ :: _ :: _ :: _ :: _, _ => rfl
theorem rd5 {a b c d e : U} (h : rdUs [a, b, c, d, e] = true) : rdU a = true ∧ rdU b = true ∧ rdU c = true ∧ rdU d = true ∧ rdU e = true := by
  have h' : (rdU a && (rdU b && (rdU c && (rdU d && (rdU e && true))))) = true := h
  simp only [Bool.and_eq_true, and_true] at h'
  exact h'
theorem lock_eq (hA : AmountK call) (hS : SideK call) (hC : CountK call) {u : U} (h : rdU u = true) : P_is_lock T call [some u, none, none, none, none, none] m = .rt (.bl (lockB u)) m := by
  refine rt_of ?_
  unfold P_is_lock
  simp only [ok_sSeq, ok_sIf, ok_cOr, ok_cNot, ok_cTruth, ok_cFn, ok_cCons, ok_cVar0, ok_cNil, ok_cK, ok_isaTup h, okT_bl, ok_cIsBl, ok_cBin, ok_sRet, ok_sNx]
  cases u with
  | tup us =>
    by_cases hl : us.length = 5
    · obtain ⟨a, b, c, d, e, rfl⟩ := len5 hl
      obtain ⟨ha, hb, hc, hd, he⟩ := rd5 h
      simp only [isTup, Bool.not_true, ok_lenT, ok_neI, ok_blOf, ok_sAsg, ok_cVar0, ok_gTup, ok_gAllS, ok_gAll0, ok_gName, List.set_cons_succ, List.set_cons_zero, ok_sSeq, ok_sRet, ok_cAndV, ok_cCallK, ok_cCons, ok_cVarS, ok_cNil, hA m _ ha, hS m _ hb, hA m _ hc, hC m _ hd, hC m _ he, okO_ok, okT_bl, lockB]
      simp
      cases geB 1 a <;> cases sideB b <;> cases geB 1 c <;> cases geB 0 d <;> simp
    · rw [lockB_len hl]
      simp only [isTup, Bool.not_true, ok_lenT, ok_neI, ok_blOf]
      have : ¬ ((us.length : Int) = 5) := by omega
      simp [this]
  | _ => simp [isTup, lockB]
theorem lwhole_eq {u : U} {k : Int} (h : rdU u = true) : P_law_whole T call [some u, some (.int k)] m = .rt (.bl (geB k u)) m := by
  cases u <;> first | rfl | exact nomatch (show false = true from h)
theorem llock_eq (hW : LWholeK call) {u : U} (h : rdU u = true) : P_law_is_lock T call [some u] m = .rt (.bl (lockB u)) m := by
  refine rt_of ?_
  unfold P_law_is_lock
  simp only [ok_sSeq, ok_sIf, ok_cOr, ok_cNot, ok_cTruth, ok_cFn, ok_cCons, ok_cVar0, ok_cNil, ok_cK, ok_isaTup h, okT_bl, ok_cIsBl, ok_cBin, ok_sRet, ok_sNx]
  cases u with
  | tup us =>
    by_cases hl : us.length = 5
    · obtain ⟨a, b, c, d, e, rfl⟩ := len5 hl
      obtain ⟨ha, hb, hc, hd, he⟩ := rd5 h
      have i0 : ∀ {Q : U → MH → Prop}, okP (idxU (.tup [a, b, c, d, e]) (.int 0) m) Q ↔ Q a m := ok_idxT rfl
      have i1 : ∀ {Q : U → MH → Prop}, okP (idxU (.tup [a, b, c, d, e]) (.int 1) m) Q ↔ Q b m := ok_idxT rfl
      have i2 : ∀ {Q : U → MH → Prop}, okP (idxU (.tup [a, b, c, d, e]) (.int 2) m) Q ↔ Q c m := ok_idxT rfl
      have i3 : ∀ {Q : U → MH → Prop}, okP (idxU (.tup [a, b, c, d, e]) (.int 3) m) Q ↔ Q d m := ok_idxT rfl
      have i4 : ∀ {Q : U → MH → Prop}, okP (idxU (.tup [a, b, c, d, e]) (.int 4) m) Q ↔ Q e m := ok_idxT rfl
      cases b with
      | str x =>
        simp only [isTup, isStr, Bool.not_true, ok_lenT, ok_neI, ok_neS, ok_blOf, i0, i1, i2, i3, i4, ok_isaStr hb, ok_sSeq, ok_sRet, ok_cAndV, ok_cAnd, ok_cOr, ok_cNot, ok_cTruth, ok_cIsBl, ok_cBin, ok_cCallK, ok_cCons, ok_cVar0, ok_cVarS, ok_cK, ok_cNil, hW m _ _ ha, hW m _ _ hc, hW m _ _ hd, hW m _ _ he, okO_ok, okT_bl, lockB, sideB]
        by_cases h1 : x = "left"
        · subst h1
          cases geB 1 a <;> cases geB 1 c <;> cases geB 0 d <;> simp
        · by_cases h2 : x = "right"
          · subst h2
            cases geB 1 a <;> cases geB 1 c <;> cases geB 0 d <;> simp
          · simp [h1, h2]
      | _ => simp [isTup, isStr, sideB, i1, ok_isaStr hb, lockB, ok_lenT]
    · rw [lockB_len hl]
      simp only [isTup, Bool.not_true, ok_lenT, ok_neI, ok_blOf]
      have : ¬ ((us.length : Int) = 5) := by omega
      simp [this]
  | _ => simp [isTup, lockB]
end
end Mi
/-! Qe: data that is drawn: numbers, locks, odd things, what is spoilt. -/
namespace Mi
open PySem PySem.Spec PyProof.Rows L2
set_option linter.unusedVariables false
set_option linter.unusedSimpArgs false
set_option maxRecDepth 10000
section
variable {T : Tab} {call : CallT} {m : MH} {b g N : Nat}
def Count40C (call : CallT) : Prop := ∀ (m : MH) (b g N : Nat), Bag m b g N → N + 2 < 10 ^ 9 → okO (call ("_law_count", none) [.ref b] m) fun v m' => ∃ i, v = .int i ∧ 0 ≤ i ∧ i < 10 ^ 40 ∧ Bag m' b g (N + 2) ∧ Fr b g m m'
theorem count40_ok (hd : DrawC call) (h : Bag m b g N) (hN : N + 2 < 10 ^ 9) :
    okS (P_law_count40 T call [some (.ref b), none] m) (fun _ _ => False) fun v m' => ∃ i, v = .int i ∧ 0 ≤ i ∧ i < 10 ^ 40 ∧ Bag m' b g (N + 2) ∧ Fr b g m m' := by
  unfold P_law_count40
  have pe : powOk 10 15 = true := rfl
  have pe2 : powOk 10 40 = true := rfl
  simp only [ok_sSeq, ok_sAsg, ok_cCallK, ok_cCons, ok_cVar0, ok_cK, ok_cNil]
  refine ⟨rfl, rfl, okO_mono (hd m b g N 6 h (by omega) (by decide) (by decide)) ?_⟩
  rintro v m1 ⟨i, rfl, i0, i5, h1, f1⟩
  simp only [ok_gName, List.set_cons_succ, List.set_cons_zero, ok_sIf, ok_cIsBl, ok_cBin, ok_cVar0, ok_cVarS, ok_cK, ok_cmpI, ok_blOf, ok_sSeq, ok_sNx, ok_sRet, ok_cCallK, ok_cCons, ok_cNil, ok_cFn, ok_mkFl (us := [U.int 7, U.int 2000]) rfl, ok_eqI, ok_pow pe, ok_pow pe2, ok_sub]
  have go : ∀ k : Int, 0 < k → k ≤ 10 ^ 40 → okO (call ("_law_draw", none) [.ref b, .int k] m1) fun v m' => ∃ i, v = .int i ∧ 0 ≤ i ∧ i < 10 ^ 40 ∧ Bag m' b g (N + 2) ∧ Fr b g m m' := fun k k0 k1 => by
    refine okO_mono (hd m1 b g (N + 1) k h1 (by omega) k0 (by omega)) ?_
    rintro v m2 ⟨j, rfl, j0, j1, h2, f2⟩
    exact ⟨j, rfl, j0, by omega, h2, f1.trans f2⟩
  refine ⟨fun hi => ?_, fun hi => ⟨fun h2 => ?_, fun h2 => ?_⟩⟩
  · have hi2 : i < 2 := of_decide_eq_true hi
    have : i = 0 ∨ i = 1 := by omega
    rcases this with rfl | rfl
    · rw [ok_idxF (u := .int 7) rfl]
      exact ⟨rfl, rfl, go 7 (by decide) (by decide)⟩
    · rw [ok_idxF (u := .int 2000) rfl]
      exact ⟨rfl, rfl, go 2000 (by decide) (by decide)⟩
  · refine ⟨rfl, rfl, okO_mono (hd m1 b g (N + 1) 3 h1 (by omega) (by decide) (by decide)) ?_⟩
    rintro v m2 ⟨j, rfl, j0, j1, h3, f2⟩
    simp only [ok_sub]
    have e15 : (10 : Int) ^ (Int.toNat 15) = 1000000000000000 := rfl
    exact ⟨_, rfl, by omega, by omega, h3, f1.trans f2⟩
  · have hi2 : ¬ i < 2 := of_decide_eq_false hi
    have hi3 : ¬ i = 2 := of_decide_eq_false h2
    have : i = 3 ∨ i = 4 ∨ i = 5 := by omega
    rw [ok_mkFl rfl]
    rcases this with rfl | rfl | rfl
    · rw [ok_idxF (u := .int 40) rfl]
      exact ⟨rfl, rfl, go 40 (by decide) (by decide)⟩
    · rw [ok_idxF (u := .int (10 ^ (Int.toNat 15))) rfl]
      exact ⟨rfl, rfl, go _ (by decide) (by decide)⟩
    · rw [ok_idxF (u := .int (10 ^ (Int.toNat 40))) rfl]
      exact ⟨rfl, rfl, go _ (by decide) (by decide)⟩
/-- numbers from 0 on below M, drawn with two draws -/
def CountM (M : Int) (call : CallT) : Prop := ∀ (m : MH) (b g N : Nat), Bag m b g N → N + 2 < 10 ^ 9 → okO (call ("_law_count", none) [.ref b] m) fun v m' => ∃ i, v = .int i ∧ 0 ≤ i ∧ i < M ∧ Bag m' b g (N + 2) ∧ Fr b g m m'
/-- a lock of numbers below M -/
def lockOf (M k : Int) (u : U) : Prop := ∃ (z : Str) (a s l : Int), u = .tup [.int k, .str z, .int a, .int s, .int l] ∧ (z = "left" ∨ z = "right") ∧ 1 ≤ a ∧ a < M ∧ 0 ≤ s ∧ s < M ∧ 0 ≤ l ∧ l < M
theorem lock_ok {M : Int} (hM : 1 < M) (hd : DrawC call) (hc : CountM M call) {k : Int} (h : Bag m b g N) (hN : N + 10 < 10 ^ 9) :
    okS (P_law_lock T call [some (.ref b), some (.int k)] m) (fun _ _ => False) fun v m' => lockOf M k v ∧ Bag m' b g (N + 7) ∧ Fr b g m m' := by
  unfold P_law_lock
  simp only [ok_sSeq, ok_sRet, ok_cFn, ok_cCons, ok_cVar0, ok_cVarS, ok_cK, ok_cNil, ok_cBin, ok_cCallK, ok_mkFl (us := [U.str "left", U.str "right"]) rfl]
  refine ⟨rfl, rfl, okO_mono (hd m b g N 2 h (by omega) (by decide) (by decide)) ?_⟩
  rintro v m1 ⟨i, rfl, i0, i1, h1, f1⟩
  refine ok_ixAny i0 (by simpa using i1) fun z0 hz0 => ?_
  obtain ⟨z, rfl, hz⟩ : ∃ y : Str, z0 = .str y ∧ (y = "left" ∨ y = "right") := by
    rcases List.mem_cons.mp hz0 with rfl | hz0
    · exact ⟨_, rfl, .inl rfl⟩
    · rw [List.mem_singleton.mp hz0]; exact ⟨_, rfl, .inr rfl⟩
  refine ⟨rfl, rfl, okO_mono (hc m1 b g (N + 1) h1 (by omega)) ?_⟩
  rintro v m2 ⟨i2, rfl, a0, a1, h2, f2⟩
  rw [ok_biMax]
  refine ⟨rfl, rfl, okO_mono (hc m2 b g (N + 3) h2 (by omega)) ?_⟩
  rintro v m3 ⟨i3, rfl, b0, b1, h3, f3⟩
  refine ⟨rfl, rfl, okO_mono (hc m3 b g (N + 5) h3 (by omega)) ?_⟩
  rintro v m4 ⟨i4, rfl, c0, c1, h4, f4⟩
  rw [ok_mkTup rfl]
  refine ⟨⟨z, _, _, _, rfl, hz, ?_, ?_, b0, b1, c0, c1⟩, h4, ((f1.trans f2).trans f3).trans f4⟩
  · split <;> omega
  · split <;> omega
def oddL : List U := [.non, .bl true, .bl false, .int 0, .int 1, .int (-1), .int 7, .str "", .str "a", .str "left", .str "right", .str "up", .str "pay", .str "pass", .str "Left", .tup [], .fl [], .fd [] [], .fd [.inr "a"] [.int 1],
  .tup [.int 1, .str "left", .int 1, .int 0, .int 0], .tup [.int 2, .str "right", .int 5, .int 3, .int 9], .tup [.str "left"], .fl [.int 1], .int (-100000000000000), .tup [.tup []], .str "left "]
theorem odd_all : ∀ u ∈ oddL, gdU (10 ^ 14) u = true ∧ wtU u ≤ 8000 ∧ dpU u ≤ 2 := by
  have h : (oddL.all fun u => gdU (10 ^ 14) u && (decide (wtU u ≤ 8000) && decide (dpU u ≤ 2))) = true := by kernel_rfl
  intro u hu
  have := List.all_eq_true.mp h u hu
  simp only [Bool.and_eq_true, decide_eq_true_eq] at this
  exact this
def OddC (call : CallT) : Prop := ∀ (m : MH) (b g N : Nat), Bag m b g N → N + 1 < 10 ^ 9 → okO (call ("_law_odd", none) [.ref b] m) fun v m' => v ∈ oddL ∧ Bag m' b g (N + 1) ∧ Fr b g m m'
theorem odd_ok (hd : DrawC call) (h : Bag m b g N) (hN : N + 1 < 10 ^ 9) : okS (P_law_odd T call [some (.ref b), none] m) (fun _ _ => False) fun v m' => v ∈ oddL ∧ Bag m' b g (N + 1) ∧ Fr b g m m' := by
  have e : P_law_odd T call [some (.ref b), none] m = (sSeq (sRet (cBin idxU (cVar 1) (cCallK 2 0 (fun as _ m => call ("_law_draw", none) as m) (cCons (cVar 0) (cCons (cK (.int 26)) cNil)) cNil))) sNx) [some (.ref b), some (.fl oddL)] m := by kernel_rfl
  rw [e]
  simp only [ok_sSeq, ok_sRet, ok_cBin, ok_cVar0, ok_cVarS, ok_cK, ok_cCallK, ok_cCons, ok_cNil]
  refine ⟨rfl, rfl, okO_mono (hd m b g N 26 h (by omega) (by decide) (by decide)) ?_⟩
  rintro v m1 ⟨i, rfl, i0, i1, h1, f1⟩
  exact ok_ixAny i0 (by show i < ((26 : Nat) : Int); omega) fun u hu => ⟨hu, h1, f1⟩
/-- what comes of spoiling once -/
structure SpR (B : Nat) (u v : U) : Prop where
  gd : gdU (B + 1) v = true
  wt : wtU v ≤ 3 * wtU u + 8100
  dp : dpU v ≤ dpU u + 4
theorem SpR.odd {B : Nat} {u v : U} (hB : 10 ^ 14 ≤ B) (hv : v ∈ oddL) : SpR B u v := by
  obtain ⟨h1, h2, h3⟩ := odd_all v hv
  exact ⟨gd_mono (by omega) h1, by omega, by omega⟩
theorem SpR.tup {B : Nat} {us ws : List U} (hm : ∀ w ∈ ws, gdU (B + 1) w = true) (hw : wtUs ws ≤ 3 * wtUs us + 8112) (hd : ∀ w ∈ ws, dpU w ≤ dpUs us + 4) : SpR B (.tup us) (.tup ws) :=
  ⟨gdUs_iff.mpr hm, by show wtUs ws + 6 ≤ 3 * (wtUs us + 6) + 8100; omega, by
    have := dpUs_le.mpr hd
    show dpUs ws + 1 ≤ dpUs us + 1 + 4
    omega⟩
theorem asc_app {x y : Str} (hx : ascB x = true) (hy : ascB y = true) : ascB (x ++ y) = true :=
  asc_mem.mpr fun k hk => Sg.app (p := (· < 128)) (asc_mem.mp hx) (asc_mem.mp hy) k hk
theorem asc_cut {x : Str} (hx : ascB x = true) (lo hi : Option Int) : ascB (cutS x lo hi) = true :=
  asc_mem.mpr fun k hk => Sg.cut (p := (· < 128)) (asc_mem.mp hx) lo hi k hk
theorem up_asc : ∀ c, c < 128 → ∀ k ∈ Unicode.upperOf c, k < 128 := by
  have h : ∀ c ∈ List.range 128, ∀ k ∈ Unicode.upperOf c, k < 128 := by decide +kernel
  exact fun c hc => h c (List.mem_range.mpr hc)
theorem asc_up {x : Str} (hx : ascB x = true) : ascB (Txt.upper x) = true :=
  asc_mem.mpr fun k hk => Sg.upper (p := (· < 128)) (q := (· < 128)) (asc_mem.mp hx) up_asc k hk
def SpoiltEndC (call : CallT) : Prop := ∀ (m : MH) (b g N B : Nat) (u : U), Bag m b g N → N + 10 < 10 ^ 9 → gdU B u = true → 10 ^ 14 ≤ B → wtU u ≤ 4000000 → okO (call ("_law_spoilt_end", none) [.ref b, u] m) fun v m' => SpR B u v ∧ Bag m' b g (N + 3) ∧ Fr b g m m'
theorem gds_cut {B : Nat} {us : List U} (h : ∀ u ∈ us, gdU B u = true) (lo hi : Option Int) : ∀ w ∈ cutU us lo hi, gdU (B + 1) w = true := fun w hw => gd_mono (Nat.le_succ _) (h w (cut_mem hw))
theorem cut_len (us : List U) (lo hi : Option Int) : (cutU us lo hi).length ≤ us.length := by
  unfold cutU
  rw [List.length_take, List.length_drop]
  omega
theorem line_of {n : Nat} (h : n ≤ 16777216) : lineOk n = true := decide_eq_true h
theorem spoilt_end_ok (hd : DrawC call) (ho : OddC call) {B : Nat} {u : U} (h : Bag m b g N) (hN : N + 10 < 10 ^ 9) (gu : gdU B u = true) (hB : 10 ^ 14 ≤ B) (wu : wtU u ≤ 4000000) :
    okS (P_law_spoilt_end T call [some (.ref b), some u, none, none] m) (fun _ _ => False) fun v m' => SpR B u v ∧ Bag m' b g (N + 3) ∧ Fr b g m m' := by
  have ru := gd_rd gu
  unfold P_law_spoilt_end
  simp only [ok_sSeq, ok_sAsg, ok_cCallK, ok_cCons, ok_cVar0, ok_cK, ok_cNil]
  refine ⟨rfl, rfl, okO_mono (hd m b g N 6 h (by omega) (by decide) (by decide)) ?_⟩
  rintro v m1 ⟨i, rfl, i0, i6, h1, f1⟩
  -- the last way: an odd thing
  have last : ∀ {x3 : Option U} {m2 : MH}, Bag m2 b g (N + 2) → Fr b g m m2 → okS (sSeq (sRet (cCallK 1 0 (fun as _ m => call ("_law_odd", none) as m) (cCons (cVar 0) cNil) cNil)) sNx [some (.ref b), some u, some (.int i), x3] m2) (fun _ _ => False) fun v m' => SpR B u v ∧ Bag m' b g (N + 3) ∧ Fr b g m m' := by
    intro x3 m2 h2 f2
    simp only [ok_sSeq, ok_sRet, ok_cCallK, ok_cCons, ok_cVar0, ok_cNil]
    refine ⟨rfl, rfl, okO_mono (ho m2 b g (N + 2) h2 (by omega)) ?_⟩
    rintro v m3 ⟨hv, h3, f3⟩
    exact ⟨SpR.odd hB hv, h3, f2.trans f3⟩
  simp only [ok_gName, List.set_cons_succ, List.set_cons_zero, ok_cIf, ok_cTruth, ok_cFn, ok_cCons, ok_cVar0, ok_cVarS, ok_cK, ok_cNil, ok_isaTup ru, okT_bl]
  cases u with
  | tup us =>
    have gs := gdUs_iff.mp (show gdUs B us = true from gu)
    have ds := dpUs_le.mp (Nat.le_refl (dpUs us))
    have w0 : wtUs us + 6 ≤ 4000000 := wu
    have l0 := wtUs_len us
    have up : ∀ {lo hi lo2 hi2 : Option Int}, lineOk ((cutU us lo hi).length + (cutU us lo2 hi2).length) = true := fun {lo hi lo2 hi2} => line_of (by
      have := cut_len us lo hi
      have := cut_len us lo2 hi2
      omega)
    refine ⟨fun _ => ?_, fun z => nomatch z⟩
    simp only [ok_cBin, ok_cFn, ok_cCons, ok_cNil, ok_cVarS, ok_cVar0, ok_lenT, ok_cK, ok_add, ok_cCallK]
    refine ⟨rfl, rfl, okO_mono (hd m1 b g (N + 1) _ h1 (by omega) (by omega) (by omega)) ?_⟩
    rintro v m2 ⟨at_, rfl, a0, a1, h2, f2⟩
    have f12 := f1.trans f2
    simp only [ok_gName, List.set_cons_succ, List.set_cons_zero, ok_sIf, ok_cAnd, ok_cTruth, ok_cFn, ok_cCons, ok_cVar0, ok_cVarS, ok_cK, ok_cNil, ok_isaTup ru, okT_bl, ok_cIsBl, ok_cBin, ok_cmpI, ok_blOf, isTup]
    refine ⟨fun _ => ⟨fun hi5 => ?_, fun hi5 => ?_⟩, fun z => nomatch z⟩
    · have cw := fun lo hi => wtUs_cut us lo hi
      have cm := fun lo hi => gds_cut gs lo hi
      have cd : ∀ lo hi, ∀ w ∈ cutU us lo hi, dpU w ≤ dpUs us + 4 := fun lo hi w hw => by have := ds w (cut_mem hw); omega
      have two : ∀ {ws1 ws2 : List U}, (∀ w ∈ ws1, gdU (B + 1) w = true) → (∀ w ∈ ws2, gdU (B + 1) w = true) → ∀ w ∈ ws1 ++ ws2, gdU (B + 1) w = true := fun p q w hw => (List.mem_append.mp hw).elim (p w) (q w)
      have twd : ∀ {ws1 ws2 : List U}, (∀ w ∈ ws1, dpU w ≤ dpUs us + 4) → (∀ w ∈ ws2, dpU w ≤ dpUs us + 4) → ∀ w ∈ ws1 ++ ws2, dpU w ≤ dpUs us + 4 := fun p q w hw => (List.mem_append.mp hw).elim (p w) (q w)
      simp only [ok_sSeq, ok_sIf, ok_cIsBl, ok_cBin, ok_cVar0, ok_cVarS, ok_cK, ok_eqI, ok_blOf, ok_sRet, ok_sNx, ok_cSlice, ok_cPart_none, ok_cPart_some, okI_int, ok_slcT, ok_add, ok_addT up, ok_cFn, ok_cCons, ok_cNil, ok_cCallK, ok_cUn, ok_cIf, ok_revT (line_of (Nat.le_trans (cut_len us _ _) (by omega)))]
      refine ⟨fun _ => ⟨SpR.tup (two (cm _ _) (cm _ _)) (by rw [wtUs_app]; have := cw none (some at_); have := cw (some (at_ + 1)) none; omega) (twd (cd _ _) (cd _ _)), h2.up (by omega), f12⟩, fun _ => ⟨fun _ => ?_, fun _ => ⟨fun _ => ?_, fun _ => ⟨fun _ => ?_, fun _ => ?_⟩⟩⟩⟩
      · refine ⟨rfl, rfl, okO_mono (ho m2 b g (N + 2) h2 (by omega)) ?_⟩
        rintro v m3 ⟨hv, h3, f3⟩
        obtain ⟨o1, o2, o3⟩ := odd_all v hv
        have c1 := cut_len us none (some at_)
        have c2 := cut_len us (some at_) none
        rw [ok_mkTup rfl]
        simp only [ok_addT (line_of (show (cutU us none (some at_)).length + [v].length ≤ 16777216 by simp; omega)), ok_slcT]
        rw [ok_addT (line_of (by rw [List.length_append]; simp; omega))]
        refine ⟨SpR.tup (two (two (cm _ _) fun w hw => ?_) (cm _ _)) ?_ (twd (twd (cd _ _) fun w hw => ?_) (cd _ _)), h3, f12.trans f3⟩
        · rw [List.mem_singleton.mp hw]; exact gd_mono (by omega) o1
        · rw [wtUs_app, wtUs_app]
          have := cw none (some at_)
          have := cw (some at_) none
          show wtUs _ + (wtU v + 2 + 0) + wtUs _ ≤ _
          omega
        · rw [List.mem_singleton.mp hw]; omega
      · have c1 := cut_len us none (some at_)
        have c2 := cut_len us (some at_) (some (at_ + 2))
        have c3 := cut_len us (some (at_ + 2)) none
        rw [ok_addT (line_of (by rw [List.length_reverse]; omega)), ok_addT (line_of (by rw [List.length_append, List.length_reverse]; omega))]
        refine ⟨SpR.tup (two (two (cm _ _) fun w hw => ?_) (cm _ _)) ?_ (twd (twd (cd _ _) fun w hw => ?_) (cd _ _)), h2.up (by omega), f12⟩
        · exact cm _ _ w (List.mem_reverse.mp hw)
        · rw [wtUs_app, wtUs_app, wtUs_rev]
          have := cw none (some at_)
          have := cw (some at_) (some (at_ + 2))
          have := cw (some (at_ + 2)) none
          omega
        · exact cd _ _ w (List.mem_reverse.mp hw)
      · rw [ok_biLiT (line_of (by omega))]
        refine ⟨⟨gds_mono (Nat.le_succ _) gu, ?_, ?_⟩, h2.up (by omega), f12⟩
        · show wtUs us + 6 ≤ 3 * (wtUs us + 6) + 8100
          omega
        · show dpUs us + 1 ≤ dpUs us + 1 + 4
          omega
      · have c1 := cut_len us none (some at_)
        have c2 := cut_len us (some at_) (some (at_ + 1))
        have c3 := cut_len us (some at_) none
        rw [ok_addT (line_of (by rw [List.length_append]; omega))]
        refine ⟨SpR.tup (two (two (cm _ _) (cm _ _)) (cm _ _)) ?_ (twd (twd (cd _ _) (cd _ _)) (cd _ _)), h2.up (by omega), f12⟩
        rw [wtUs_app, wtUs_app]
        have := cw none (some at_)
        have := cw (some at_) (some (at_ + 1))
        have := cw (some at_) none
        omega
    · simp only [ok_sNx, ok_sSeq, ok_sIf, ok_cAnd, ok_cTruth, ok_cFn, ok_cCons, ok_cVar0, ok_cVarS, ok_cK, ok_cNil, ok_isaInt ru, ok_isaStr ru, okT_bl, isIntB, isStr, reduceCtorEq, false_implies, true_implies, true_and]
      have q := last (x3 := some (.int at_)) h2 f12
      simp only [ok_sSeq] at q
      exact q
  | int k =>
    refine ⟨fun z => (nomatch z), fun _ => ?_⟩
    have q := last (x3 := some (.int 0)) (h1.up (by omega)) f1
    have hk : k.natAbs ≤ B := of_decide_eq_true gu
    simp only [ok_gName, List.set_cons_succ, List.set_cons_zero, ok_sSeq, ok_sIf, ok_cAnd, ok_cTruth, ok_cFn, ok_cCons, ok_cVar0, ok_cVarS, ok_cK, ok_cNil, ok_isaTup ru, ok_isaInt ru, ok_isaStr ru, okT_bl, isTup, isIntB, isStr, ok_cIsBl, ok_cBin, ok_cmpI, ok_blOf, ok_sNx, reduceCtorEq, false_implies, true_implies, true_and, and_true] at q ⊢
    refine ⟨fun hi => ?_, fun _ => q⟩
    have hi : i < 4 := of_decide_eq_true hi
    simp only [ok_sRet, ok_cBin, ok_cUn, ok_cFn, ok_cCons, ok_cNil, ok_cVar0, ok_cVarS, ok_cK, ok_add, ok_sub, ok_neg, ok_pow (show powOk 10 15 = true from rfl), ok_biMin, ok_cmpG]
    rw [ok_mkFl rfl]
    refine ok_ixAny i0 (by show i < ((4 : Nat) : Int); omega) fun w hw => ?_
    have e15 : (10 : Int) ^ (Int.toNat 15) = 1000000000000000 := rfl
    refine ⟨?_, h1.up (by omega), f1⟩
    have iok : ∀ j : Int, j.natAbs ≤ B + 1 → SpR B (.int k) (.int j) := fun j hj => ⟨decide_eq_true hj, by show 1921 ≤ 3 * 1921 + 8100; omega, Nat.zero_le _⟩
    simp only [List.mem_cons, List.not_mem_nil, or_false] at hw
    rcases hw with rfl | rfl | rfl | rfl
    · exact iok _ (by split <;> omega)
    · exact iok _ (by omega)
    · exact iok _ (by omega)
    · exact ⟨rfl, by show 5 ≤ 3 * 1921 + 8100; omega, Nat.zero_le _⟩
  | bl k =>
    refine ⟨fun z => (nomatch z), fun _ => ?_⟩
    have q := last (x3 := some (.int 0)) (h1.up (by omega)) f1
    simp only [ok_gName, List.set_cons_succ, List.set_cons_zero, ok_sSeq, ok_sIf, ok_cAnd, ok_cTruth, ok_cFn, ok_cCons, ok_cVar0, ok_cVarS, ok_cK, ok_cNil, ok_isaTup ru, ok_isaInt ru, ok_isaStr ru, okT_bl, isTup, isIntB, isStr, ok_cIsBl, ok_cBin, ok_cmpI, ok_blOf, ok_sNx, reduceCtorEq, false_implies, true_implies, true_and, and_true] at q ⊢
    refine ⟨fun hi => ?_, fun _ => q⟩
    have hi : i < 4 := of_decide_eq_true hi
    simp only [ok_sRet, ok_cBin, ok_cUn, ok_cFn, ok_cCons, ok_cNil, ok_cVar0, ok_cVarS, ok_cK, ok_addBI, ok_sub, ok_subBI, ok_subIB, ok_neg, ok_pow (show powOk 10 15 = true from rfl), ok_biMin, ok_cmpGB]
    rw [ok_mkFl rfl]
    refine ok_ixAny i0 (by show i < ((4 : Nat) : Int); omega) fun w hw => ?_
    refine ⟨?_, h1.up (by omega), f1⟩
    have bk : bI k = 0 ∨ bI k = 1 := by cases k; exact .inl rfl; exact .inr rfl
    have e15 : (10 : Int) ^ (Int.toNat 15) = 1000000000000000 := rfl
    have iok : ∀ j : Int, j.natAbs ≤ B + 1 → SpR B (.bl k) (.int j) := fun j hj => ⟨decide_eq_true hj, by show 1921 ≤ 3 * 5 + 8100; omega, Nat.zero_le _⟩
    simp only [List.mem_cons, List.not_mem_nil, or_false] at hw
    rcases hw with rfl | rfl | rfl | rfl
    · exact iok _ (by split <;> omega)
    · exact iok _ (by omega)
    · exact iok _ (by omega)
    · exact ⟨rfl, by show 5 ≤ 3 * 5 + 8100; omega, Nat.zero_le _⟩
  | str x =>
    refine ⟨fun z => (nomatch z), fun _ => ?_⟩
    have q := last (x3 := some (.int 0)) (h1.up (by omega)) f1
    have hx : ascB x = true := gu
    have lx : 10 * x.length + 2 ≤ 4000000 := wu
    simp only [ok_gName, List.set_cons_succ, List.set_cons_zero, ok_sSeq, ok_sIf, ok_cAnd, ok_cTruth, ok_cFn, ok_cCons, ok_cVar0, ok_cVarS, ok_cK, ok_cNil, ok_isaTup ru, ok_isaInt ru, ok_isaStr ru, okT_bl, isTup, isIntB, isStr, ok_cIsBl, ok_cBin, ok_cmpI, ok_blOf, ok_sNx, reduceCtorEq, false_implies, true_implies, true_and, and_true] at q ⊢
    refine ⟨fun hi => ?_, fun _ => q⟩
    have hi : i < 3 := of_decide_eq_true hi
    have la : (Str.ofString "a").length = 1 := by decide
    simp only [ok_sRet, ok_cBin, ok_cFn, ok_cCons, ok_cNil, ok_cVar0, ok_cVarS, ok_cK, ok_addS (x := x) (y := "a") (line_of (by rw [la]; omega)), ok_cSlice, ok_cPart_some, ok_cPart_none, okI_int, ok_slcS (x := x) (line_of (by omega))]
    refine ok_meth (kind := "str") (phi := meUpper) (by kernel_rfl) ?_
    simp only [ok_cVarS, ok_cVar0, ok_cNil]
    refine ⟨rfl, rfl, ?_⟩
    have eu : meUpper (.str x) [] m1 = some (.str (Txt.upper x), m1) := if_pos (decide_eq_true (by omega))
    rw [eu, okP_some, ok_mkFl rfl]
    refine ok_ixAny i0 (by show i < ((3 : Nat) : Int); omega) fun w hw => ?_
    refine ⟨?_, h1.up (by omega), f1⟩
    have sok : ∀ y : Str, ascB y = true → y.length ≤ 3 * x.length + 100 → SpR B (.str x) (.str y) := fun y hy hl => ⟨hy, by show 10 * y.length + 2 ≤ 3 * (10 * x.length + 2) + 8100; omega, Nat.zero_le _⟩
    simp only [List.mem_cons, List.not_mem_nil, or_false] at hw
    rcases hw with rfl | rfl | rfl
    · exact sok _ (asc_app hx (by kernel_rfl)) (by rw [len_app, la]; omega)
    · exact sok _ (asc_cut hx _ _) (by have := len_cut x (some 1) none; omega)
    · exact sok _ (asc_up hx) (by have := Mi.len_upper x; omega)
  | _ =>
    refine ⟨fun z => (nomatch z), fun _ => ?_⟩
    have q := last (x3 := some (.int 0)) (h1.up (by omega)) f1
    simp only [ok_gName, List.set_cons_succ, List.set_cons_zero, ok_sSeq, ok_sIf, ok_cAnd, ok_cTruth, ok_cFn, ok_cCons, ok_cVar0, ok_cVarS, ok_cK, ok_cNil, ok_isaTup ru, ok_isaInt ru, ok_isaStr ru, okT_bl, isTup, isIntB, isStr, ok_cIsBl, ok_cBin, ok_cmpI, ok_blOf, ok_sNx, reduceCtorEq, false_implies, true_implies, true_and, and_true] at q ⊢
    exact q
/-- deep: how far down it may go -/
def SpoiltC (deep : Nat) (call : CallT) : Prop := ∀ (m : MH) (b g N B : Nat) (u : U), Bag m b g N → N + 40 + 10 * deep < 10 ^ 9 → gdU B u = true → 10 ^ 14 ≤ B → wtU u ≤ 4000000 → okO (call ("_law_spoilt", none) [.ref b, u, .int (deep : Nat)] m) fun v m' => SpR B u v ∧ Bag m' b g (N + 2 * deep + 4) ∧ Fr b g m m'
theorem cut_split (us : List U) {k : Nat} {u : U} (h : us[k]? = some u) : cutU us none (some (k : Int)) = us.take k ∧ cutU us (some ((k : Int) + 1)) none = us.drop (k + 1) := by
  have hk := (List.getElem?_eq_some_iff.mp h).1
  have e1 : HT.sIx us.length us.length (some (k : Int)) = k := by rw [HT.sIx_nat]; omega
  have e2 : HT.sIx us.length 0 (some ((k : Int) + 1)) = k + 1 := by
    have : ((k : Int) + 1) = ((k + 1 : Nat) : Int) := by omega
    rw [this, HT.sIx_nat]; omega
  constructor
  · unfold cutU
    rw [e1, HT.sIx_none, List.drop_zero, Nat.sub_zero]
  · unfold cutU
    rw [e2, HT.sIx_none]
    exact List.take_of_length_le (by rw [List.length_drop]; omega)
theorem wt_split (us : List U) {k : Nat} {u : U} (h : us[k]? = some u) : wtUs us = wtUs (us.take k) + (wtU u + 2) + wtUs (us.drop (k + 1)) := by
  obtain ⟨hk, rfl⟩ := List.getElem?_eq_some_iff.mp h
  have e : us = us.take k ++ us[k] :: us.drop (k + 1) := by
    rw [List.getElem_cons_drop, List.take_append_drop]
  have := congrArg wtUs e
  rw [wtUs_app] at this
  have e3 : wtUs (us[k] :: us.drop (k + 1)) = wtU us[k] + 2 + wtUs (us.drop (k + 1)) := rfl
  omega
theorem spoilt_ok (hd : DrawC call) (he : SpoiltEndC call) {deep : Nat} (hs : ∀ d, deep = d + 1 → SpoiltC d call) (hdeep : deep ≤ 10) {B : Nat} {u : U} (h : Bag m b g N) (hN : N + 40 + 10 * deep < 10 ^ 9) (gu : gdU B u = true) (hB : 10 ^ 14 ≤ B) (wu : wtU u ≤ 4000000) :
    okS (P_law_spoilt T call [some (.ref b), some u, some (.int (deep : Nat)), none] m) (fun _ _ => False) fun v m' => SpR B u v ∧ Bag m' b g (N + 2 * deep + 4) ∧ Fr b g m m' := by
  have ru := gd_rd gu
  unfold P_law_spoilt
  have last : ∀ {m2 : MH} {k : Nat}, k ≤ 1 → Bag m2 b g (N + k) → Fr b g m m2 → okS (sSeq (sRet (cCallK 2 0 (fun as _ m => call ("_law_spoilt_end", none) as m) (cCons (cVar 0) (cCons (cVar 1) cNil)) cNil)) sNx [some (.ref b), some u, some (.int (deep : Nat)), none] m2) (fun _ _ => False) fun v m' => SpR B u v ∧ Bag m' b g (N + 2 * deep + 4) ∧ Fr b g m m' := by
    intro m2 k hk h2 f2
    simp only [ok_sSeq, ok_sRet, ok_cCallK, ok_cCons, ok_cVar0, ok_cVarS, ok_cNil]
    refine ⟨rfl, rfl, okO_mono (he m2 b g (N + k) B u h2 (by omega) gu hB wu) ?_⟩
    rintro v m3 ⟨hv, h3, f3⟩
    exact ⟨hv, h3.up (by omega), f2.trans f3⟩
  have l0 := last (m2 := m) (k := 0) (by omega) h (Fr.refl _ _ _)
  simp only [ok_sSeq] at l0
  simp only [ok_sSeq, ok_sIf, ok_cAnd, ok_cTruth, ok_cFn, ok_cCons, ok_cVar0, ok_cVarS, ok_cK, ok_cNil, ok_isaTup ru, okT_bl, ok_cIsBl, ok_cBin]
  cases u with
  | tup us =>
    have gs := gdUs_iff.mp (show gdUs B us = true from gu)
    have ds := dpUs_le.mp (Nat.le_refl (dpUs us))
    have w0 : wtUs us + 6 ≤ 4000000 := wu
    have ln := wtUs_len us
    simp only [isTup, ok_lenT, ok_cmpG, ok_blOf, reduceCtorEq, false_implies, true_implies, and_true, true_and]
    refine ⟨fun h1 => ?_, fun _ => l0⟩
    have h1 : (0 : Int) < us.length := of_decide_eq_true h1
    refine ⟨fun h2 => ?_, fun _ => l0⟩
    have h2 : (0 : Int) < (deep : Nat) := of_decide_eq_true h2
    obtain ⟨d, rfl⟩ : ∃ d, deep = d + 1 := ⟨deep - 1, by omega⟩
    simp only [ok_cCallK, ok_cCons, ok_cVar0, ok_cK, ok_cNil]
    refine ⟨rfl, rfl, okO_mono (hd m b g N 4 h (by omega) (by decide) (by decide)) ?_⟩
    rintro v m1 ⟨i, rfl, i0, i4, hb1, f1⟩
    have l1 := last (m2 := m1) (k := 1) (by omega) hb1 f1
    simp only [ok_sSeq] at l1
    simp only [ok_cmpG, ok_blOf]
    refine ⟨fun _ => ?_, fun _ => l1⟩
    simp only [ok_sAsg, ok_cCallK, ok_cCons, ok_cVar0, ok_cVarS, ok_cNil, ok_cFn, ok_lenT]
    refine ⟨rfl, rfl, okO_mono (hd m1 b g (N + 1) _ hb1 (by omega) h1 (by omega)) ?_⟩
    rintro v m2 ⟨at_, rfl, a0, a1, hb2, f2⟩
    obtain ⟨k, rfl⟩ : ∃ k : Nat, at_ = (k : Int) := ⟨at_.toNat, by omega⟩
    have hk : k < us.length := by omega
    have hg : us[k]? = some us[k] := List.getElem?_eq_getElem hk
    have hmem := List.getElem_mem hk
    obtain ⟨e1, e2⟩ := cut_split us hg
    have ws := wt_split us hg
    simp only [ok_gName, List.set_cons_succ, List.set_cons_zero, ok_sRet, ok_cBin, ok_cSlice, ok_cPart_none, ok_cPart_some, okI_int, ok_cVar0, ok_cVarS, ok_slcT, ok_cFn, ok_cCons, ok_cNil, ok_cCallK, ok_ixT hg, ok_cK, ok_sub, ok_add, e1]
    have ed : (((d + 1 : Nat) : Int) - 1) = (d : Nat) := by omega
    rw [ed]
    refine ⟨rfl, rfl, okO_mono (hs d rfl m2 b g (N + 2) B us[k] hb2 (by omega) (gs _ hmem) hB (by omega)) ?_⟩
    rintro v m3 ⟨hv, hb3, f3⟩
    have t1 : (us.take k).length ≤ us.length := by rw [List.length_take]; omega
    have t2 : (us.drop (k + 1)).length ≤ us.length := by rw [List.length_drop]; omega
    rw [ok_mkTup rfl, ok_addT (line_of (show (us.take k).length + 1 ≤ 16777216 by omega)), e2, ok_addT (line_of (by rw [List.length_append]; show (us.take k).length + 1 + (us.drop (k + 1)).length ≤ 16777216; omega))]
    refine ⟨SpR.tup (fun w hw => ?_) ?_ (fun w hw => ?_), hb3.up (by omega), (f1.trans f2).trans f3⟩
    · rcases List.mem_append.mp hw with hw | hw
      · rcases List.mem_append.mp hw with hw | hw
        · exact gd_mono (Nat.le_succ _) (gs w (List.mem_of_mem_take hw))
        · rw [List.mem_singleton.mp hw]; exact hv.gd
      · exact gd_mono (Nat.le_succ _) (gs w (List.mem_of_mem_drop hw))
    · rw [wtUs_app, wtUs_app]
      have := hv.wt
      show wtUs _ + (wtU v + 2 + 0) + wtUs _ ≤ _
      omega
    · rcases List.mem_append.mp hw with hw | hw
      · rcases List.mem_append.mp hw with hw | hw
        · have := ds w (List.mem_of_mem_take hw); omega
        · rw [List.mem_singleton.mp hw]
          have := hv.dp
          have := ds _ hmem
          omega
      · have := ds w (List.mem_of_mem_drop hw); omega
  | _ =>
    simp only [isTup, reduceCtorEq, false_implies, true_implies, true_and]
    exact l0
end
end Mi
/-! Qf: the law that looks at what is drawn, thrice a turn. -/
namespace Mi
open PySem PySem.Spec PyProof.Rows L2
set_option linter.unusedVariables false
set_option linter.unusedSimpArgs false
set_option maxRecDepth 10000
theorem rng_get {lo : Int} {n i : Nat} {u : U} (h : (rangeU lo n)[i]? = some u) : u = .int (lo + (i : Nat)) ∧ i < n := by
  have hi : i < (rangeU lo n).length := (List.getElem?_eq_some_iff.mp h).1
  rw [rangeU_len] at hi
  rw [rangeU_get lo n i hi] at h
  cases h
  exact ⟨rfl, hi⟩
def W_turn (T : Tab) (call : CallT) (made : E1) (d : Int) (f1 f2 : Str) : S1 := (sSeq (sAsg (cCallK 2 0 (fun as _ m => call ("_law_draw", none) as m) (cCons (cVar 1) (cCons (cK (.int 3)) cNil)) cNil) (gName 4)) (sSeq (sAsg made (gName 5)) (sSeq (sFor (cRng1 (cCons (cVar 4) cNil)) (gName 6) (sSeq (sAsg (cCallK 3 0 (fun as _ m => call ("_law_spoilt", none) as m) (cCons (cVar 1) (cCons (cVar 5) (cCons (cK (.int d)) cNil))) cNil) (gName 5)) sNx)) (sSeq (sAsg (cFn biRepr (cCons (cVar 5) cNil)) (gName 7)) (sSeq (sFor (cIt (cFn mkFl (cCons (cVar 5) (cCons (cVar 2) (cCons (cVar 5) cNil))))) (gName 8) (sSeq (sAsg (cCallK 1 0 (fun as _ m => call (f1, none) as m) (cCons (cVar 8) cNil) cNil) (gName 9)) (sSeq (sIf (cOr (cNot (cTruth (cFn (biIsa T) (cCons (cVar 9) (cCons (cK (.ty "bool")) cNil))))) (cIsBl (cBin neU (cVar 9) (cCallK 1 0 (fun as _ m => call (f2, none) as m) (cCons (cVar 8) cNil) cNil)))) (sSeq (sRet (cK (.bl false))) sNx) sNx) sNx))) (sSeq (sIf (cIsBl (cBin neU (cFn biRepr (cCons (cVar 5) cNil)) (cVar 7))) (sSeq (sRet (cK (.bl false))) sNx) sNx) (sSeq (sAsg (cVar 5) (gName 2)) sNx)))))))
def W_looks (T : Tab) (call : CallT) (n : Int) (first made : E1) (d : Int) (f1 f2 : Str) : S1 := (sSeq (sAsg (cCallK 1 0 (fun as _ m => call ("_law_bag", none) as m) (cCons (cVar 0) cNil) cNil) (gName 1)) (sSeq (sAsg first (gName 2)) (sSeq (sFor (cRng1 (cCons (cK (.int n)) cNil)) (gName 3) (W_turn T call made d f1 f2)) (sSeq (sRet (cK (.bl true))) sNx))))
def BagC (call : CallT) : Prop := ∀ (ns : List Int), ns.length ≤ 63 → ∀ m, okO (call ("_law_bag", none) [.cl (ns.map U.int)] m) fun v m' => v = .ref (m.length + 1) ∧ Bag m' (m.length + 1) m.length 0 ∧ m'.length = m.length + 2 ∧ ∀ i, i < m.length → m'[i]? = m[i]?
structure Looks (call : CallT) (first made : E1) (d : Int) (f1 f2 : Str) (J : Nat → U → Prop) (B : U → Bool) : Prop where
  bag : BagC call
  draw : DrawC call
  fst : ∀ t m, okO (first t m) fun u m' => J 0 u ∧ m' = m
  mak : ∀ (t : Env1) (m : MH) (b g N : Nat), t[1]? = some (some (.ref b)) → Bag m b g N → N + 950 < 10 ^ 9 → okO (made t m) fun u m' => J 0 u ∧ Bag m' b g (N + 300)
  sp : ∀ (i : Nat) (m : MH) (b g N : Nat) (u : U), i < 2 → J i u → Bag m b g N → N + 200 < 10 ^ 9 → okO (call ("_law_spoilt", none) [.ref b, u, .int d] m) fun v m' => J (i + 1) v ∧ Bag m' b g (N + 100)
  rep : ∀ i u, i ≤ 2 → J i u → repOk u = true
  k1 : ∀ i m u, i ≤ 2 → J i u → call (f1, none) [u] m = .ok (.bl (B u)) m
  k2 : ∀ i m u, i ≤ 2 → J i u → call (f2, none) [u] m = .ok (.bl (B u)) m
section
variable {T : Tab} {call : CallT} {first made : E1} {d : Int} {f1 f2 : Str} {J : Nat → U → Prop} {B : U → Bool}
theorem turn_ok (C : Looks call first made d f1 f2 J B) {m : MH} {b g N : Nat} {s x3 x4 x5 x6 x7 x8 x9 : Option U} {last : U} {i0 : Nat} (hi0 : i0 ≤ 2) (hl : J i0 last) (h : Bag m b g N) (hN : N + 1000 < 10 ^ 9) :
    okS (W_turn T call made d f1 f2 [s, some (.ref b), some last, x3, x4, x5, x6, x7, x8, x9] m) (fun t m' => ∃ i last' y4 y5 y6 y7 y8 y9, i ≤ 2 ∧ J i last' ∧ t = [s, some (.ref b), some last', x3, y4, y5, y6, y7, y8, y9] ∧ Bag m' b g (N + 1000)) fun _ _ => False := by
  unfold W_turn
  simp only [ok_sSeq, ok_sAsg, ok_cCallK, ok_cCons, ok_cVar0, ok_cVarS, ok_cK, ok_cNil]
  refine ⟨rfl, rfl, okO_mono (C.draw m b g N 3 h (by omega) (by decide) (by decide)) ?_⟩
  rintro v m1 ⟨n, rfl, n0, n3, h1, -⟩
  simp only [ok_gName, List.set_cons_succ, List.set_cons_zero]
  refine okO_mono (C.mak _ m1 b g (N + 1) rfl h1 (by omega)) ?_
  rintro u0 m2 ⟨j0, h2⟩
  simp only [ok_gName, List.set_cons_succ, List.set_cons_zero, ok_sFor, ok_cRng1, ok_cCons, ok_cVar0, ok_cVarS, ok_cNil, ok_rng1]
  refine ⟨by unfold rngBd; simp only [Bool.and_eq_true, decide_eq_true_eq]; omega, ok_loop (us := rangeU 0 n.toNat) (fun i t m' => ∃ u y6, J i u ∧ t = [s, some (.ref b), some last, x3, some (.int n), some u, y6, x7, x8, x9] ∧ Bag m' b g (N + 301 + 100 * i)) ⟨u0, x6, j0, rfl, h2⟩ ?_ ?_⟩
  · rintro i w t m3 hw ⟨u, y6, ju, rfl, h3⟩
    obtain ⟨rfl, hi⟩ := rng_get hw
    simp only [ok_gName, List.set_cons_succ, List.set_cons_zero, ok_sSeq, ok_sAsg, ok_cCallK, ok_cCons, ok_cVarS, ok_cVar0, ok_cK, ok_cNil]
    refine ⟨rfl, rfl, okO_mono (C.sp i m3 b g _ u (by omega) ju h3 (by omega)) ?_⟩
    rintro v m4 ⟨jv, h4⟩
    simp only [ok_gName, List.set_cons_succ, List.set_cons_zero, ok_sNx]
    exact ⟨_, _, jv, rfl, h4.up (by omega)⟩
  · rintro t m3 ⟨u, y6, ju, rfl, h3⟩
    rw [rangeU_len] at ju h3
    have hn2 : n.toNat ≤ 2 := by omega
    have ru := C.rep _ u hn2 ju
    simp only [ok_sSeq, ok_sAsg, ok_cFn, ok_cCons, ok_cVarS, ok_cVar0, ok_cNil, ok_repr ru, ok_gName, List.set_cons_succ, List.set_cons_zero, ok_sFor, ok_cIt]
    rw [ok_mkFl rfl, ok_itOf_fl]
    have hth : ∀ w ∈ [u, last, u], ∃ i, i ≤ 2 ∧ J i w := by
      intro w hw
      simp only [List.mem_cons, List.not_mem_nil, or_false] at hw
      rcases hw with rfl | rfl | rfl
      · exact ⟨_, hn2, ju⟩
      · exact ⟨_, hi0, hl⟩
      · exact ⟨_, hn2, ju⟩
    refine ok_loop (us := [u, last, u]) (fun j t m' => m' = m3 ∧ ∃ y8 y9, t = [s, some (.ref b), some last, x3, some (.int n), some u, y6, some (.str (toD u).shown), y8, y9]) ⟨rfl, x8, x9, rfl⟩ ?_ ?_
    · rintro j w t m4 hw ⟨rfl, y8, y9, rfl⟩
      obtain ⟨i, hi, jw⟩ := hth w (List.mem_of_getElem? hw)
      have t1 : tyU (.bl (B w)) m4 = some "bool" := rfl
      simp only [ok_gName, List.set_cons_succ, List.set_cons_zero, ok_sSeq, ok_sAsg, ok_cCallK, ok_cCons, ok_cVarS, ok_cVar0, ok_cNil, C.k1 i m4 w hi jw, C.k2 i m4 w hi jw, okO_ok, ok_sIf, ok_cOr, ok_cNot, ok_cTruth, ok_cFn, ok_cK, ok_isaBB, okT_bl, ok_cIsBl, ok_cBin, ok_neB, ok_blOf, ok_sNx, decide_true, Bool.not_true]
      exact ⟨rfl, rfl, fun z => (nomatch z), fun _ => ⟨rfl, rfl, fun z => (nomatch z), fun _ => ⟨trivial, _, _, rfl⟩⟩⟩
    · rintro t m4 ⟨rfl, y8, y9, rfl⟩
      simp only [ok_sSeq, ok_sIf, ok_cIsBl, ok_cBin, ok_cFn, ok_cCons, ok_cVarS, ok_cVar0, ok_cNil, ok_repr ru, ok_neS, ok_blOf, decide_true, Bool.not_true]
      refine ⟨fun z => (nomatch z), fun _ => ?_⟩
      simp only [ok_sNx, ok_sSeq, ok_sAsg, ok_cVarS, ok_cVar0, ok_gName, List.set_cons_succ, List.set_cons_zero]
      exact ⟨_, _, _, _, _, _, _, _, hn2, ju, rfl, h3.up (by omega)⟩
theorem end_of {o : Out U} (h : okO o fun v _ => v = .bl true) : ∃ m, o = .ok (.bl true) m := by
  cases o with
  | ok v m => obtain rfl := (show v = .bl true from h); exact ⟨m, rfl⟩
  | _ => exact (show False from h).elim
theorem looks_ok (C : Looks call first made d f1 f2 J B) {n : Int} (n0 : 0 ≤ n) (n1 : n ≤ 100) {ns : List Int} (hl : ns.length ≤ 63) :
    okS (W_looks T call n first made d f1 f2 [some (.cl (ns.map U.int)), none, none, none, none, none, none, none, none, none] []) (fun _ _ => False) fun v _ => v = .bl true := by
  unfold W_looks
  simp only [ok_sSeq, ok_sAsg, ok_cCallK, ok_cCons, ok_cVar0, ok_cVarS, ok_cK, ok_cNil]
  refine ⟨rfl, rfl, okO_mono (C.bag ns hl []) ?_⟩
  rintro v m1 ⟨rfl, h1, -, -⟩
  simp only [ok_gName, List.set_cons_succ, List.set_cons_zero]
  refine okO_mono (C.fst _ m1) ?_
  rintro u m2 ⟨ju, rfl⟩
  simp only [ok_gName, List.set_cons_succ, List.set_cons_zero, ok_sFor, ok_cRng1, ok_cCons, ok_cK, ok_cNil, ok_rng1]
  refine ⟨by unfold rngBd; simp only [Bool.and_eq_true, decide_eq_true_eq]; omega, ok_loop (us := rangeU 0 n.toNat) (fun i t m' => ∃ j last x3 y4 y5 y6 y7 y8 y9, j ≤ 2 ∧ J j last ∧ t = [some (.cl (ns.map U.int)), some (.ref (List.length ([] : MH) + 1)), some last, x3, y4, y5, y6, y7, y8, y9] ∧ Bag m' (List.length ([] : MH) + 1) (List.length ([] : MH)) (1000 * i)) ⟨0, u, none, none, none, none, none, none, none, by decide, ju, rfl, h1⟩ ?_ ?_⟩
  · rintro i w t m3 hw ⟨j, last, x3, y4, y5, y6, y7, y8, y9, hj, jl, rfl, h3⟩
    obtain ⟨rfl, hi⟩ := rng_get hw
    simp only [ok_gName, List.set_cons_succ, List.set_cons_zero]
    refine okS_mono (turn_ok C hj jl h3 (by omega)) ?_ (fun _ _ z => z.elim)
    rintro t m4 ⟨j', last', z4, z5, z6, z7, z8, z9, hj', jl', rfl, h4⟩
    exact ⟨j', last', _, z4, z5, z6, z7, z8, z9, hj', jl', rfl, h4.up (by omega)⟩
  · rintro t m3 ⟨j, last, x3, y4, y5, y6, y7, y8, y9, hj, jl, rfl, h3⟩
    simp only [ok_sRet, ok_cK]
end
/-- data of the law, spoilt i times -/
structure Th (W : Nat) (i : Nat) (u : U) : Prop where
  gd : gdU (10 ^ 41 + i) u = true
  wt : wtU u ≤ W * 5 ^ i
  dp : dpU u ≤ 4 + 4 * i
theorem Th.next {W i : Nat} {u v : U} (hW : 8000 ≤ W) (h : Th W i u) (s : SpR (10 ^ 41 + i) u v) : Th W (i + 1) v := by
  have p : 1 ≤ 5 ^ i := Nat.one_le_pow _ _ (by decide)
  have p2 : W * 1 ≤ W * 5 ^ i := Nat.mul_le_mul_left _ p
  refine ⟨s.gd, ?_, ?_⟩
  · have := s.wt
    have := h.wt
    rw [Nat.pow_succ, ← Nat.mul_assoc]
    omega
  · have := s.dp
    have := h.dp
    omega
theorem Th.rep {W i : Nat} {u : U} (hW : W ≤ 600000) (h : Th W i u) (hi : i ≤ 2) : repOk u = true := by
  have p : 5 ^ i ≤ 5 ^ 2 := Nat.pow_le_pow_right (by decide) hi
  have p2 : W * 5 ^ i ≤ 600000 * 5 ^ 2 := Nat.mul_le_mul hW p
  exact repOk_of h.gd (by have : (10 : Nat) ^ 41 + i < 2 ^ 1900 := Nat.lt_of_le_of_lt (Nat.add_le_add_left hi _) (by decide +kernel); exact this) (by have := h.wt; omega) (by have := h.dp; omega)
theorem Th.small {W i : Nat} {u : U} (hW : W ≤ 600000) (h : Th W i u) (hi : i < 2) : wtU u ≤ 4000000 := by
  have p : 5 ^ i ≤ 5 ^ 1 := Nat.pow_le_pow_right (by decide) (by omega)
  have p2 : W * 5 ^ i ≤ 600000 * 5 ^ 1 := Nat.mul_le_mul hW p
  have := h.wt
  omega
theorem Th.up {W W' i : Nat} {u : U} (h : Th W i u) (hW : W ≤ W') : Th W' i u := ⟨h.gd, Nat.le_trans h.wt (Nat.mul_le_mul_right _ hW), h.dp⟩
theorem th_lock {k : Int} {u : U} (hk : 0 ≤ k) (hk2 : k < 10 ^ 40) (h : lockOf (10 ^ 40) k u) : Th 8000 0 u ∧ dpU u ≤ 1 := by
  obtain ⟨z, a, s, l, rfl, hz, a0, a1, s0, s1, l0, l1⟩ := h
  have az : ascB z = true ∧ z.length ≤ 5 := by
    rcases hz with rfl | rfl
    · exact ⟨by kernel_rfl, by decide⟩
    · exact ⟨by kernel_rfl, by decide⟩
  have hB : ∀ j : Int, 0 ≤ j → j < 10 ^ 40 → gdU (10 ^ 41 + 0) (.int j) = true := fun j j0 j1 => decide_eq_true (by omega)
  have d1 : dpU (.tup [.int k, .str z, .int a, .int s, .int l]) ≤ 1 := by
    show max 0 (max 0 (max 0 (max 0 (max 0 0)))) + 1 ≤ 1
    decide
  refine ⟨⟨gdUs_iff.mpr fun w hw => ?_, ?_, by omega⟩, d1⟩
  · simp only [List.mem_cons, List.not_mem_nil, or_false] at hw
    rcases hw with rfl | rfl | rfl | rfl | rfl
    · exact hB _ hk hk2
    · exact az.1
    · exact hB _ (by omega) a1
    · exact hB _ s0 s1
    · exact hB _ l0 l1
  · show (1921 + 2 + ((10 * z.length + 2) + 2 + (1921 + 2 + (1921 + 2 + (1921 + 2 + 0))))) + 6 ≤ 8000 * 5 ^ 0
    omega
end Mi
/-! Qg: states: what the looks tell, and how they are drawn. -/
namespace Mi
open PySem PySem.Spec PyProof.Rows L2
set_option linter.unusedVariables false
set_option linter.unusedSimpArgs false
set_option maxRecDepth 10000
section
variable {T : Tab} {call : CallT} {m : MH} {Q : U → MH → Prop} {t : Env1} {b g N : Nat}
theorem eqv_ints2 : ∀ ks ls : List Int, PyData.eqvAll (toDs (ks.map U.int)) (toDs (ls.map U.int)) = decide (ks = ls)
  | [], [] => rfl
  | [], _ :: _ => rfl
  | _ :: _, [] => rfl
  | k :: ks, l :: ls => by
    show ((k == l) && PyData.eqvAll (toDs (ks.map U.int)) (toDs (ls.map U.int))) = _
    rw [eqv_ints2 ks ls, Bool.eq_iff_iff]
    simp
theorem eq_ints (ks ls : List Int) : eqB (.fl (ks.map U.int)) (.fl (ls.map U.int)) m = some (decide (ks = ls)) := by
  unfold eqB
  show (if (okD (.fl (ks.map U.int)) && okD (.fl (ls.map U.int))) = true then some (PyData.eqvAll (toDs (ks.map U.int)) (toDs (ls.map U.int))) else none) = _
  rw [okD_ints, okD_ints, eqv_ints2]
  rfl
theorem eq_ints_nil (ks : List Int) : eqB (.fl (ks.map U.int)) (.fl []) m = some (decide (ks = [])) := eq_ints ks []
/-- a list comprehension that changes nothing -/
theorem lc_pure {gg : G1} {q : Fn1 Bool} {e : E1} {t0 : Env1} {us : List U} {P : List U → MH → Prop} {f : U → Bool} {h : U → U}
    (step : ∀ u ∈ us, okP (gg u t0 m) fun t1 m1 => okO (q t1 m1) fun x m2 => x = f u ∧ (x = true → okO (e t1 m2) fun w m3 => w = h u ∧ m3 = m) ∧ (x = false → m2 = m))
    (fin : P ((us.filter f).map h) m) : okP (lcI (constIt us) gg q e t0 us.length 0 [] m) P := by
  refine ok_lc (fun i acc m' => m' = m ∧ acc = ((us.take i).filter f).map h) ⟨rfl, by simp⟩ ?_ ?_
  · rintro i u acc m' hu ⟨rfl, rfl⟩
    have hi := (List.getElem?_eq_some_iff.mp hu).1
    have e1 : us.take (i + 1) = us.take i ++ [u] := by
      rw [List.take_add_one, hu]
      rfl
    refine okP_mono (step u (List.mem_of_getElem? hu)) fun t1 m1 k => okO_mono k fun x m2 k2 => ⟨fun hx => ?_, fun hx => ?_⟩
    · refine okO_mono (k2.2.1 hx) ?_
      rintro w m3 ⟨rfl, rfl⟩
      refine ⟨rfl, ?_⟩
      rw [e1, List.filter_append, List.map_append, List.filter_cons, ← k2.1, hx]
      rfl
    · refine ⟨k2.2.2 hx, ?_⟩
      rw [e1, List.filter_append, List.map_append, List.filter_cons, ← k2.1, hx]
      simp
  · rintro acc m' ⟨rfl, rfl⟩
    rw [List.take_of_length_le (Nat.le_refl _)]
    exact fin
def idOf : U → Int
  | .tup (.int i :: _) => i
  | _ => 0
def intOf : U → Int
  | .int i => i
  | _ => 0
def riseB : Int → List Int → Bool
  | _, [] => true
  | k, i :: r => decide (k ≤ i) && riseB (i + 1) r
def endI : Int → List Int → Int
  | k, [] => k
  | _, i :: r => endI (i + 1) r
def locksB (ls : List U) : Bool := ls.all lockB
def stateB : U → Bool
  | .tup [a, b, c, d, .tup ls] => (geB 0 a && (geB 0 b && (geB 0 c && geB 0 d))) && (decide (ls.length ≤ 30) && (locksB ls && (riseB 1 (ls.map idOf) && decide (endI 1 (ls.map idOf) ≤ intOf b + 1))))
  | _ => false
theorem lock_shape {u : U} (h : lockB u = true) : ∃ i b c d e, u = .tup [.int i, b, c, d, e] ∧ 1 ≤ i := by
  cases u with
  | tup us =>
    by_cases hl : us.length = 5
    · obtain ⟨a, b, c, d, e, rfl⟩ := len5 hl
      cases a with
      | int i =>
        have h' : (geB 1 (.int i) && (sideB b && (geB 1 c && (geB 0 d && geB 0 e)))) = true := h
        rw [Bool.and_eq_true] at h'
        exact ⟨i, b, c, d, e, rfl, of_decide_eq_true h'.1⟩
      | _ => exact nomatch (show false = true from h)
    · rw [lockB_len hl] at h; cases h
  | _ => exact nomatch (show false = true from h)
theorem riseB_pw : ∀ {l : List Int} {k : Int}, riseB k l = true ↔ l.Pairwise (· < ·) ∧ ∀ j ∈ l, k ≤ j
  | [], k => by simp [riseB]
  | i :: r, k => by
    show (decide (k ≤ i) && riseB (i + 1) r) = true ↔ _
    rw [Bool.and_eq_true, decide_eq_true_eq, riseB_pw, List.pairwise_cons]
    constructor
    · rintro ⟨h1, h2, h3⟩
      refine ⟨⟨fun j hj => by have := h3 j hj; omega, h2⟩, fun j hj => ?_⟩
      rcases List.mem_cons.mp hj with rfl | hj
      · exact h1
      · have := h3 j hj; omega
    · rintro ⟨⟨h1, h2⟩, h3⟩
      exact ⟨h3 i List.mem_cons_self, h2, fun j hj => by have := h1 j hj; omega⟩
theorem endI_last : ∀ {l : List Int} {k : Int}, l ≠ [] → ∃ j, endI k l = j + 1 ∧ l.getLast? = some j
  | [], k, h => absurd rfl h
  | [i], k, _ => ⟨i, rfl, rfl⟩
  | i :: i2 :: r, k, _ => by
    obtain ⟨j, h1, h2⟩ := endI_last (l := i2 :: r) (k := i + 1) (by simp)
    exact ⟨j, h1, by rw [List.getLast?_cons_cons]; exact h2⟩
theorem atI_neg1 {α : Type} {us : List α} {a : α} (h : us.getLast? = some a) : atI us (-1) = some a := by
  obtain ⟨ys, rfl⟩ := List.getLast?_eq_some_iff.mp h
  exact atI_last
theorem riseI_self {l : List Int} : riseI l = l ↔ l.Pairwise (· < ·) :=
  ⟨fun e => e ▸ riseI_rise l, fun h => rise_eq (riseI_rise l) h fun k => riseI_mem⟩
theorem ints_map (l : List Int) : intsOf (l.map U.int) = some l := by
  induction l with
  | nil => rfl
  | cons b l ih =>
    show (intsOf (l.map U.int)).map (b :: ·) = _
    rw [ih]
    rfl
theorem ok_biRise {l : List Int} (h : l.length < 64) : okP (biRise [.fl (l.map U.int)] m) Q ↔ Q (.fl ((riseI l).map U.int)) m := by
  have e : biRise [.fl (l.map U.int)] m = some (.fl ((riseI l).map U.int), m) := by
    show (intsOf (l.map U.int)).bind (fun ns => if decide (ns.length < 64) = true then some (U.fl ((riseI ns).map U.int), m) else none) = _
    rw [ints_map, Option.bind_some, if_pos (decide_eq_true h)]
  rw [e]
  exact Iff.rfl
theorem ok_bls {l : List Bool} {us : List U} (h : us = l.map U.bl) : okP (biAll [.fl us] m) Q ↔ Q (.bl (l.all id)) m := by rw [h]; exact ok_all
def StateK (call : CallT) : Prop := ∀ m u, rdU u = true → call ("is_state", none) [u] m = .ok (.bl (stateB u)) m
def LStateK (call : CallT) : Prop := ∀ m u, rdU u = true → call ("_law_is_state", none) [u] m = .ok (.bl (stateB u)) m
theorem rd_mem {us : List U} (h : rdUs us = true) : ∀ u ∈ us, rdU u = true := by
  induction us with
  | nil => exact fun u hu => nomatch hu
  | cons a us ih =>
    have h' : (rdU a && rdUs us) = true := h
    rw [Bool.and_eq_true] at h'
    intro u hu
    rcases List.mem_cons.mp hu with rfl | hu
    · exact h'.1
    · exact ih h'.2 u hu
theorem stateB_len {us : List U} (h : us.length ≠ 5) : stateB (.tup us) = false := by
  match us, h with
  | [], _ => rfl
  | [_], _ => rfl
  | [_, _], _ => rfl
  | [_, _, _], _ => rfl
  | [_, _, _, _], _ => rfl
  | [_, _, _, _, _], h => exact absurd rfl h
  | _ :: _ :: _ :: _ :: e :: _ :: _, _ => cases e <;> rfl
theorem stateB_nt {a b c d e : U} (h : isTup e = false) : stateB (.tup [a, b, c, d, e]) = false := by
  cases e <;> first | rfl | cases h
theorem ge_int {k : Int} {u : U} (h : geB k u = true) : ∃ i, u = .int i ∧ k ≤ i := by
  cases u <;> first | exact nomatch (show false = true from h) | exact ⟨_, rfl, of_decide_eq_true h⟩
theorem state_eq (hC : CountK call) (hL : LockK call) {u : U} (h : rdU u = true) : P_is_state T call [some u, none, none, none, none, none] m = .rt (.bl (stateB u)) m := by
  refine rt_of ?_
  unfold P_is_state
  simp only [ok_sSeq, ok_sIf, ok_cOr, ok_cNot, ok_cTruth, ok_cFn, ok_cCons, ok_cVar0, ok_cNil, ok_cK, ok_isaTup h, okT_bl, ok_cIsBl, ok_cBin, ok_sRet, ok_sNx]
  cases u with
  | tup us =>
    by_cases hl : us.length = 5
    · obtain ⟨a, b, c, d, e, rfl⟩ := len5 hl
      obtain ⟨ha, hb, hc, hd, he⟩ := rd5 h
      have i4 : ∀ {Q : U → MH → Prop}, okP (idxU (.tup [a, b, c, d, e]) (.int 4) m) Q ↔ Q e m := ok_idxT rfl
      have e0 : isTup (.tup [a, b, c, d, e]) = true := rfl
      have h5 : (!decide ((([a, b, c, d, e] : List U).length : Int) = 5)) = false := rfl
      refine ⟨fun z => (nomatch z), fun _ => ?_⟩
      simp only [ok_lenT, ok_neI, ok_blOf]
      refine ⟨fun z => (nomatch z), fun _ => ?_⟩
      rw [i4, ok_isaTup he, okT_bl]
      cases et : isTup e with
      | false =>
        rw [stateB_nt et]
        exact ⟨fun _ => ⟨rfl, rfl⟩, fun z => (nomatch z)⟩
      | true =>
        refine ⟨fun z => (nomatch z), fun _ => ?_⟩
        cases e with
        | tup ls =>
          have st : starU 0 2 [a, b, c, d, .tup ls] = [.fl [a, b, c, d], .tup ls] := rfl
          have rl := rd_mem (us := ls) he
          simp only [ok_sAsg, ok_cVar0, ok_gStar, List.length_cons, List.length_nil, st, ok_gAllS, ok_gAll0, ok_gName, List.set_cons_succ, List.set_cons_zero, ok_sSeq, ok_sIf, ok_cOr, ok_cNot, ok_cTruth, ok_cFn, ok_cCons, ok_cNil, ok_cLc, ok_cIt, ok_cVarS, ok_itOf_fl]
          refine ⟨by decide, rfl, lc_pure (f := fun _ => true) (h := fun u => .bl (geB 0 u)) ?_ ?_⟩
          · intro u hu
            have ru : rdU u = true := by
              simp only [List.mem_cons, List.not_mem_nil, or_false] at hu
              rcases hu with rfl | rfl | rfl | rfl <;> assumption
            simp only [wipeU, List.foldl, List.set_cons_succ, List.set_cons_zero, ok_gName, ok_cYes, ok_cCallK, ok_cCons, ok_cVarS, ok_cVar0, ok_cNil, hC m u ru, okO_ok]
            exact ⟨trivial, fun _ => ⟨rfl, rfl, trivial, trivial⟩, fun z => (nomatch z)⟩
          simp only [flP]
          rw [ok_bls (l := [geB 0 a, geB 0 b, geB 0 c, geB 0 d]) (by rfl)]
          have ea : List.all [geB 0 a, geB 0 b, geB 0 c, geB 0 d] id = (geB 0 a && (geB 0 b && (geB 0 c && geB 0 d))) := by simp
          rw [ea]
          show _
          generalize hn : (geB 0 a && (geB 0 b && (geB 0 c && geB 0 d))) = nb
          have es : stateB (.tup [a, b, c, d, .tup ls]) = (nb && (decide (ls.length ≤ 30) && (locksB ls && (riseB 1 (ls.map idOf) && decide (endI 1 (ls.map idOf) ≤ intOf b + 1))))) := by rw [← hn]; rfl
          rw [es]
          cases nb with
          | false => simp
          | true =>
            simp only [Bool.and_eq_true] at hn
            obtain ⟨j, rfl, hj⟩ := ge_int hn.2.1
            simp only [okT_bl, Bool.not_true, true_implies, reduceCtorEq, false_implies, true_and, and_true, ok_cIsBl, ok_cBin, ok_cFn, ok_cCons, ok_cVarS, ok_cVar0, ok_cNil, ok_cK, ok_lenT, ok_cmpG, ok_blOf, ok_sRet, ok_sNx, ok_sSeq, Bool.true_and]
            by_cases h30 : ls.length ≤ 30
            · have e1 : decide ((30 : Int) < (ls.length : Int)) = false := decide_eq_false (by omega)
              have e2 : decide (ls.length ≤ 30) = true := decide_eq_true h30
              rw [e1, e2]
              simp only [true_implies, reduceCtorEq, false_implies, true_and, and_true, Bool.true_and, ok_sAsg, ok_cK, ok_gName, List.set_cons_succ, List.set_cons_zero, ok_sFor, ok_cIt, ok_cVarS, ok_cVar0, ok_itOf_tup]
              refine ok_loop (us := ls) (fun i t m' => m' = m ∧ ∃ k x2, t = [some (.tup [a, .int j, c, d, .tup ls]), some (.int k), x2, some (.tup ls), some (.fl [a, .int j, c, d]), none] ∧ (locksB ls && (riseB 1 (ls.map idOf))) = (locksB (ls.drop i) && riseB k ((ls.drop i).map idOf)) ∧ endI 1 (ls.map idOf) = endI k ((ls.drop i).map idOf)) ⟨rfl, 1, none, rfl, rfl, rfl⟩ ?_ ?_
              · rintro i u t m1 hu ⟨rfl, k, x2, rfl, p3, p4⟩
                have hi := (List.getElem?_eq_some_iff.mp hu).1
                have ud : ls.drop i = u :: ls.drop (i + 1) := by
                  rw [List.drop_eq_getElem_cons hi]
                  rw [List.getElem?_eq_getElem hi] at hu
                  cases hu
                  rfl
                have ru := rl u (List.mem_of_getElem? hu)
                rw [ud, List.map_cons] at p3 p4
                have p3' : (locksB ls && riseB 1 (ls.map idOf)) = ((lockB u && locksB (ls.drop (i + 1))) && (decide (k ≤ idOf u) && riseB (idOf u + 1) ((ls.drop (i + 1)).map idOf))) := p3
                have p4' : endI 1 (ls.map idOf) = endI (idOf u + 1) ((ls.drop (i + 1)).map idOf) := p4
                simp only [ok_gName, List.set_cons_succ, List.set_cons_zero, ok_sSeq, ok_sIf, ok_cOr, ok_cNot, ok_cTruth, ok_cCallK, ok_cCons, ok_cVarS, ok_cVar0, ok_cNil, hL m1 u ru, okO_ok, okT_bl]
                refine ⟨rfl, rfl, ?_⟩
                cases el : lockB u with
                | false =>
                  rw [el] at p3'
                  simp [← Bool.and_assoc, p3', ok_sRet]
                | true =>
                  obtain ⟨i0, b', c', d', e', rfl, hi0⟩ := lock_shape el
                  rw [el] at p3'
                  have i0' : ∀ {Q : U → MH → Prop}, okP (idxU (.tup [.int i0, b', c', d', e']) (.int 0) m1) Q ↔ Q (.int i0) m1 := ok_idxT rfl
                  have eid : idOf (.tup [.int i0, b', c', d', e']) = i0 := rfl
                  rw [eid] at p3' p4'
                  simp only [Bool.not_true, true_implies, reduceCtorEq, false_implies, true_and, and_true, ok_cIsBl, ok_cBin, ok_cVarS, ok_cVar0, ok_cK, i0', ok_cmpI, ok_blOf, ok_sRet, ok_sNx, ok_sSeq, ok_sAsg, ok_add, ok_gName, List.set_cons_succ, List.set_cons_zero]
                  by_cases hk : k ≤ i0
                  · have e3 : ltI i0 k = false := decide_eq_false (by omega)
                    rw [e3]
                    refine ⟨fun z => (nomatch z), fun _ => ⟨_, _, rfl, ?_, p4'⟩⟩
                    rw [p3', decide_eq_true hk]
                    rfl
                  · have e3 : ltI i0 k = true := decide_eq_true (by omega)
                    rw [e3]
                    rw [decide_eq_false hk] at p3'
                    refine ⟨fun _ => ?_, fun z => (nomatch z)⟩
                    rw [← Bool.and_assoc, p3']
                    simp
              · rintro t m1 ⟨rfl, k, x2, rfl, p3, p4⟩
                rw [List.drop_length] at p3 p4
                have i1 : ∀ {Q : U → MH → Prop}, okP (idxU (.fl [a, .int j, c, d]) (.int 1) m1) Q ↔ Q (.int j) m1 := ok_idxF rfl
                simp only [ok_sSeq, ok_sRet, ok_cBin, ok_cVarS, ok_cVar0, ok_cK, i1, ok_add, ok_cmpI]
                refine ⟨?_, trivial⟩
                rw [← Bool.and_assoc, p3, p4]
                rfl
            · have e1 : decide ((30 : Int) < (ls.length : Int)) = true := decide_eq_true (by omega)
              have e2 : decide (ls.length ≤ 30) = false := decide_eq_false h30
              rw [e1, e2]
              simp
        | _ => cases et
    · rw [stateB_len hl]
      have : ¬ ((us.length : Int) = 5) := by omega
      simp [isTup, this, ok_lenT]
  | _ => simp [isTup, stateB]
end
end Mi
/-! Qh: the law's own look at a state. -/
namespace Mi
open PySem PySem.Spec PyProof.Rows L2
set_option linter.unusedVariables false
set_option linter.unusedSimpArgs false
set_option maxRecDepth 10000
section
variable {T : Tab} {call : CallT} {m : MH} {Q : U → MH → Prop} {t : Env1} {b g N : Nat}
theorem ones_map (us : List U) (f : U → Bool) : (us.filter f).map (fun _ => U.int 1) = ((us.filter f).map fun _ => (1 : Int)).map U.int := by
  rw [List.map_map]
  rfl
theorem ones_nil (us : List U) (f : U → Bool) : decide (((us.filter f).map fun _ => (1 : Int)) = []) = us.all fun u => !f u := by
  rw [Bool.eq_iff_iff, decide_eq_true_eq, List.map_eq_nil_iff, List.filter_eq_nil_iff, List.all_eq_true]
  constructor
  · intro h u hu
    have := h u hu
    cases e : f u with
    | true => exact absurd e this
    | false => rfl
  · intro h u hu e
    have := h u hu
    rw [e] at this
    cases this
theorem ok_neOnes {us : List U} {f : U → Bool} : okP (neU (.fl ((us.filter f).map fun _ => U.int 1)) (.fl []) m) Q ↔ Q (.bl (!(us.all fun u => !f u))) m := by
  rw [ones_map, ok_neOf (eq_ints_nil _), ones_nil]
theorem ids_map (ls : List U) : (ls.filter fun _ => true).map (fun u => U.int (idOf u)) = (ls.map idOf).map U.int := by
  rw [List.filter_eq_self.mpr (fun _ _ => rfl), List.map_map]
  rfl
theorem lstate_eq (hW : LWholeK call) (hL : LLockK call) {u : U} (h : rdU u = true) : P_law_is_state T call [some u, none, none, none] m = .rt (.bl (stateB u)) m := by
  refine rt_of ?_
  unfold P_law_is_state
  simp only [ok_sSeq, ok_sIf, ok_cOr, ok_cNot, ok_cTruth, ok_cFn, ok_cCons, ok_cVar0, ok_cNil, ok_cK, ok_isaTup h, okT_bl, ok_cIsBl, ok_cBin, ok_sRet, ok_sNx]
  cases u with
  | tup us =>
    by_cases hl : us.length = 5
    · obtain ⟨a, b, c, d, e, rfl⟩ := len5 hl
      obtain ⟨ha, hb, hc, hd, he⟩ := rd5 h
      have i4 : ∀ {Q : U → MH → Prop}, okP (idxU (.tup [a, b, c, d, e]) (.int 4) m) Q ↔ Q e m := ok_idxT rfl
      refine ⟨fun z => (nomatch z), fun _ => ?_⟩
      simp only [ok_lenT, ok_neI, ok_blOf]
      refine ⟨fun z => (nomatch z), fun _ => ?_⟩
      rw [i4, ok_isaTup he, okT_bl]
      cases et : isTup e with
      | false =>
        rw [stateB_nt et]
        exact ⟨fun _ => ⟨fun _ => ⟨rfl, rfl⟩, fun z => (nomatch z)⟩, fun z => (nomatch z)⟩
      | true =>
        refine ⟨fun z => (nomatch z), fun _ => ?_⟩
        cases e with
        | tup ls =>
          have rl := rd_mem (us := ls) he
          have i1 : ∀ {Q : U → MH → Prop}, okP (idxU (.tup [a, b, c, d, .tup ls]) (.int 1) m) Q ↔ Q b m := ok_idxT rfl
          rw [i4]
          simp only [ok_lenT, ok_cmpG, ok_blOf]
          by_cases h30 : ls.length ≤ 30
          · have e1 : decide ((30 : Int) < (ls.length : Int)) = false := decide_eq_false (by omega)
            rw [e1]
            refine ⟨fun z => (nomatch z), fun _ => ?_⟩
            simp only [ok_cLc, ok_cRng1, ok_cCons, ok_cK, ok_cNil, ok_rng1]
            refine ⟨rfl, rfl, lc_pure (us := rangeU 0 4) (f := fun u => !geB 0 ([a, b, c, d].getD (intOf u).toNat .non)) (h := fun _ => .int 1) ?_ ?_⟩
            · intro u hu
              have hu' : u ∈ [U.int 0, .int 1, .int 2, .int 3] := hu
              have go : ∀ (i : Nat) (w : U), u = .int (i : Nat) → [a, b, c, d, U.tup ls][i]? = some w → rdU w = true → [a, b, c, d].getD i .non = w → okP (gName 3 u (wipeU [some (.tup [a, b, c, d, .tup ls]), none, none, none] [3]) m) fun t1 m1 => okO (cNot (cTruth (cCallK 2 0 (fun as _ m => call ("_law_whole", none) as m) (cCons (cBin idxU (cVar 0) (cVar 3)) (cCons (cK (.int 0)) cNil)) cNil)) t1 m1) fun x m2 => x = (!geB 0 ([a, b, c, d].getD (intOf u).toNat .non)) ∧ (x = true → okO (cK (.int 1) t1 m2) fun w m3 => w = .int 1 ∧ m3 = m) ∧ (x = false → m2 = m) := by
                rintro i w rfl hi rw' hg
                simp only [wipeU, List.foldl, List.set_cons_succ, List.set_cons_zero, ok_gName, ok_cNot, ok_cTruth, ok_cCallK, ok_cCons, ok_cBin, ok_cVarS, ok_cVar0, ok_cK, ok_cNil, ok_ixT hi, hW m w _ rw', okO_ok, okT_bl, intOf, Int.toNat_natCast, hg]
                exact ⟨rfl, rfl, trivial, fun _ => ⟨trivial, trivial⟩, fun _ => trivial⟩
              simp only [List.mem_cons, List.not_mem_nil, or_false] at hu'
              rcases hu' with hu' | hu' | hu' | hu'
              · exact go 0 a hu' rfl ha rfl
              · exact go 1 b hu' rfl hb rfl
              · exact go 2 c hu' rfl hc rfl
              · exact go 3 d hu' rfl hd rfl
            simp only [flP, ok_mkFl (us := []) rfl]
            rw [ok_neOnes]
            have en : ((rangeU 0 4).all fun u => !!geB 0 ([a, b, c, d].getD (intOf u).toNat .non)) = (geB 0 a && (geB 0 b && (geB 0 c && geB 0 d))) := by
              show (!!geB 0 a && (!!geB 0 b && (!!geB 0 c && (!!geB 0 d && true)))) = _
              simp only [Bool.not_not, Bool.and_true]
            rw [en, ok_blOf]
            generalize hn : (geB 0 a && (geB 0 b && (geB 0 c && geB 0 d))) = nb
            have es : stateB (.tup [a, b, c, d, .tup ls]) = (nb && (decide (ls.length ≤ 30) && (locksB ls && (riseB 1 (ls.map idOf) && decide (endI 1 (ls.map idOf) ≤ intOf b + 1))))) := by rw [← hn]; rfl
            rw [es, decide_eq_true h30]
            cases nb with
            | false => exact ⟨fun _ => ⟨fun _ => ⟨rfl, rfl⟩, fun z => (nomatch z)⟩, fun z => (nomatch z)⟩
            | true =>
              simp only [Bool.and_eq_true] at hn
              obtain ⟨j, rfl, hj⟩ := ge_int hn.2.1
              refine ⟨fun z => (nomatch z), fun _ => ?_⟩
              simp only [ok_cLc, ok_cIt, ok_cBin, ok_cVar0, ok_cK, i4, ok_itOf_tup]
              have le30 : lineOk (constIt ls).len = true := line_of (show ls.length ≤ 16777216 by omega)
              refine ⟨le30, lc_pure (us := ls) (f := fun u => !lockB u) (h := fun _ => .int 1) ?_ ?_⟩
              · intro u hu
                simp only [wipeU, List.foldl, List.set_cons_succ, List.set_cons_zero, ok_gName, ok_cNot, ok_cTruth, ok_cCallK, ok_cCons, ok_cVarS, ok_cVar0, ok_cK, ok_cNil, hL m u (rl u hu), okO_ok, okT_bl]
                exact ⟨rfl, rfl, trivial, fun _ => ⟨trivial, trivial⟩, fun _ => trivial⟩
              rw [ok_neOnes]
              have el : (ls.all fun u => !!lockB u) = locksB ls := by simp only [Bool.not_not]; rfl
              rw [el, ok_blOf]
              cases hk : locksB ls with
              | false => exact ⟨fun _ => ⟨rfl, rfl⟩, fun z => (nomatch z)⟩
              | true =>
                have lk : ∀ u ∈ ls, lockB u = true := fun u hu => List.all_eq_true.mp hk u hu
                refine ⟨fun z => (nomatch z), fun _ => ?_⟩
                simp only [ok_sAsg, ok_cLc, ok_cIt, ok_cBin, ok_cVar0, ok_cK, i4, ok_itOf_tup]
                refine ⟨le30, lc_pure (us := ls) (f := fun _ => true) (h := fun u => .int (idOf u)) ?_ ?_⟩
                · intro u hu
                  obtain ⟨i, b', c', d', e', rfl, hi⟩ := lock_shape (lk u hu)
                  have i0' : ∀ {Q : U → MH → Prop}, okP (idxU (.tup [.int i, b', c', d', e']) (.int 0) m) Q ↔ Q (.int i) m := ok_idxT rfl
                  simp only [wipeU, List.foldl, List.set_cons_succ, List.set_cons_zero, ok_gName, ok_cYes, ok_cBin, ok_cVarS, ok_cVar0, ok_cK, i0']
                  exact ⟨trivial, fun _ => ⟨rfl, trivial⟩, fun z => (nomatch z)⟩
                rw [ids_map]
                have h1 : ∀ j ∈ ls.map idOf, (1 : Int) ≤ j := by
                  intro j hj
                  obtain ⟨u, hu, rfl⟩ := List.mem_map.mp hj
                  obtain ⟨i, b', c', d', e', rfl, hi⟩ := lock_shape (lk u hu)
                  exact hi
                have hlen : (ls.map idOf).length < 64 := by rw [List.length_map]; omega
                generalize ls.map idOf = ids at h1 hlen
                simp only [flP, ok_gName, List.set_cons_succ, List.set_cons_zero, ok_sSeq, ok_sRet, ok_cAndV, ok_cOrV, ok_cBin, ok_cVarS, ok_cVar0, ok_cFn, ok_cCons, ok_cNil, ok_cUn, ok_cK, ok_neg, ok_biRise hlen, ok_mkFl (us := []) rfl, ok_eqOf (eq_ints _ _), ok_eqOf (eq_ints_nil _), okT_bl, i1]
                have er : decide (ids = riseI ids) = riseB 1 ids := by
                  rw [Bool.eq_iff_iff, decide_eq_true_eq, riseB_pw, eq_comm, riseI_self]
                  exact ⟨fun p => ⟨p, h1⟩, fun p => p.1⟩
                rw [er]
                cases hr : riseB 1 ids with
                | false => simp
                | true =>
                  refine ⟨fun _ => ?_, fun z => (nomatch z)⟩
                  by_cases h0 : ids = []
                  · subst h0
                    refine ⟨fun _ => ⟨?_, trivial⟩, fun z => (nomatch z)⟩
                    have : decide ((1 : Int) ≤ j + 1) = true := decide_eq_true (by omega)
                    show U.bl true = .bl (true && (true && (true && (true && decide ((1 : Int) ≤ j + 1)))))
                    rw [this]
                    rfl
                  · obtain ⟨k, ek, hlast⟩ := endI_last (k := 1) h0
                    have gl : (ids.map U.int).getLast? = some (.int k) := by rw [List.getLast?_map, hlast]; rfl
                    rw [decide_eq_false h0, ek]
                    refine ⟨fun z => (nomatch z), fun _ => ?_⟩
                    rw [ok_idxF (atI_neg1 gl)]
                    refine ⟨?_, rfl⟩
                    show U.bl (decide (k ≤ j)) = .bl (true && (true && (true && (true && decide (k + 1 ≤ j + 1)))))
                    have : decide (k + 1 ≤ j + 1) = decide (k ≤ j) := by
                      rw [Bool.eq_iff_iff]
                      simp
                    rw [this]
                    rfl
          · have e1 : decide ((30 : Int) < (ls.length : Int)) = true := decide_eq_true (by omega)
            have e2 : decide (ls.length ≤ 30) = false := decide_eq_false h30
            rw [e1]
            refine ⟨fun _ => ⟨?_, trivial⟩, fun z => (nomatch z)⟩
            show _ = U.bl ((geB 0 a && (geB 0 b && (geB 0 c && geB 0 d))) && (decide (ls.length ≤ 30) && _))
            rw [e2]
            simp
        | _ => cases et
    · rw [stateB_len hl]
      have : ¬ ((us.length : Int) = 5) := by omega
      simp [isTup, this, ok_lenT]
  | _ => simp [isTup, stateB]
end
end Mi
/-! Qi: locks and states that are drawn. -/
namespace Mi
open PySem PySem.Spec PyProof.Rows L2
set_option linter.unusedVariables false
set_option linter.unusedSimpArgs false
set_option maxRecDepth 10000
set_option exponentiation.threshold 2000
section
variable {T : Tab} {call : CallT} {m : MH} {Q : U → MH → Prop} {t : Env1} {b g N p : Nat}
theorem bag_lt (h : Bag m b g N) : b < m.length ∧ g < m.length := by
  obtain ⟨gs, ls, n, s, h, hn⟩ := h
  exact ⟨get_lt h.hb, get_lt h.hg⟩
theorem bag_push (h : Bag m b g N) (o : MO) : Bag (m ++ [o]) b g N := by
  obtain ⟨gs, ls, n, s, h, hn⟩ := h
  exact ⟨gs, ls, n, s, ⟨by rw [List.getElem?_append_left (get_lt h.hb)]; exact h.hb, by rw [List.getElem?_append_left (get_lt h.hg)]; exact h.hg, h.ne, h.len, h.l0, h.lb, h.n0, h.s0, h.s1⟩, hn⟩
theorem bag_set (h : Bag m b g N) (n1 : p ≠ b) (n2 : p ≠ g) (o : MO) : Bag (m.set p o) b g N := by
  obtain ⟨gs, ls, n, s, h, hn⟩ := h
  exact ⟨gs, ls, n, s, ⟨by rw [List.getElem?_set_ne n1]; exact h.hb, by rw [List.getElem?_set_ne n2]; exact h.hg, h.ne, h.len, h.l0, h.lb, h.n0, h.s0, h.s1⟩, hn⟩
/-- the heap may grow; what stood stands, but for the bag -/
def Fg (b g : Nat) (m m' : MH) : Prop := m.length ≤ m'.length ∧ ∀ i, i < m.length → i ≠ b → i ≠ g → m'[i]? = m[i]?
theorem Fg.refl (b g : Nat) (m : MH) : Fg b g m m := ⟨Nat.le_refl _, fun _ _ _ _ => rfl⟩
theorem Fg.trans {m m1 m2 : MH} (a : Fg b g m m1) (c : Fg b g m1 m2) : Fg b g m m2 :=
  ⟨Nat.le_trans a.1 c.1, fun i h h1 h2 => (c.2 i (Nat.lt_of_lt_of_le h a.1) h1 h2).trans (a.2 i h h1 h2)⟩
theorem Fr.fg {m m' : MH} (h : Fr b g m m') : Fg b g m m' := ⟨Nat.le_of_eq h.1.symm, fun i _ h1 h2 => h.2 i h1 h2⟩
theorem Fg.push {m m' : MH} (h : Fg b g m m') (o : MO) : Fg b g m (m' ++ [o]) :=
  ⟨by rw [List.length_append]; have := h.1; omega, fun i hi h1 h2 => by rw [List.getElem?_append_left (Nat.lt_of_lt_of_le hi h.1)]; exact h.2 i hi h1 h2⟩
theorem Fg.set {m m' : MH} (h : Fg b g m m') (hp : m.length ≤ p) (o : MO) : Fg b g m (m'.set p o) :=
  ⟨by rw [List.length_set]; exact h.1, fun i hi h1 h2 => by rw [List.getElem?_set_ne (by omega)]; exact h.2 i hi h1 h2⟩
theorem eqv_mem (ids : List Int) (k : Int) : ((ids.map U.int).any fun z => PyData.eqv (toD z) (toD (.int k))) = decide (k ∈ ids) := by
  rw [Bool.eq_iff_iff, decide_eq_true_eq, List.any_eq_true]
  constructor
  · rintro ⟨z, hz, e⟩
    obtain ⟨j, hj, rfl⟩ := List.mem_map.mp hz
    have : (j == k) = true := e
    rw [beq_iff_eq] at this
    exact this ▸ hj
  · intro h
    exact ⟨.int k, List.mem_map.mpr ⟨k, h, rfl⟩, show (k == k) = true from beq_self_eq_true k⟩
theorem inB_ints {ids : List Int} {k : Int} (h : m[p]? = some (.lst (ids.map U.int))) : inB (.int k) (.ref p) m = some (decide (k ∈ ids)) := by
  unfold inB seqL
  simp only [h]
  rw [if_pos (show (okD (.int k) && okD (.fl (ids.map U.int))) = true by rw [okD_ints]; rfl), eqv_mem]
theorem ok_ninInts {ids : List Int} {k : Int} (h : m[p]? = some (.lst (ids.map U.int))) : okP (ninU (.int k) (.ref p) m) Q ↔ Q (.bl (!decide (k ∈ ids))) m := by
  unfold ninU
  rw [inB_ints h]
  exact Iff.rfl
theorem ok_inInts {ids : List Int} {k : Int} (h : m[p]? = some (.lst (ids.map U.int))) : okP (inU (.int k) (.ref p) m) Q ↔ Q (.bl (decide (k ∈ ids))) m := by
  unfold inU
  rw [inB_ints h]
  exact Iff.rfl
theorem ok_sortR {ids : List Int} (h : m[p]? = some (.lst (ids.map U.int))) (hl : ids.length ≤ 16777216) : okP (biSorted [.ref p] m) Q ↔ Q (.fl ((sortI ids).map U.int)) m := by
  have e : biSorted [.ref p] m = some (.fl ((sortI ids).map U.int), m) := by
    unfold biSorted seqL
    simp only [h]
    rw [ints_map, Option.bind_some]
    unfold mkFl
    rw [if_pos (line_of (by rw [List.length_map, (sortI_perm ids).length_eq]; exact hl))]
  rw [e]
  exact Iff.rfl
theorem sortI_strict {ids : List Int} (h : ids.Nodup) : (sortI ids).Pairwise (· < ·) := by
  have h1 := sortI_rise ids
  have h2 : (sortI ids).Nodup := (sortI_perm ids).nodup_iff.mpr h
  exact (List.pairwise_and_iff.mpr ⟨h1, h2⟩).imp fun {a b} ⟨h3, h4⟩ => Int.lt_iff_le_and_ne.mpr ⟨h3, h4⟩
/-- locks of numbers below M, ids rising, from 1 to n -/
structure LocksOf (M n : Int) (ls : List U) : Prop where
  rise : (ls.map idOf).Pairwise (· < ·)
  one : ∀ l ∈ ls, ∃ k, 1 ≤ k ∧ k ≤ n ∧ lockOf M k l
theorem lockOf.id {M k : Int} {u : U} (h : lockOf M k u) : idOf u = k := by
  obtain ⟨z, a, s, l, rfl, _⟩ := h
  rfl
def LockC (M : Int) (call : CallT) : Prop := ∀ (m : MH) (b g N : Nat) (k : Int), Bag m b g N → N + 10 < 10 ^ 9 → okO (call ("_law_lock", none) [.ref b, .int k] m) fun v m' => lockOf M k v ∧ Bag m' b g (N + 7) ∧ Fr b g m m'
def LocksC (M : Int) (call : CallT) : Prop := ∀ (m : MH) (b g N most : Nat) (n : Int), Bag m b g N → N + 600 < 10 ^ 9 → most ≤ 40 → 1 ≤ n → n < 10 ^ 50 → okO (call ("_law_locks", none) [.ref b, .int (most : Nat), .int n] m) fun v m' => ∃ ls, v = .tup ls ∧ ls.length ≤ most ∧ LocksOf M n ls ∧ Bag m' b g (N + 1 + 8 * most) ∧ Fg b g m m'
theorem locks_ok {M : Int} (hd : DrawC call) (hk : LockC M call) {most : Nat} {n : Int} (h : Bag m b g N) (hN : N + 600 < 10 ^ 9) (hm : most ≤ 40) (n1 : 1 ≤ n) (n2 : n < 10 ^ 50) :
    okS (P_law_locks T call [some (.ref b), some (.int (most : Nat)), some (.int n), none, none, none] m) (fun _ _ => False) fun v m' => ∃ ls, v = .tup ls ∧ ls.length ≤ most ∧ LocksOf M n ls ∧ Bag m' b g (N + 1 + 8 * most) ∧ Fg b g m m' := by
  unfold P_law_locks
  simp only [ok_sSeq, ok_sAsg, ok_cFn, ok_cNil, ok_mkLst (us := []) rfl, ok_gName, List.set_cons_succ, List.set_cons_zero, ok_sFor, ok_cRng1, ok_cCons, ok_cCallK, ok_cBin, ok_cVar0, ok_cVarS, ok_cK, ok_add]
  have b0 := bag_lt h
  refine ⟨rfl, rfl, okO_mono (hd (m ++ [.lst []]) b g N _ (bag_push h _) (by omega) (by omega) (by omega)) ?_⟩
  rintro v m1 ⟨q, rfl, q0, q1, h1, f1⟩
  rw [ok_rng1]
  have e1 : m1[m.length]? = some (.lst (([] : List Int).map U.int)) := by
    rw [f1.2 m.length (by omega) (by omega), List.getElem?_append_right (Nat.le_refl _), Nat.sub_self]
    rfl
  have f1' : Fg b g m m1 := ((Fg.refl b g m).push _).trans f1.fg
  refine ⟨by unfold rngBd; simp only [Bool.and_eq_true, decide_eq_true_eq]; omega, ok_loop (us := rangeU 0 q.toNat) (fun i t m' => ∃ ids x4 x5, t = [some (.ref b), some (.int (most : Nat)), some (.int n), some (.ref m.length), x4, x5] ∧ Bag m' b g (N + 1 + i) ∧ Fg b g m m' ∧ m'[m.length]? = some (.lst (ids.map U.int)) ∧ ids.length ≤ i ∧ ids.Nodup ∧ ∀ k ∈ ids, 1 ≤ k ∧ k ≤ n) ⟨[], none, none, rfl, h1, f1', e1, Nat.le_refl _, List.nodup_nil, fun k hk => nomatch hk⟩ ?_ ?_⟩
  · rintro i u t m2 hu ⟨ids, x4, x5, rfl, h2, f2, e2, l2, d2, a2⟩
    obtain ⟨rfl, hi⟩ := rng_get hu
    have hi2 : i ≤ 40 := by omega
    simp only [ok_gName, List.set_cons_succ, List.set_cons_zero, ok_sSeq, ok_sAsg, ok_cBin, ok_cK, ok_cCallK, ok_cCons, ok_cVarS, ok_cVar0, ok_cNil]
    refine ⟨rfl, rfl, okO_mono (hd m2 b g _ n h2 (by omega) (by omega) (by omega)) ?_⟩
    rintro v m3 ⟨j, rfl, j0, j1, h3, f3⟩
    have e3 : m3[m.length]? = some (.lst (ids.map U.int)) := by rw [f3.2 m.length (by omega) (by omega)]; exact e2
    have f3' := f2.trans f3.fg
    simp only [ok_add, ok_gName, List.set_cons_succ, List.set_cons_zero, ok_sIf, ok_cIsBl, ok_cBin, ok_cVarS, ok_cVar0, ok_ninInts e3, ok_blOf, ok_sSeq, ok_sNx]
    refine ⟨fun hn => ?_, fun hn => ?_⟩
    · have hn' : (1 + j) ∉ ids := of_decide_eq_false (nB hn)
      rw [ok_sDrop]
      refine ok_meth (n := 1) (kind := "list") (phi := meAppend) rfl ?_
      simp only [ok_cVarS, ok_cVar0, ok_cCons, ok_cNil]
      refine ⟨recv_lst e3, rfl, ?_⟩
      rw [ok_append e3 (line_of (by rw [List.length_map]; omega))]
      refine ⟨ids ++ [1 + j], _, _, rfl, (bag_set h3 (by omega) (by omega) _).up (by omega), f3'.set (Nat.le_refl _) _, ?_, ?_, ?_, ?_⟩
      · rw [get_set e3, List.map_append]
        rfl
      · rw [List.length_append]
        simp
        exact l2
      · rw [List.nodup_append]
        refine ⟨d2, by simp, fun x hx y hy => ?_⟩
        rw [List.mem_singleton.mp hy]
        rintro rfl
        exact hn' hx
      · intro k hk
        rcases List.mem_append.mp hk with hk | hk
        · exact a2 k hk
        · rw [List.mem_singleton.mp hk]; omega
    · exact ⟨ids, _, _, rfl, h3.up (by omega), f3', e3, by omega, d2, a2⟩
  · rintro t m2 ⟨ids, x4, x5, rfl, h2, f2, e2, l2, d2, a2⟩
    rw [rangeU_len] at h2 l2
    have lq : q.toNat ≤ most := by omega
    simp only [ok_sSeq, ok_sRet, ok_cFn, ok_cCons, ok_cLc, ok_cIt, ok_cVarS, ok_cVar0, ok_cNil]
    rw [ok_sortR e2 (by omega), ok_itOf_fl]
    have sl : (sortI ids).length = ids.length := (sortI_perm ids).length_eq
    refine ⟨line_of (by show ((sortI ids).map U.int).length ≤ _; rw [List.length_map]; omega), ok_lc (us := (sortI ids).map U.int) (fun i acc m' => Bag m' b g (N + 1 + q.toNat + 7 * i) ∧ Fg b g m m' ∧ acc.map idOf = (sortI ids).take i ∧ ∀ l ∈ acc, ∃ k, 1 ≤ k ∧ k ≤ n ∧ lockOf M k l) ⟨h2, f2, rfl, fun l hl => nomatch hl⟩ ?_ ?_⟩
    · rintro i u acc m3 hu ⟨h3, f3, p1, p2⟩
      obtain ⟨k, rfl, hk2⟩ := map_get hu
      have hi := (List.getElem?_eq_some_iff.mp hk2).1
      have km : k ∈ ids := (sortI_perm ids).mem_iff.mp (List.mem_of_getElem? hk2)
      simp only [wipeU, List.foldl, List.set_cons_succ, List.set_cons_zero, ok_gName, ok_cYes, ok_cCallK, ok_cCons, ok_cVarS, ok_cVar0, ok_cNil]
      refine ⟨fun _ => ⟨rfl, rfl, okO_mono (hk m3 b g _ k h3 (by omega)) ?_⟩, fun z => (nomatch z)⟩
      rintro v m4 ⟨hv, h4, f4⟩
      refine ⟨h4.up (by omega), f3.trans f4.fg, ?_, ?_⟩
      · rw [List.map_append, p1, List.take_add_one, hk2]
        show _ ++ [idOf v] = _
        rw [hv.id]
        rfl
      · intro l hl
        rcases List.mem_append.mp hl with hl | hl
        · exact p2 l hl
        · rw [List.mem_singleton.mp hl]
          exact ⟨k, (a2 k km).1, (a2 k km).2, hv⟩
    · rintro acc m3 ⟨h3, f3, p1, p2⟩
      rw [List.length_map] at h3 p1
      rw [List.take_of_length_le (Nat.le_refl _)] at p1
      have la : acc.length = ids.length := by
        have := congrArg List.length p1
        rw [List.length_map] at this
        omega
      simp only [flP]
      rw [ok_biTuF (line_of (by omega))]
      exact ⟨acc, rfl, by omega, ⟨p1 ▸ sortI_strict d2, p2⟩, h3.up (by omega), f3⟩
/-- a state of numbers below M, with at most so many locks -/
def stateOf (most : Nat) (M : Int) (u : U) : Prop := ∃ (a n c d : Int) (ls : List U), u = .tup [.int a, .int n, .int c, .int d, .tup ls] ∧ 0 ≤ a ∧ a < M ∧ 0 ≤ n ∧ n < M ∧ 0 ≤ c ∧ c < M ∧ 0 ≤ d ∧ d < M ∧ ls.length ≤ most ∧ LocksOf M n ls
def StateC (M : Int) (call : CallT) : Prop := ∀ (m : MH) (b g N most : Nat), Bag m b g N → N + 900 < 10 ^ 9 → most ≤ 40 → okO (call ("_law_state", none) [.ref b, .int (most : Nat)] m) fun v m' => stateOf most M v ∧ Bag m' b g (N + 20 + 8 * most) ∧ Fg b g m m'
theorem ok_emT {us : List U} (h : ∀ a l, us = a :: l → True) : okP (eqU (.tup us) (.tup []) m) Q ↔ Q (.bl us.isEmpty) m := by
  cases us with
  | nil => exact Iff.rfl
  | cons a l =>
    unfold eqU
    cases e : eqB (.tup (a :: l)) (.tup []) m with
    | none => exact Iff.rfl
    | some x =>
      have : x = false := by
        have e' : (if (okD (.tup (a :: l)) && okD (.tup [])) = true then some (PyData.eqv (toD (.tup (a :: l))) (toD (.tup []))) else none) = some x := e
        split at e'
        · cases e'
          rfl
        · cases e'
      rw [this]
      exact Iff.rfl
theorem state_ok {M : Int} (hM : 60 < M) (hM2 : M ≤ 10 ^ 50) (hd : DrawC call) (hc : CountM M call) (hk : LocksC M call) {most : Nat} (h : Bag m b g N) (hN : N + 900 < 10 ^ 9) (hm : most ≤ 40) :
    okS (P_law_state T call [some (.ref b), some (.int (most : Nat)), none, none] m) (fun _ _ => False) fun v m' => stateOf most M v ∧ Bag m' b g (N + 20 + 8 * most) ∧ Fg b g m m' := by
  unfold P_law_state
  simp only [ok_sSeq, ok_sAsg, ok_cFn, ok_cCons, ok_cNil, ok_cBin, ok_cCallK, ok_cVar0, ok_cVarS, ok_cK]
  refine ⟨rfl, rfl, okO_mono (hd m b g N 60 h (by omega) (by decide) (by decide)) ?_⟩
  rintro v m1 ⟨i1, rfl, i10, i11, h1, f1⟩
  refine ⟨rfl, rfl, okO_mono (hc m1 b g _ h1 (by omega)) ?_⟩
  rintro v m2 ⟨i2, rfl, i20, i21, h2, f2⟩
  rw [ok_mkFl rfl]
  refine ⟨rfl, rfl, okO_mono (hd m2 b g _ 2 h2 (by omega) (by decide) (by decide)) ?_⟩
  rintro v m3 ⟨i3, rfl, i30, i31, h3, f3⟩
  refine ok_ixAny i30 (by simpa using i31) fun u hu => ?_
  obtain ⟨x, rfl, x0, x1⟩ : ∃ x, u = .int x ∧ 0 ≤ x ∧ x < M := by
    rcases List.mem_cons.mp hu with rfl | hu
    · exact ⟨_, rfl, i10, by omega⟩
    · rw [List.mem_singleton.mp hu]; exact ⟨_, rfl, i20, i21⟩
  rw [ok_biMax]
  generalize hy : (if x > 1 then x else 1) = y
  have y0 : 1 ≤ y := by rw [← hy]; split <;> omega
  have y1 : y < M := by rw [← hy]; split <;> omega
  simp only [ok_gName, List.set_cons_succ, List.set_cons_zero, ok_cVar0, ok_cVarS]
  refine ⟨rfl, rfl, okO_mono (hk m3 b g _ most y h3 (by omega) hm y0 (by omega)) ?_⟩
  rintro v m4 ⟨ls, rfl, hl, ho, h4, f4⟩
  simp only [ok_gName, List.set_cons_succ, List.set_cons_zero, ok_sIf, ok_cAnd, ok_cIsBl, ok_cBin, ok_cVar0, ok_cVarS, ok_cFn, ok_cNil, ok_mkTup (us := []) rfl, ok_emT (fun _ _ _ => trivial), ok_blOf, ok_cCallK, ok_cCons, ok_cK]
  have f14 : Fg b g m m4 := ((f1.trans f2).trans f3).fg.trans f4
  have fin : ∀ (m5 : MH) (n : Int) (o : List U → Prop), Bag m5 b g (N + 7 + 8 * most) → Fg b g m m5 → 0 ≤ n → n < M → LocksOf M n ls → okS (sSeq (sRet (cFn mkTup (cCons (cCallK 1 0 (fun as _ m => call ("_law_count", none) as m) (cCons (cVar 0) cNil) cNil) (cCons (cVar 2) (cCons (cCallK 1 0 (fun as _ m => call ("_law_count", none) as m) (cCons (cVar 0) cNil) cNil) (cCons (cCallK 1 0 (fun as _ m => call ("_law_count", none) as m) (cCons (cVar 0) cNil) cNil) (cCons (cVar 3) cNil))))))) sNx [some (.ref b), some (.int (most : Nat)), some (.int n), some (.tup ls)] m5) (fun _ _ => False) fun v m' => stateOf most M v ∧ Bag m' b g (N + 20 + 8 * most) ∧ Fg b g m m' := by
    intro m5 n _ h5 f5 n0 n1 hno
    simp only [ok_sSeq, ok_sRet, ok_cFn, ok_cCons, ok_cNil, ok_cCallK, ok_cVar0, ok_cVarS]
    refine ⟨rfl, rfl, okO_mono (hc m5 b g _ h5 (by omega)) ?_⟩
    rintro v m6 ⟨j1, rfl, j10, j11, h6, f6⟩
    refine ⟨rfl, rfl, okO_mono (hc m6 b g _ h6 (by omega)) ?_⟩
    rintro v m7 ⟨j2, rfl, j20, j21, h7, f7⟩
    refine ⟨rfl, rfl, okO_mono (hc m7 b g _ h7 (by omega)) ?_⟩
    rintro v m8 ⟨j3, rfl, j30, j31, h8, f8⟩
    rw [ok_mkTup rfl]
    exact ⟨⟨_, _, _, _, _, rfl, j10, j11, n0, n1, j20, j21, j30, j31, hl, hno⟩, h8.up (by omega), f5.trans ((f6.trans f7).trans f8).fg⟩
  have fin' : ∀ (m5 : MH) (n : Int), Bag m5 b g (N + 7 + 8 * most) → Fg b g m m5 → 0 ≤ n → n < M → LocksOf M n ls → _ := fun m5 n => fin m5 n fun _ => True
  cases he : ls.isEmpty with
  | true =>
    refine ⟨fun _ => ⟨rfl, rfl, okO_mono (hd m4 b g _ 3 h4 (by omega) (by decide) (by decide)) ?_⟩, fun z => (nomatch z)⟩
    rintro v m5 ⟨i5, rfl, i50, i51, h5, f5⟩
    have ln : ls = [] := List.isEmpty_iff.mp he
    simp only [ok_eqI, ok_blOf, ok_sSeq, ok_sAsg, ok_cK, ok_gName, List.set_cons_succ, List.set_cons_zero, ok_sNx]
    have h5' : Bag m5 b g (N + 7 + 8 * most) := h5.up (by omega)
    have f5' := f14.trans f5.fg
    have z0 : LocksOf M 0 ls := by
      subst ln
      exact ⟨.nil, fun l hl => nomatch hl⟩
    have q1 := fin' m5 0 h5' f5' (Int.le_refl 0) (by omega) z0
    have q2 := fin' m5 y h5' f5' (by omega) y1 ho
    simp only [ok_sSeq] at q1 q2
    exact ⟨fun _ => q1, fun _ => q2⟩
  | false =>
    refine ⟨fun z => (nomatch z), fun _ => ?_⟩
    have q2 := fin' m4 y (h4.up (by omega)) f14 (by omega) y1 ho
    simp only [ok_sSeq] at q2
    exact ⟨fun z => (nomatch z), fun _ => q2⟩
theorem wt_all {W : Nat} : ∀ {ls : List U}, (∀ l ∈ ls, wtU l ≤ W) → wtUs ls ≤ (W + 2) * ls.length
  | [], _ => Nat.zero_le _
  | l :: ls, h => by
    have h1 := h l List.mem_cons_self
    have h2 := wt_all (W := W) (ls := ls) fun x hx => h x (List.mem_cons_of_mem _ hx)
    show wtU l + 2 + wtUs ls ≤ (W + 2) * (ls.length + 1)
    rw [Nat.mul_add]
    omega
theorem LocksOf.th {n : Int} {ls : List U} (h : LocksOf (10 ^ 40) n ls) (hn : n < 10 ^ 40) : ∀ l ∈ ls, Th 8000 0 l ∧ dpU l ≤ 1 := fun l hl => by
  obtain ⟨k, k1, k2, hk⟩ := h.one l hl
  exact th_lock (by omega) (by omega) hk
theorem th_state {most : Nat} {u : U} (hm : most ≤ 40) (h : stateOf most (10 ^ 40) u) : Th 400000 0 u ∧ dpU u ≤ 3 := by
  obtain ⟨a, n, c, d, ls, rfl, a0, a1, n0, n1, c0, c1, d0, d1, hl, ho⟩ := h
  have ht := ho.th n1
  have hB : ∀ j : Int, 0 ≤ j → j < 10 ^ 40 → gdU (10 ^ 41 + 0) (.int j) = true := fun j j0 j1 => decide_eq_true (by omega)
  have w1 : wtUs ls ≤ (8000 + 2) * ls.length := wt_all fun l hl => (ht l hl).1.wt
  have g1 : gdU (10 ^ 41 + 0) (.tup ls) = true := gdUs_iff.mpr fun w hw => (ht w hw).1.gd
  have p1 : dpUs ls ≤ 1 := dpUs_le.mpr fun w hw => (ht w hw).2
  have dd : dpU (.tup [.int a, .int n, .int c, .int d, .tup ls]) ≤ 3 := by
    show max 0 (max 0 (max 0 (max 0 (max (dpUs ls + 1) 0)))) + 1 ≤ 3
    omega
  refine ⟨⟨gdUs_iff.mpr fun w hw => ?_, ?_, by omega⟩, dd⟩
  · simp only [List.mem_cons, List.not_mem_nil, or_false] at hw
    rcases hw with rfl | rfl | rfl | rfl | rfl
    · exact hB _ a0 a1
    · exact hB _ n0 n1
    · exact hB _ c0 c1
    · exact hB _ d0 d1
    · exact g1
  · show (1921 + 2 + (1921 + 2 + (1921 + 2 + (1921 + 2 + ((wtUs ls + 6) + 2 + 0))))) + 6 ≤ 400000 * 5 ^ 0
    have : (8000 + 2) * ls.length ≤ (8000 + 2) * 40 := Nat.mul_le_mul_left _ (by omega)
    omega
end
end Mi
/-! Qj: steps: what the looks tell, and how they are drawn. -/
namespace Mi
open PySem PySem.Spec PyProof.Rows L2
set_option linter.unusedVariables false
set_option linter.unusedSimpArgs false
set_option maxRecDepth 10000
set_option exponentiation.threshold 2000
section
variable {T : Tab} {call : CallT} {m : MH} {Q : U → MH → Prop} {t : Env1} {b g N : Nat}
def payB : List U → Bool
  | [a, b] => sideB a && geB 1 b
  | _ => false
def lokB : List U → Bool
  | [a, b, c, d] => lockB (.tup [.int 1, a, b, c, d])
  | _ => false
def folB : List U → Bool
  | [a, b] => geB 1 a && geB 0 b
  | _ => false
def droB : List U → Bool
  | [a] => geB 1 a
  | _ => false
def stepB : U → Bool
  | .tup (.str w :: r) => if w = "pay" then payB r else if w = "lock" then lokB r else if w = "fold" then folB r else if w = "drop" then droB r else decide (w = "pass") && r.isEmpty
  | _ => false
theorem len1 {α : Type} {us : List α} (h : us.length = 1) : ∃ a, us = [a] := match us, h with
  | [a], _ => ⟨a, rfl⟩
theorem len2 {α : Type} {us : List α} (h : us.length = 2) : ∃ a b, us = [a, b] := match us, h with
  | [a, b], _ => ⟨a, b, rfl⟩
theorem len4 {α : Type} {us : List α} (h : us.length = 4) : ∃ a b c d, us = [a, b, c, d] := match us, h with
  | [a, b, c, d], _ => ⟨a, b, c, d, rfl⟩
theorem payB_len {r : List U} (h : r.length ≠ 2) : payB r = false := by
  match r, h with
  | [], _ => rfl
  | [_], _ => rfl
  | [_, _], h => exact absurd rfl h
  | _ :: _ :: _ :: _, _ => rfl
theorem folB_len {r : List U} (h : r.length ≠ 2) : folB r = false := by
  match r, h with
  | [], _ => rfl
  | [_], _ => rfl
  | [_, _], h => exact absurd rfl h
  | _ :: _ :: _ :: _, _ => rfl
theorem droB_len {r : List U} (h : r.length ≠ 1) : droB r = false := by
  match r, h with
  | [], _ => rfl
  | [_], h => exact absurd rfl h
  | _ :: _ :: _, _ => rfl
theorem lokB_len {r : List U} (h : r.length ≠ 4) : lokB r = false := by
  match r, h with
  | [], _ => rfl
  | [_], _ => rfl
  | [_, _], _ => rfl
  | [_, _, _], _ => rfl
  | [_, _, _, _], h => exact absurd rfl h
  | _ :: _ :: _ :: _ :: _ :: _, _ => rfl
def StepK (call : CallT) : Prop := ∀ m u, rdU u = true → call ("is_step", none) [u] m = .ok (.bl (stepB u)) m
def LStepK (call : CallT) : Prop := ∀ m u, rdU u = true → call ("_law_is_step", none) [u] m = .ok (.bl (stepB u)) m
theorem ok_emF {us : List U} : okP (eqU (.fl us) (.fl []) m) Q ↔ Q (.bl us.isEmpty) m := by
  cases us with
  | nil => exact Iff.rfl
  | cons a l =>
    unfold eqU
    cases e : eqB (.fl (a :: l)) (.fl []) m with
    | none => exact Iff.rfl
    | some x =>
      have : x = false := by
        have e' : (if (okD (.fl (a :: l)) && okD (.fl [])) = true then some (PyData.eqv (toD (.fl (a :: l))) (toD (.fl []))) else none) = some x := e
        split at e'
        · cases e'
          rfl
        · cases e'
      rw [this]
      exact Iff.rfl
theorem stepB_ns {a : U} {r : List U} (h : isStr a = false) : stepB (.tup (a :: r)) = false := by
  cases a <;> first | rfl | cases h
theorem rd_cons {a : U} {r : List U} (h : rdUs (a :: r) = true) : rdU a = true ∧ rdUs r = true := by
  have h' : (rdU a && rdUs r) = true := h
  rw [Bool.and_eq_true] at h'
  exact h'
theorem rd_one {r : List U} (h : rdUs r = true) : rdU (.tup (.int 1 :: r)) = true := by
  show (true && rdUs r) = true
  rw [h]
  rfl
theorem lenN {α : Type} {r : List α} {k : Nat} (h : r.length ≠ k) : decide ((r.length : Int) = (k : Nat)) = false := decide_eq_false (by omega)
theorem lenN1 {α : Type} {a : α} {r : List α} {k : Nat} (h : r.length ≠ k) : decide (((a :: r).length : Int) = ((k + 1 : Nat) : Int)) = false := decide_eq_false (by rw [List.length_cons]; omega)
theorem step_eq (hL : LockK call) (hA : AmountK call) (hS : SideK call) (hC : CountK call) {u : U} (h : rdU u = true) : P_is_step T call [some u, none, none] m = .rt (.bl (stepB u)) m := by
  refine rt_of ?_
  unfold P_is_step
  simp only [ok_sSeq, ok_sIf, ok_cOr, ok_cNot, ok_cTruth, ok_cFn, ok_cCons, ok_cVar0, ok_cNil, ok_cK, ok_isaTup h, okT_bl, ok_cIsBl, ok_cBin, ok_sRet, ok_sNx]
  cases u with
  | tup us =>
    refine ⟨fun z => (nomatch z), fun _ => ?_⟩
    simp only [ok_mkTup (us := []) rfl, ok_emT (fun _ _ _ => trivial), ok_blOf]
    cases us with
    | nil => exact ⟨fun _ => ⟨fun _ => ⟨rfl, trivial⟩, fun z => (nomatch z)⟩, fun z => (nomatch z)⟩
    | cons a r =>
      refine ⟨fun z => (nomatch z), fun _ => ?_⟩
      obtain ⟨ha, hr⟩ := rd_cons (show rdUs (a :: r) = true from h)
      have i0 : ∀ {Q : U → MH → Prop}, okP (idxU (.tup (a :: r)) (.int 0) m) Q ↔ Q a m := ok_idxT atI_0
      rw [i0, ok_isaStr ha, okT_bl]
      cases es : isStr a with
      | false =>
        rw [stepB_ns es]
        exact ⟨fun _ => ⟨rfl, rfl⟩, fun z => (nomatch z)⟩
      | true =>
        refine ⟨fun z => (nomatch z), fun _ => ?_⟩
        cases a with
        | str w =>
          have st : starU 1 2 (.str w :: r) = [.str w, .fl r] := by
            unfold starU
            simp
          have hl : ([gName 1, gName 2] : List G1).length = 2 := rfl
          simp only [ok_sAsg, ok_cVar0, ok_gStar]
          rw [hl, st]
          refine ⟨⟨by decide, by rw [List.length_cons]; omega⟩, ?_⟩
          simp only [ok_gAllS, ok_gAll0, ok_gName, List.set_cons_succ, List.set_cons_zero, ok_sSeq, ok_sIf, ok_cIsBl, ok_cBin, ok_cVarS, ok_cVar0, ok_cK, ok_eqS, ok_blOf, ok_sRet, ok_cAndV, ok_cFn, ok_cCons, ok_cNil, ok_lenF, ok_eqI, okT_bl, ok_cCallK, ok_mkTup (us := [U.int 1]) rfl, ok_mkFl (us := []) rfl, ok_emF, ok_sNx]
          have rm := rd_mem hr
          have e0 : stepB (.tup (.str w :: r)) = if w = "pay" then payB r else if w = "lock" then lokB r else if w = "fold" then folB r else if w = "drop" then droB r else decide (w = "pass") && r.isEmpty := rfl
          rw [e0]
          refine ⟨fun hw => ?_, fun hw => ?_⟩
          · rw [if_pos (of_decide_eq_true hw)]
            by_cases h2 : r.length = 2
            · obtain ⟨p, q, rfl⟩ := len2 h2
              have j0 : ∀ {Q : U → MH → Prop}, okP (idxU (.fl [p, q]) (.int 0) m) Q ↔ Q p m := ok_idxF rfl
              have j1 : ∀ {Q : U → MH → Prop}, okP (idxU (.fl [p, q]) (.int 1) m) Q ↔ Q q m := ok_idxF rfl
              have rp := rm p (by simp)
              have rq := rm q (by simp)
              refine ⟨fun _ => ?_, fun z => (nomatch z)⟩
              rw [j0]
              simp only [hS m p rp, okO_ok, okT_bl, j1, hA m q rq]
              show _ ∧ _ ∧ (_ → _ ∧ _ ∧ U.bl (geB 1 q) = .bl (sideB p && geB 1 q) ∧ _) ∧ (_ → U.bl (sideB p) = .bl (sideB p && geB 1 q) ∧ _)
              cases sideB p <;> simp
            · rw [payB_len h2, show decide ((r.length : Int) = 2) = false from lenN h2]
              exact ⟨fun z => (nomatch z), fun _ => ⟨rfl, trivial⟩⟩
          rw [if_neg (of_decide_eq_false hw)]
          refine ⟨fun hw2 => ?_, fun hw2 => ?_⟩
          · rw [if_pos (of_decide_eq_true hw2)]
            by_cases h2 : r.length = 4
            · have tl : okP (biTuple [.fl r] m) (fun u m1 => okP (addU (.tup [.int 1]) u m1) fun u m1 => okO (call ("is_lock", none) [u] m1) fun v m' => v = .bl (lokB r) ∧ m' = m) := by
                rw [ok_biTuF (line_of (by omega)), ok_addT (line_of (by simp; omega))]
                show okO (call ("is_lock", none) [.tup (.int 1 :: r)] m) _
                rw [hL m _ (rd_one hr)]
                obtain ⟨a1, a2, a3, a4, rfl⟩ := len4 h2
                exact ⟨rfl, rfl⟩
              rw [show decide ((r.length : Int) = 4) = true from decide_eq_true (by omega)]
              refine ⟨fun _ => okP_mono tl fun u m1 k => okP_mono k fun u m1 k => ⟨rfl, rfl, k⟩, fun z => (nomatch z)⟩
            · rw [lokB_len h2, show decide ((r.length : Int) = 4) = false from lenN h2]
              exact ⟨fun z => (nomatch z), fun _ => ⟨rfl, trivial⟩⟩
          rw [if_neg (of_decide_eq_false hw2)]
          refine ⟨fun hw3 => ?_, fun hw3 => ?_⟩
          · rw [if_pos (of_decide_eq_true hw3)]
            by_cases h2 : r.length = 2
            · obtain ⟨p, q, rfl⟩ := len2 h2
              have j0 : ∀ {Q : U → MH → Prop}, okP (idxU (.fl [p, q]) (.int 0) m) Q ↔ Q p m := ok_idxF rfl
              have j1 : ∀ {Q : U → MH → Prop}, okP (idxU (.fl [p, q]) (.int 1) m) Q ↔ Q q m := ok_idxF rfl
              have rp := rm p (by simp)
              have rq := rm q (by simp)
              refine ⟨fun _ => ?_, fun z => (nomatch z)⟩
              rw [j0]
              simp only [hA m p rp, okO_ok, okT_bl, j1, hC m q rq]
              show _ ∧ _ ∧ (_ → _ ∧ _ ∧ U.bl (geB 0 q) = .bl (geB 1 p && geB 0 q) ∧ _) ∧ (_ → U.bl (geB 1 p) = .bl (geB 1 p && geB 0 q) ∧ _)
              cases geB 1 p <;> simp
            · rw [folB_len h2, show decide ((r.length : Int) = 2) = false from lenN h2]
              exact ⟨fun z => (nomatch z), fun _ => ⟨rfl, trivial⟩⟩
          rw [if_neg (of_decide_eq_false hw3)]
          refine ⟨fun hw4 => ?_, fun hw4 => ?_⟩
          · rw [if_pos (of_decide_eq_true hw4)]
            by_cases h2 : r.length = 1
            · obtain ⟨p, rfl⟩ := len1 h2
              have j0 : ∀ {Q : U → MH → Prop}, okP (idxU (.fl [p]) (.int 0) m) Q ↔ Q p m := ok_idxF rfl
              refine ⟨fun _ => ?_, fun z => (nomatch z)⟩
              rw [j0]
              simp only [hA m p (rm p (by simp)), okO_ok]
              exact ⟨rfl, rfl, rfl, trivial⟩
            · rw [droB_len h2, show decide ((r.length : Int) = 1) = false from lenN h2]
              exact ⟨fun z => (nomatch z), fun _ => ⟨rfl, trivial⟩⟩
          rw [if_neg (of_decide_eq_false hw4)]
          cases decide (w = "pass") <;> simp
        | _ => cases es
  | _ => simp [isTup, stepB]
theorem eq_pass {w : Str} {r : List U} (h : okD (.tup (.str w :: r)) = true) : eqB (.tup (.str w :: r)) (.tup [.str "pass"]) m = some (decide (w = "pass") && r.isEmpty) := by
  have e1 : PyData.eqv (toD (.tup (.str w :: r))) (toD (.tup [.str "pass"])) = ((w == ("pass" : Str)) && PyData.eqvAll (toDs r) []) := rfl
  unfold eqB
  show (if (okD (.tup (.str w :: r)) && okD (.tup [.str "pass"])) = true then some (PyData.eqv (toD (.tup (.str w :: r))) (toD (.tup [.str "pass"]))) else none) = _
  rw [h, if_pos (show (true && okD (.tup [.str "pass"])) = true by kernel_rfl), e1]
  have e2 : (w == ("pass" : Str)) = decide (w = "pass") := by rw [Bool.eq_iff_iff]; simp
  have e3 : PyData.eqvAll (toDs r) [] = r.isEmpty := by cases r <;> rfl
  rw [e2, e3]
theorem ok_eqPass {w : Str} {r : List U} : okP (eqU (.tup (.str w :: r)) (.tup [.str "pass"]) m) Q ↔ Q (.bl (decide (w = "pass") && r.isEmpty)) m := by
  by_cases h : okD (.tup (.str w :: r)) = true
  · exact ok_eqOf (eq_pass h)
  · have e : eqB (.tup (.str w :: r)) (.tup [.str "pass"]) m = none := by
      unfold eqB
      show (if (okD (.tup (.str w :: r)) && okD (.tup [.str "pass"])) = true then some (PyData.eqv (toD (.tup (.str w :: r))) (toD (.tup [.str "pass"]))) else none) = none
      rw [if_neg]
      intro z
      exact h (Bool.and_eq_true _ _ ▸ z : _ ∧ _).1
    unfold eqU
    rw [e]
    exact Iff.rfl
theorem cut_tail (a : U) (r : List U) : cutU (a :: r) (some 1) none = r := by
  unfold cutU
  simp [HT.sIx]
theorem lstep_eq (hW : LWholeK call) (hL : LLockK call) {u : U} (h : rdU u = true) : P_law_is_step T call [some u] m = .rt (.bl (stepB u)) m := by
  refine rt_of ?_
  unfold P_law_is_step
  simp only [ok_sSeq, ok_sIf, ok_cOr, ok_cNot, ok_cTruth, ok_cFn, ok_cCons, ok_cVar0, ok_cNil, ok_cK, ok_isaTup h, okT_bl, ok_cIsBl, ok_cBin, ok_sRet, ok_sNx]
  cases u with
  | tup us =>
    refine ⟨fun z => (nomatch z), fun _ => ?_⟩
    simp only [ok_mkTup (us := []) rfl, ok_emT (fun _ _ _ => trivial), ok_blOf]
    cases us with
    | nil => exact ⟨fun _ => ⟨fun _ => ⟨rfl, trivial⟩, fun z => (nomatch z)⟩, fun z => (nomatch z)⟩
    | cons a r =>
      refine ⟨fun z => (nomatch z), fun _ => ?_⟩
      obtain ⟨ha, hr⟩ := rd_cons (show rdUs (a :: r) = true from h)
      have i0 : ∀ {Q : U → MH → Prop}, okP (idxU (.tup (a :: r)) (.int 0) m) Q ↔ Q a m := ok_idxT atI_0
      rw [i0, ok_isaStr ha, okT_bl]
      cases es : isStr a with
      | false =>
        rw [stepB_ns es]
        exact ⟨fun _ => ⟨rfl, rfl⟩, fun z => (nomatch z)⟩
      | true =>
        refine ⟨fun z => (nomatch z), fun _ => ?_⟩
        cases a with
        | str w =>
          simp only [i0, ok_cVarS, ok_cVar0, ok_cK, ok_eqS, ok_blOf, ok_sRet, ok_cAndV, ok_cFn, ok_cCons, ok_cNil, ok_lenT, ok_eqI, okT_bl, ok_cCallK, ok_mkTup (us := [U.int 1]) rfl, ok_mkTup (us := [U.str "pass"]) rfl, ok_sNx, ok_cBin, ok_cSlice, ok_cPart_none, ok_cPart_some, okI_int, ok_slcT, ok_sSeq, ok_sIf, ok_cIsBl]
          have rm := rd_mem hr
          have e0 : stepB (.tup (.str w :: r)) = if w = "pay" then payB r else if w = "lock" then lokB r else if w = "fold" then folB r else if w = "drop" then droB r else decide (w = "pass") && r.isEmpty := rfl
          rw [e0]
          refine ⟨fun hw => ?_, fun hw => ?_⟩
          · rw [if_pos (of_decide_eq_true hw)]
            by_cases h2 : r.length = 2
            · obtain ⟨p, q, rfl⟩ := len2 h2
              have j1 : ∀ {Q : U → MH → Prop}, okP (idxU (.tup [.str w, p, q]) (.int 1) m) Q ↔ Q p m := ok_idxT rfl
              have j2 : ∀ {Q : U → MH → Prop}, okP (idxU (.tup [.str w, p, q]) (.int 2) m) Q ↔ Q q m := ok_idxT rfl
              have rp := rm p (by simp)
              have rq := rm q (by simp)
              refine ⟨fun _ => ?_, fun z => (nomatch z)⟩
              have rl : rdU (.tup [.int 1, p, q, .int 0, .int 0]) = true := by
                show (true && (rdU p && (rdU q && (true && (true && true))))) = true
                rw [rp, rq]
                rfl
              have el : lockB (.tup [.int 1, p, q, .int 0, .int 0]) = (sideB p && geB 1 q) := by
                show (true && (sideB p && (geB 1 q && (true && true)))) = _
                simp
              rw [j1, j2, ok_mkTup rfl, hL m _ rl]
              exact ⟨rfl, rfl, congrArg U.bl el, rfl⟩
            · rw [payB_len h2, show decide ((((.str w : U) :: r).length : Int) = 3) = false from lenN1 h2]
              exact ⟨fun z => (nomatch z), fun _ => ⟨rfl, trivial⟩⟩
          rw [if_neg (of_decide_eq_false hw)]
          refine ⟨fun hw2 => ?_, fun hw2 => ?_⟩
          · rw [if_pos (of_decide_eq_true hw2)]
            have ec : cutU (.str w :: r) (some 1) none = r := by
              have := cut_tail (.str w) r
              exact this
            by_cases h2 : r.length = 4
            · rw [show decide ((((.str w : U) :: r).length : Int) = 5) = true from decide_eq_true (by rw [List.length_cons]; omega), ec, ok_addT (line_of (by simp; omega))]
              refine ⟨fun _ => ⟨rfl, rfl, ?_⟩, fun z => (nomatch z)⟩
              show okO (call ("_law_is_lock", none) [.tup (.int 1 :: r)] m) _
              rw [hL m _ (rd_one hr)]
              obtain ⟨a1, a2, a3, a4, rfl⟩ := len4 h2
              exact ⟨rfl, rfl⟩
            · rw [lokB_len h2, show decide ((((.str w : U) :: r).length : Int) = 5) = false from lenN1 h2]
              exact ⟨fun z => (nomatch z), fun _ => ⟨rfl, trivial⟩⟩
          rw [if_neg (of_decide_eq_false hw2)]
          refine ⟨fun hw3 => ?_, fun hw3 => ?_⟩
          · rw [if_pos (of_decide_eq_true hw3)]
            by_cases h2 : r.length = 2
            · obtain ⟨p, q, rfl⟩ := len2 h2
              have j1 : ∀ {Q : U → MH → Prop}, okP (idxU (.tup [.str w, p, q]) (.int 1) m) Q ↔ Q p m := ok_idxT rfl
              have j2 : ∀ {Q : U → MH → Prop}, okP (idxU (.tup [.str w, p, q]) (.int 2) m) Q ↔ Q q m := ok_idxT rfl
              have rp := rm p (by simp)
              have rq := rm q (by simp)
              refine ⟨fun _ => ?_, fun z => (nomatch z)⟩
              rw [j1]
              simp only [hW m p _ rp, okO_ok, okT_bl, j2, hW m q _ rq]
              show _ ∧ _ ∧ (_ → _ ∧ _ ∧ U.bl (geB 0 q) = .bl (geB 1 p && geB 0 q) ∧ _) ∧ (_ → U.bl (geB 1 p) = .bl (geB 1 p && geB 0 q) ∧ _)
              cases geB 1 p <;> simp
            · rw [folB_len h2, show decide ((((.str w : U) :: r).length : Int) = 3) = false from lenN1 h2]
              exact ⟨fun z => (nomatch z), fun _ => ⟨rfl, trivial⟩⟩
          rw [if_neg (of_decide_eq_false hw3)]
          refine ⟨fun hw4 => ?_, fun hw4 => ?_⟩
          · rw [if_pos (of_decide_eq_true hw4)]
            by_cases h2 : r.length = 1
            · obtain ⟨p, rfl⟩ := len1 h2
              have j1 : ∀ {Q : U → MH → Prop}, okP (idxU (.tup [.str w, p]) (.int 1) m) Q ↔ Q p m := ok_idxT rfl
              refine ⟨fun _ => ?_, fun z => (nomatch z)⟩
              rw [j1]
              simp only [hW m p _ (rm p (by simp)), okO_ok]
              exact ⟨rfl, rfl, rfl, trivial⟩
            · rw [droB_len h2, show decide ((((.str w : U) :: r).length : Int) = 2) = false from lenN1 h2]
              exact ⟨fun z => (nomatch z), fun _ => ⟨rfl, trivial⟩⟩
          rw [if_neg (of_decide_eq_false hw4)]
          rw [ok_eqPass]
          exact ⟨rfl, rfl⟩
        | _ => cases es
  | _ => simp [isTup, stepB]
/-- a step that is drawn -/
structure StepOf (M : Int) (u : U) : Prop where
  gd : gdU (10 ^ 41) u = true
  wt : wtU u ≤ 10000
  dp : dpU u ≤ 1
def StepC (M : Int) (call : CallT) : Prop := ∀ (m : MH) (b g N : Nat), Bag m b g N → N + 20 < 10 ^ 9 → okO (call ("_law_step", none) [.ref b] m) fun v m' => StepOf M v ∧ Bag m' b g (N + 10) ∧ Fr b g m m'
theorem ok_ixIn {us : List U} {i : Int} (h0 : 0 ≤ i) (h1 : i < us.length) (h : ∀ u ∈ us, Q u m) : okP (idxU (.fl us) (.int i) m) Q := ok_ixAny h0 h1 h
theorem word_ok {w : Str} (hw : w ∈ (["pay", "lock", "fold", "drop", "pass"] : List Str) ∨ w ∈ (["left", "right"] : List Str)) : ascB w = true ∧ w.length ≤ 5 := by
  have h : ((["pay", "lock", "fold", "drop", "pass", "left", "right"] : List Str).all fun w => ascB w && decide (w.length ≤ 5)) = true := by kernel_rfl
  have hm : w ∈ (["pay", "lock", "fold", "drop", "pass", "left", "right"] : List Str) := by
    simp only [List.mem_cons, List.not_mem_nil, or_false] at hw ⊢
    rcases hw with (hw | hw | hw | hw | hw) | hw | hw <;> simp [hw]
  have := List.all_eq_true.mp h w hm
  rw [Bool.and_eq_true, decide_eq_true_eq] at this
  exact this
def partU (u : U) : Prop := (∃ i : Int, u = .int i ∧ 0 ≤ i ∧ i < 10 ^ 40) ∨ ∃ w, u = .str w ∧ ascB w = true ∧ w.length ≤ 5
theorem parts_ok {us : List U} {M : Int} (hl : us.length ≤ 5) (h : ∀ u ∈ us, partU u) : StepOf M (.tup us) := by
  have one : ∀ u ∈ us, gdU (10 ^ 41) u = true ∧ wtU u ≤ 1921 ∧ dpU u ≤ 0 := by
    intro u hu
    rcases h u hu with ⟨i, rfl, i0, i1⟩ | ⟨w, rfl, w0, w1⟩
    · exact ⟨decide_eq_true (by omega), Nat.le_refl _, Nat.le_refl _⟩
    · exact ⟨w0, by show 10 * w.length + 2 ≤ 1921; omega, Nat.le_refl _⟩
  refine ⟨gdUs_iff.mpr fun u hu => (one u hu).1, ?_, ?_⟩
  · have w1 : wtUs us ≤ (1921 + 2) * us.length := wt_all fun u hu => (one u hu).2.1
    have w2 : (1921 + 2) * us.length ≤ (1921 + 2) * 5 := Nat.mul_le_mul_left _ hl
    show wtUs us + 6 ≤ 10000
    omega
  · have := dpUs_le.mpr fun u hu => (one u hu).2.2
    show dpUs us + 1 ≤ 1
    omega
theorem step_ok (hd : DrawC call) (hc : CountM (10 ^ 40) call) (h : Bag m b g N) (hN : N + 20 < 10 ^ 9) :
    okS (P_law_step T call [some (.ref b), none, none] m) (fun _ _ => False) fun v m' => StepOf (10 ^ 40) v ∧ Bag m' b g (N + 10) ∧ Fr b g m m' := by
  unfold P_law_step
  simp only [ok_sSeq, ok_sAsg, ok_cBin, ok_cFn, ok_cCallK, ok_cCons, ok_cVar0, ok_cK, ok_cNil, ok_mkFl (us := [U.str "pay", U.str "lock", U.str "fold", U.str "drop", U.str "pass"]) rfl, ok_mkFl (us := [U.str "left", U.str "right"]) rfl]
  refine ⟨rfl, rfl, okO_mono (hd m b g N 5 h (by omega) (by decide) (by decide)) ?_⟩
  rintro v m1 ⟨i, rfl, i0, i1, h1, f1⟩
  refine ok_ixAny i0 (by simpa using i1) fun u hu => ?_
  obtain ⟨w, rfl, hw⟩ : ∃ w, u = .str w ∧ w ∈ (["pay", "lock", "fold", "drop", "pass"] : List Str) := by
    simp only [List.mem_cons, List.not_mem_nil, or_false] at hu
    rcases hu with rfl | rfl | rfl | rfl | rfl <;> exact ⟨_, rfl, by simp⟩
  simp only [ok_gName, List.set_cons_succ, List.set_cons_zero, ok_cVar0]
  refine ⟨rfl, rfl, okO_mono (hd m1 b g _ 2 h1 (by omega) (by decide) (by decide)) ?_⟩
  rintro v m2 ⟨i2, rfl, i20, i21, h2, f2⟩
  refine ok_ixAny i20 (by simpa using i21) fun u hu => ?_
  obtain ⟨y, rfl, hy⟩ : ∃ y, u = .str y ∧ y ∈ (["left", "right"] : List Str) := by
    simp only [List.mem_cons, List.not_mem_nil, or_false] at hu
    rcases hu with rfl | rfl <;> exact ⟨_, rfl, by simp⟩
  have pw : partU (.str w) := .inr ⟨w, rfl, word_ok (.inl hw)⟩
  have py : partU (.str y) := .inr ⟨y, rfl, word_ok (.inr hy)⟩
  have pi : ∀ k : Int, 0 ≤ k → k < 10 ^ 40 → partU (.int k) := fun k k0 k1 => .inl ⟨k, rfl, k0, k1⟩
  have pm : ∀ k : Int, 0 ≤ k → k < 10 ^ 40 → partU (.int (if k > 1 then k else 1)) := fun k k0 k1 => .inl ⟨_, rfl, by split <;> omega, by split <;> omega⟩
  have f12 := f1.trans f2
  simp only [ok_gName, List.set_cons_succ, List.set_cons_zero, ok_sIf, ok_cIsBl, ok_cBin, ok_cVar0, ok_cVarS, ok_cK, ok_eqS, ok_blOf, ok_sSeq, ok_sRet, ok_sNx, ok_cFn, ok_cCons, ok_cNil, ok_cCallK, ok_cIf]
  have one : ∀ {Q : U → MH → Prop}, (∀ k m3, 0 ≤ k → k < 10 ^ 40 → Bag m3 b g (N + 4) → Fr b g m m3 → Q (.int k) m3) → okO (call ("_law_count", none) [.ref b] m2) Q := fun q => by
    refine okO_mono (hc m2 b g _ h2 (by omega)) ?_
    rintro v m3 ⟨k, rfl, k0, k1, h3, f3⟩
    exact q k m3 k0 k1 (h3.up (by omega)) (f12.trans f3)
  have two : ∀ {m3 : MH} {Q : U → MH → Prop}, Bag m3 b g (N + 4) → Fr b g m m3 → (∀ k m4, 0 ≤ k → k < 10 ^ 40 → Bag m4 b g (N + 6) → Fr b g m m4 → Q (.int k) m4) → okO (call ("_law_count", none) [.ref b] m3) Q := fun h3 f3 q => by
    refine okO_mono (hc _ b g _ h3 (by omega)) ?_
    rintro v m4 ⟨k, rfl, k0, k1, h4, f4⟩
    exact q k m4 k0 k1 (h4.up (by omega)) (f3.trans f4)
  have thr : ∀ {m3 : MH} {Q : U → MH → Prop}, Bag m3 b g (N + 6) → Fr b g m m3 → (∀ k m4, 0 ≤ k → k < 10 ^ 40 → Bag m4 b g (N + 8) → Fr b g m m4 → Q (.int k) m4) → okO (call ("_law_count", none) [.ref b] m3) Q := fun h3 f3 q => by
    refine okO_mono (hc _ b g _ h3 (by omega)) ?_
    rintro v m4 ⟨k, rfl, k0, k1, h4, f4⟩
    exact q k m4 k0 k1 (h4.up (by omega)) (f3.trans f4)
  refine ⟨fun _ => ⟨rfl, rfl, one fun k m3 k0 k1 h3 f3 => ?_⟩, fun _ => ⟨fun _ => ⟨rfl, rfl, one fun k m3 k0 k1 h3 f3 => ?_⟩, fun _ => ⟨fun _ => ⟨rfl, rfl, one fun k m3 k0 k1 h3 f3 => ?_⟩, fun _ => ⟨fun _ => ⟨rfl, rfl, one fun k m3 k0 k1 h3 f3 => ?_⟩, fun _ => ?_⟩⟩⟩⟩
  · rw [ok_biMax, ok_mkTup rfl]
    exact ⟨parts_ok (by simp) fun u hu => by
      simp only [List.mem_cons, List.not_mem_nil, or_false] at hu
      rcases hu with rfl | rfl | rfl
      · exact pw
      · exact py
      · exact pm k k0 k1, h3.up (by omega), f3⟩
  · rw [ok_biMax]
    refine ⟨rfl, rfl, two h3 f3 fun j m4 j0 j1 h4 f4 => ⟨rfl, rfl, thr h4 f4 fun l m5 l0 l1 h5 f5 => ?_⟩⟩
    rw [ok_mkTup rfl]
    exact ⟨parts_ok (by simp) fun u hu => by
      simp only [List.mem_cons, List.not_mem_nil, or_false] at hu
      rcases hu with rfl | rfl | rfl | rfl | rfl
      · exact pw
      · exact py
      · exact pm k k0 k1
      · exact pi j j0 j1
      · exact pi l l0 l1, h5.up (by omega), f5⟩
  · rw [ok_biMax]
    refine ⟨rfl, rfl, two h3 f3 fun j m4 j0 j1 h4 f4 => ?_⟩
    rw [ok_mkTup rfl]
    exact ⟨parts_ok (by simp) fun u hu => by
      simp only [List.mem_cons, List.not_mem_nil, or_false] at hu
      rcases hu with rfl | rfl | rfl
      · exact pw
      · exact pm k k0 k1
      · exact pi j j0 j1, h4.up (by omega), f4⟩
  · rw [ok_biMax, ok_mkTup rfl]
    exact ⟨parts_ok (by simp) fun u hu => by
      simp only [List.mem_cons, List.not_mem_nil, or_false] at hu
      rcases hu with rfl | rfl
      · exact pw
      · exact pm k k0 k1, h3.up (by omega), f3⟩
  · rw [ok_mkTup rfl]
    exact ⟨parts_ok (by simp) fun u hu => by
      simp only [List.mem_cons, List.not_mem_nil, or_false] at hu
      rcases hu with rfl
      exact pw, h2.up (by omega), f12⟩
theorem StepOf.th {M : Int} {u : U} (h : StepOf M u) : Th 10000 0 u := ⟨h.gd, h.wt, by have := h.dp; omega⟩
end
end Mi
/-! Qk: worths, first states. -/
namespace Mi
open PySem PySem.Spec PyProof.Rows L2
set_option linter.unusedVariables false
set_option linter.unusedSimpArgs false
set_option maxRecDepth 10000
set_option exponentiation.threshold 2000
section
variable {T : Tab} {call : CallT} {m : MH} {Q : U → MH → Prop} {t : Env1} {b g N : Nat}
theorem ok_eq {o : Out U} {x : U} {m : MH} (h : okO o fun v m' => v = x ∧ m' = m) : o = .ok x m := by
  cases o with
  | ok v m' => obtain ⟨rfl, rfl⟩ := (show v = x ∧ m' = m from h); rfl
  | _ => exact (show False from h).elim
mutual
theorem eqv_refl : ∀ {u : U}, layU u = true → PyData.eqv (toD u) (toD u) = true
  | .non, _ => rfl
  | .bl b, _ => by cases b <;> rfl
  | .int i, _ => by show (i == i) = true; simp
  | .str x, _ => by show (x == x) = true; simp
  | .tup us, h => eqv_refls (us := us) h
  | .fl us, h => eqv_refls (us := us) h
  | .cl us, h => eqv_refls (us := us) h
  | .fd _ _, h => nomatch (show false = true from h)
  | .ref _, h => nomatch (show false = true from h)
  | .glo _, h => nomatch (show false = true from h)
  | .ty _, h => nomatch (show false = true from h)
  | .exn _, h => nomatch (show false = true from h)
theorem eqv_refls : ∀ {us : List U}, layUs us = true → PyData.eqvAll (toDs us) (toDs us) = true
  | [], _ => rfl
  | u :: us, h => by
    have h' : (layU u && layUs us) = true := h
    rw [Bool.and_eq_true] at h'
    show (PyData.eqv (toD u) (toD u) && PyData.eqvAll (toDs us) (toDs us)) = true
    rw [eqv_refl h'.1, eqv_refls h'.2]
    rfl
end
@[simp] theorem ok_isBB (a c : Bool) : okP (isU (.bl a) (.bl c) m) Q ↔ Q (.bl (decide (a = c))) m := Iff.rfl
@[simp] theorem ok_nisBB (a c : Bool) : okP (nisU (.bl a) (.bl c) m) Q ↔ Q (.bl (!decide (a = c))) m := Iff.rfl
theorem okD_lay {u : U} (h : okD u = true) : layU u = true := (Bool.and_eq_true _ _ ▸ h : _ ∧ _).1
/-- a tuple is equal to itself -/
theorem eq_selfT {us : List U} (h : okD (.tup us) = true) : eqB (.tup us) (.tup us) m = some true := by
  unfold eqB
  show (if (okD (.tup us) && okD (.tup us)) = true then some (PyData.eqv (toD (.tup us)) (toD (.tup us))) else none) = _
  rw [h, if_pos (show (true && true) = true from rfl), eqv_refl (okD_lay h)]
/-- an unchanging list is equal to itself -/
theorem eq_selfF {us : List U} (h : okD (.fl us) = true) : eqB (.fl us) (.fl us) m = some true := by
  unfold eqB
  show (if (okD (.fl us) && okD (.fl us)) = true then some (PyData.eqv (toD (.fl us)) (toD (.fl us))) else none) = _
  rw [h, if_pos (show (true && true) = true from rfl), eqv_refl (okD_lay h)]
theorem ok_neSelfT {us : List U} (h : okD (.tup us) = true) : okP (neU (.tup us) (.tup us) m) Q ↔ Q (.bl false) m := ok_neOf (eq_selfT h)
theorem ok_eqSelfT {us : List U} (h : okD (.tup us) = true) : okP (eqU (.tup us) (.tup us) m) Q ↔ Q (.bl true) m := ok_eqOf (eq_selfT h)
theorem okD_rd {us : List U} (hl : ∀ u ∈ us, layU u = true) (hd : ∀ u ∈ us, depU u ≤ 40) : okD (.tup us) = true := by
  have h1 : layUs us = true := by
    clear hd
    induction us with
    | nil => rfl
    | cons a us ih =>
      show (layU a && layUs us) = true
      rw [hl a List.mem_cons_self, ih fun u hu => hl u (List.mem_cons_of_mem _ hu)]
      rfl
  have h2 : depUs us ≤ 40 := by
    clear hl h1
    induction us with
    | nil => exact Nat.zero_le _
    | cons a us ih =>
      show max (depU a) (depUs us) ≤ 40
      exact Nat.max_le.mpr ⟨hd a List.mem_cons_self, ih fun u hu => hd u (List.mem_cons_of_mem _ hu)⟩
  show (layUs us && decide (depUs us + 1 ≤ 50)) = true
  rw [h1, decide_eq_true (by omega)]
  rfl
/-! ### states by the looks -/
def amtOf : U → Int
  | .tup (_ :: _ :: .int a :: _) => a
  | _ => 0
def worthOf : U → Int
  | .tup [_, _, c, d, .tup ls] => intOf c + intOf d + (ls.map amtOf).sum
  | _ => 0
theorem ge_true {k i : Int} (h : k ≤ i) : geB k (.int i) = true := decide_eq_true h
theorem lock_all {u : U} (h : lockB u = true) : ∃ (i : Int) (z : Str) (c d e : Int), u = .tup [.int i, .str z, .int c, .int d, .int e] ∧ 1 ≤ i ∧ (z = "left" ∨ z = "right") ∧ 1 ≤ c ∧ 0 ≤ d ∧ 0 ≤ e := by
  obtain ⟨i, b, c, d, e, rfl, hi⟩ := lock_shape h
  have h' : (geB 1 (.int i) && (sideB b && (geB 1 c && (geB 0 d && geB 0 e)))) = true := h
  simp only [Bool.and_eq_true] at h'
  obtain ⟨_, h2, h3, h4, h5⟩ := h'
  obtain ⟨c, rfl, hc⟩ := ge_int h3
  obtain ⟨d, rfl, hd⟩ := ge_int h4
  obtain ⟨e, rfl, he⟩ := ge_int h5
  cases b with
  | str z =>
    have : (decide (z = "left") || decide (z = "right")) = true := h2
    rw [Bool.or_eq_true, decide_eq_true_eq, decide_eq_true_eq] at this
    exact ⟨i, z, c, d, e, rfl, hi, this, hc, hd, he⟩
  | _ => exact nomatch (show false = true from h2)
theorem state_all {u : U} (h : stateB u = true) : ∃ (a n c d : Int) (ls : List U), u = .tup [.int a, .int n, .int c, .int d, .tup ls] ∧ 0 ≤ a ∧ 0 ≤ n ∧ 0 ≤ c ∧ 0 ≤ d ∧ ls.length ≤ 30 ∧ (∀ l ∈ ls, lockB l = true) ∧ riseB 1 (ls.map idOf) = true ∧ endI 1 (ls.map idOf) ≤ n + 1 := by
  cases u with
  | tup us =>
    by_cases hl : us.length = 5
    · obtain ⟨a, b, c, d, e, rfl⟩ := len5 hl
      cases e with
      | tup ls =>
        have h' : ((geB 0 a && (geB 0 b && (geB 0 c && geB 0 d))) && (decide (ls.length ≤ 30) && (locksB ls && (riseB 1 (ls.map idOf) && decide (endI 1 (ls.map idOf) ≤ intOf b + 1))))) = true := h
        simp only [Bool.and_eq_true, decide_eq_true_eq] at h'
        obtain ⟨⟨h1, h2, h3, h4⟩, h5, h6, h7, h8⟩ := h'
        obtain ⟨a, rfl, ha⟩ := ge_int h1
        obtain ⟨b, rfl, hb⟩ := ge_int h2
        obtain ⟨c, rfl, hc⟩ := ge_int h3
        obtain ⟨d, rfl, hd⟩ := ge_int h4
        exact ⟨a, b, c, d, ls, rfl, ha, hb, hc, hd, h5, List.all_eq_true.mp h6, h7, h8⟩
      | _ => rw [stateB_nt rfl] at h; cases h
    · rw [stateB_len hl] at h; cases h
  | _ => exact nomatch (show false = true from h)
theorem state_mk {a n c d : Int} {ls : List U} (ha : 0 ≤ a) (hn : 0 ≤ n) (hc : 0 ≤ c) (hd : 0 ≤ d) (hl : ls.length ≤ 30) (hk : ∀ l ∈ ls, lockB l = true) (hr : riseB 1 (ls.map idOf) = true) (he : endI 1 (ls.map idOf) ≤ n + 1) :
    stateB (.tup [.int a, .int n, .int c, .int d, .tup ls]) = true := by
  show ((geB 0 (.int a) && (geB 0 (.int n) && (geB 0 (.int c) && geB 0 (.int d)))) && (decide (ls.length ≤ 30) && (locksB ls && (riseB 1 (ls.map idOf) && decide (endI 1 (ls.map idOf) ≤ n + 1))))) = true
  rw [ge_true ha, ge_true hn, ge_true hc, ge_true hd, decide_eq_true hl, hr, decide_eq_true he, show locksB ls = true from List.all_eq_true.mpr hk]
  rfl
theorem lock_mk {k a s l : Int} {z : Str} (hk : 1 ≤ k) (hz : z = "left" ∨ z = "right") (ha : 1 ≤ a) (hs : 0 ≤ s) (hl : 0 ≤ l) : lockB (.tup [.int k, .str z, .int a, .int s, .int l]) = true := by
  show (geB 1 (.int k) && ((decide (z = "left") || decide (z = "right")) && (geB 1 (.int a) && (geB 0 (.int s) && geB 0 (.int l))))) = true
  rw [ge_true hk, ge_true ha, ge_true hs, ge_true hl]
  rcases hz with rfl | rfl <;> simp
theorem lockOf.B {M k : Int} {u : U} (h : lockOf M k u) (hk : 1 ≤ k) : lockB u = true := by
  obtain ⟨z, a, s, l, rfl, hz, a0, a1, s0, s1, l0, l1⟩ := h
  exact lock_mk hk hz a0 s0 l0
theorem endI_le {l : List Int} {n k : Int} (h0 : k ≤ n + 1) (h : ∀ i ∈ l, i ≤ n) : endI k l ≤ n + 1 := by
  by_cases e : l = []
  · subst e; exact h0
  · obtain ⟨j, e1, e2⟩ := endI_last (k := k) e
    have := h j (List.mem_of_getLast? e2)
    omega
theorem stateOf.B {M : Int} {most : Nat} {u : U} (h : stateOf most M u) (hm : most ≤ 30) : stateB u = true := by
  obtain ⟨a, n, c, d, ls, rfl, a0, a1, n0, n1, c0, c1, d0, d1, hl, ho⟩ := h
  refine state_mk a0 n0 c0 d0 (by omega) (fun l hl => ?_) (riseB_pw.mpr ⟨ho.rise, fun j hj => ?_⟩) (endI_le (by omega) fun j hj => ?_)
  · obtain ⟨k, k1, k2, hk⟩ := ho.one l hl
    exact hk.B k1
  · obtain ⟨l, hl, rfl⟩ := List.mem_map.mp hj
    obtain ⟨k, k1, k2, hk⟩ := ho.one l hl
    rw [hk.id]; exact k1
  · obtain ⟨l, hl, rfl⟩ := List.mem_map.mp hj
    obtain ⟨k, k1, k2, hk⟩ := ho.one l hl
    rw [hk.id]; exact k2
theorem CountM.up {M M' : Int} {call : CallT} (h : CountM M call) (hM : M ≤ M') : CountM M' call := fun m b g N hb hN => okO_mono (h m b g N hb hN) fun v m' ⟨i, e, i0, i1, r⟩ => ⟨i, e, i0, by omega, r⟩
/-! ### contracts -/
def NeedK (call : CallT) : Prop := ∀ m u, rdU u = true → stateB u = true → call ("need_state", none) [u] m = .ok .non m
def WorthK (call : CallT) : Prop := ∀ m u, rdU u = true → stateB u = true → call ("worth", none) [u] m = .ok (.int (worthOf u)) m
def LWorthK (call : CallT) : Prop := ∀ m u, stateB u = true → call ("_law_worth", none) [u] m = .ok (.int (worthOf u)) m
def FirstK (call : CallT) : Prop := ∀ m a c d, call ("first_state", none) [a, c, d] m = .ok (.tup [a, .int 0, c, d, .tup []]) m
theorem need_run (hS : StateK call) {u : U} (h : rdU u = true) (hs : stateB u = true) : okS (P_need_state T call [some u] m) (fun _ m' => U.non = U.non ∧ m' = m) fun v m' => v = .non ∧ m' = m := by
  unfold P_need_state
  simp only [ok_sSeq, ok_sIf, ok_cNot, ok_cTruth, ok_cCallK, ok_cCons, ok_cVar0, ok_cNil, hS m u h, okO_ok, okT_bl, hs]
  exact ⟨rfl, rfl, fun z => (nomatch z), fun _ => ⟨trivial, rfl⟩⟩
def P_lworth : S1 := (sSeq (sRet (cBin addU (cBin addU (cBin idxU (cVar 0) (cK (.int 2))) (cBin idxU (cVar 0) (cK (.int 3)))) (cFn biSum (cCons (cLc false (cIt (cBin idxU (cVar 0) (cK (.int 4)))) (gName 1) cYes (cBin idxU (cVar 1) (cK (.int 2))) [1]) cNil)))) sNx)
theorem ok_biSum {l : List Int} : okP (biSum [.fl (l.map U.int)] m) Q ↔ Q (.int l.sum) m := by
  have e : biSum [.fl (l.map U.int)] m = some (.int l.sum, m) := by
    show (intsOf (l.map U.int)).map _ = _
    rw [ints_map]
    rfl
  rw [e]
  exact Iff.rfl
theorem amts_map (ls : List U) : (ls.filter fun _ => true).map (fun u => U.int (amtOf u)) = (ls.map amtOf).map U.int := by
  rw [List.filter_eq_self.mpr (fun _ _ => rfl), List.map_map]
  rfl
theorem lworth_run {u : U} {x1 : Option U} (hs : stateB u = true) : okS (P_lworth [some u, x1] m) (fun _ _ => False) fun v m' => v = .int (worthOf u) ∧ m' = m := by
  obtain ⟨a, n, c, d, ls, rfl, a0, n0, c0, d0, hl, hk, hr, he⟩ := state_all hs
  have i2 : ∀ {Q : U → MH → Prop}, okP (idxU (.tup [.int a, .int n, .int c, .int d, .tup ls]) (.int 2) m) Q ↔ Q (.int c) m := ok_idxT rfl
  have i3 : ∀ {Q : U → MH → Prop}, okP (idxU (.tup [.int a, .int n, .int c, .int d, .tup ls]) (.int 3) m) Q ↔ Q (.int d) m := ok_idxT rfl
  have i4 : ∀ {Q : U → MH → Prop}, okP (idxU (.tup [.int a, .int n, .int c, .int d, .tup ls]) (.int 4) m) Q ↔ Q (.tup ls) m := ok_idxT rfl
  unfold P_lworth
  simp only [ok_sSeq, ok_sRet, ok_cBin, ok_cVar0, ok_cK, i2, i3, i4, ok_add, ok_cFn, ok_cCons, ok_cNil, ok_cLc, ok_cIt, ok_itOf_tup]
  refine ⟨line_of (show ls.length ≤ 16777216 by omega), lc_pure (us := ls) (f := fun _ => true) (h := fun u => .int (amtOf u)) ?_ ?_⟩
  · intro u hu
    obtain ⟨i, z, c', d', e', rfl, _⟩ := lock_all (hk u hu)
    have j2 : ∀ {Q : U → MH → Prop}, okP (idxU (.tup [.int i, .str z, .int c', .int d', .int e']) (.int 2) m) Q ↔ Q (.int c') m := ok_idxT rfl
    simp only [wipeU, List.foldl, List.set_cons_succ, List.set_cons_zero, ok_gName, ok_cYes, ok_cBin, ok_cVarS, ok_cVar0, ok_cK, j2]
    exact ⟨trivial, fun _ => ⟨rfl, trivial⟩, fun z => (nomatch z)⟩
  rw [amts_map]
  simp only [flP, ok_biSum, ok_add]
  exact ⟨rfl, trivial⟩
theorem worth_run (hN : NeedK call) {u : U} (h : rdU u = true) (hs : stateB u = true) : okS (P_worth T call [some u, none] m) (fun _ _ => False) fun v m' => v = .int (worthOf u) ∧ m' = m := by
  have e : P_worth T call = sSeq (sDrop (cCallK 1 0 (fun as _ m => call ("need_state", none) as m) (cCons (cVar 0) cNil) cNil)) P_lworth := rfl
  rw [e, ok_sSeq]
  simp only [ok_sDrop, ok_cCallK, ok_cCons, ok_cVar0, ok_cNil, hN m u h hs, okO_ok]
  exact ⟨rfl, rfl, lworth_run hs⟩
theorem first_eq {a c d : U} : P_first_state T call [some a, some c, some d] m = .rt (.tup [a, .int 0, c, d, .tup []]) m := rfl
end
end Mi
/-! what defs do that several laws share, by own values. -/
namespace Mi
open PySem PySem.Spec PyProof.Rows L2
set_option linter.unusedVariables false
def P_is_name (T : Tab) (call : FKey → List U → MH → Out U) : S1 := (sSeq (sIf (cOr (cNot (cTruth (cFn (biIsa T) (cCons (cVar 0) (cCons (cK (.ty "str")) cNil))))) (cOr (cIsBl (cBin eqU (cVar 0) (cK (.str "")))) (cIsBl (cBin cmpG (cFn biLen (cCons (cVar 0) cNil)) (cK (.int 8)))))) (sSeq (sRet (cK (.bl false))) sNx) sNx) (sSeq (sRet (cFn biAll (cCons (cLc false (cIt (cVar 0)) (gName 1) cYes (cBin inU (cVar 1) (cK (.str "abcdefghijklmnopqrstuvwxyz"))) [1]) cNil))) sNx))
def P_law_is_name (T : Tab) (call : FKey → List U → MH → Out U) : S1 := (sSeq (sIf (cOr (cNot (cTruth (cFn (biIsa T) (cCons (cVar 0) (cCons (cK (.ty "str")) cNil))))) (cNot (cIsBl (cChain (cmpI leI) (cmpI leI) (cK (.int 1)) (cFn biLen (cCons (cVar 0) cNil)) (cK (.int 8)))))) (sSeq (sRet (cK (.bl false))) sNx) sNx) (sSeq (sRet (cBin eqU (cLc false (cIt (cVar 0)) (gName 1) (cIsBl (cBin ninU (cVar 1) (cK (.str "abcdefghijklmnopqrstuvwxyz")))) (cVar 1) [1]) (cFn mkFl cNil))) sNx))
def P_law_name (T : Tab) (call : FKey → List U → MH → Out U) : S1 := (sSeq (sAsg (cBin cmpG (cCallK 2 0 (fun as _ m => call ("_law_draw", none) as m) (cCons (cVar 0) (cCons (cK (.int 3)) cNil)) cNil) (cK (.int 0))) (gName 1)) (sSeq (sAsg (cK (.str "abcdefghijklmnopqrstuvwxyz")) (gName 2)) (sSeq (sAsg (cBin addU (cK (.int 1)) (cCallK 2 0 (fun as _ m => call ("_law_draw", none) as m) (cCons (cVar 0) (cCons (cIf (cTruth (cVar 1)) (cK (.int 4)) (cK (.int 8))) cNil)) cNil)) (gName 3)) (sSeq (sRet (cMeth T "join" 1 [] (cK (.str "")) (cCons (cLc false (cRng1 (cCons (cVar 3) cNil)) (gName 4) cYes (cBin idxU (cVar 2) (cIf (cTruth (cVar 1)) (cBin mulU (cCallK 2 0 (fun as _ m => call ("_law_draw", none) as m) (cCons (cVar 0) (cCons (cK (.int 2)) cNil)) cNil) (cK (.int 25))) (cCallK 2 0 (fun as _ m => call ("_law_draw", none) as m) (cCons (cVar 0) (cCons (cK (.int 26)) cNil)) cNil))) [4]) cNil) cNil)) sNx))))
def P_is_deed (T : Tab) (call : FKey → List U → MH → Out U) : S1 := (sSeq (sIf (cOr (cNot (cTruth (cFn (biIsa T) (cCons (cVar 0) (cCons (cK (.ty "tuple")) cNil))))) (cOr (cIsBl (cBin eqU (cVar 0) (cFn mkTup cNil))) (cNot (cTruth (cFn (biIsa T) (cCons (cBin idxU (cVar 0) (cK (.int 0))) (cCons (cK (.ty "str")) cNil))))))) (sSeq (sRet (cK (.bl false))) sNx) sNx) (sSeq (sAsg (cVar 0) (gStar 1 [(gName 1), (gName 2)])) (sSeq (sIf (cIsBl (cBin eqU (cVar 1) (cK (.str "open")))) (sSeq (sRet (cAndV (cBin eqU (cFn biLen (cCons (cVar 2) cNil)) (cK (.int 4))) (cFn biAll (cCons (cBin addU (cLc false (cIt (cSlice (cVar 2) none (some (cK (.int 2))))) (gName 3) cYes (cCallK 1 0 (fun as _ m => call ("is_name", none) as m) (cCons (cVar 3) cNil) cNil) [3]) (cLc false (cIt (cSlice (cVar 2) (some (cK (.int 2))) none)) (gName 4) cYes (cCallK 1 0 (fun as _ m => call ("is_count", none) as m) (cCons (cVar 4) cNil) cNil) [4])) cNil)))) sNx) sNx) (sSeq (sIf (cIsBl (cBin eqU (cVar 1) (cK (.str "tell")))) (sSeq (sRet (cAndV (cBin eqU (cFn biLen (cCons (cVar 2) cNil)) (cK (.int 1))) (cCallK 1 0 (fun as _ m => call ("is_state", none) as m) (cCons (cBin idxU (cVar 2) (cK (.int 0))) cNil) cNil))) sNx) sNx) (sSeq (sIf (cIsBl (cBin eqU (cVar 1) (cK (.str "show")))) (sSeq (sRet (cAndV (cBin eqU (cFn biLen (cCons (cVar 2) cNil)) (cK (.int 1))) (cCallK 1 0 (fun as _ m => call ("is_count", none) as m) (cCons (cBin idxU (cVar 2) (cK (.int 0))) cNil) cNil))) sNx) sNx) (sSeq (sRet (cAndV (cBin eqU (cVar 1) (cK (.str "turn"))) (cBin eqU (cVar 2) (cFn mkFl cNil)))) sNx))))))
def P_law_is_deed (T : Tab) (call : FKey → List U → MH → Out U) : S1 := (sSeq (sIf (cOr (cNot (cTruth (cFn (biIsa T) (cCons (cVar 0) (cCons (cK (.ty "tuple")) cNil))))) (cOr (cIsBl (cBin eqU (cVar 0) (cFn mkTup cNil))) (cNot (cTruth (cFn (biIsa T) (cCons (cBin idxU (cVar 0) (cK (.int 0))) (cCons (cK (.ty "str")) cNil))))))) (sSeq (sRet (cK (.bl false))) sNx) sNx) (sSeq (sIf (cIsBl (cBin eqU (cBin idxU (cVar 0) (cK (.int 0))) (cK (.str "open")))) (sSeq (sIf (cOr (cIsBl (cBin neU (cFn biLen (cCons (cVar 0) cNil)) (cK (.int 5)))) (cOr (cNot (cTruth (cCallK 1 0 (fun as _ m => call ("_law_is_name", none) as m) (cCons (cBin idxU (cVar 0) (cK (.int 1))) cNil) cNil))) (cNot (cTruth (cCallK 1 0 (fun as _ m => call ("_law_is_name", none) as m) (cCons (cBin idxU (cVar 0) (cK (.int 2))) cNil) cNil))))) (sSeq (sRet (cK (.bl false))) sNx) sNx) (sSeq (sRet (cAndV (cCallK 2 0 (fun as _ m => call ("_law_whole", none) as m) (cCons (cBin idxU (cVar 0) (cK (.int 3))) (cCons (cK (.int 0)) cNil)) cNil) (cCallK 2 0 (fun as _ m => call ("_law_whole", none) as m) (cCons (cBin idxU (cVar 0) (cK (.int 4))) (cCons (cK (.int 0)) cNil)) cNil))) sNx)) sNx) (sSeq (sIf (cIsBl (cBin eqU (cBin idxU (cVar 0) (cK (.int 0))) (cK (.str "tell")))) (sSeq (sRet (cAndV (cBin eqU (cFn biLen (cCons (cVar 0) cNil)) (cK (.int 2))) (cCallK 1 0 (fun as _ m => call ("_law_is_state", none) as m) (cCons (cBin idxU (cVar 0) (cK (.int 1))) cNil) cNil))) sNx) sNx) (sSeq (sIf (cIsBl (cBin eqU (cBin idxU (cVar 0) (cK (.int 0))) (cK (.str "show")))) (sSeq (sRet (cAndV (cBin eqU (cFn biLen (cCons (cVar 0) cNil)) (cK (.int 2))) (cCallK 2 0 (fun as _ m => call ("_law_whole", none) as m) (cCons (cBin idxU (cVar 0) (cK (.int 1))) (cCons (cK (.int 0)) cNil)) cNil))) sNx) sNx) (sSeq (sRet (cBin eqU (cVar 0) (cFn mkTup (cCons (cK (.str "turn")) cNil)))) sNx)))))
def P_law_deed (T : Tab) (call : FKey → List U → MH → Out U) : S1 := (sSeq (sAsg (cCallK 2 0 (fun as _ m => call ("_law_draw", none) as m) (cCons (cVar 0) (cCons (cK (.int 5)) cNil)) cNil) (gName 1)) (sSeq (sIf (cIsBl (cBin eqU (cVar 1) (cK (.int 0)))) (sSeq (sRet (cFn mkTup (cCons (cK (.str "turn")) cNil))) sNx) sNx) (sSeq (sIf (cIsBl (cBin eqU (cVar 1) (cK (.int 1)))) (sSeq (sRet (cFn mkTup (cCons (cK (.str "show")) (cCons (cCallK 1 0 (fun as _ m => call ("_law_count", none) as m) (cCons (cVar 0) cNil) cNil) cNil)))) sNx) sNx) (sSeq (sIf (cIsBl (cBin eqU (cVar 1) (cK (.int 2)))) (sSeq (sRet (cFn mkTup (cCons (cK (.str "open")) (cCons (cCallK 1 0 (fun as _ m => call ("_law_name", none) as m) (cCons (cVar 0) cNil) cNil) (cCons (cCallK 1 0 (fun as _ m => call ("_law_name", none) as m) (cCons (cVar 0) cNil) cNil) (cCons (cCallK 1 0 (fun as _ m => call ("_law_count", none) as m) (cCons (cVar 0) cNil) cNil) (cCons (cCallK 1 0 (fun as _ m => call ("_law_count", none) as m) (cCons (cVar 0) cNil) cNil) cNil))))))) sNx) sNx) (sSeq (sRet (cFn mkTup (cCons (cK (.str "tell")) (cCons (cCallK 2 0 (fun as _ m => call ("_law_state", none) as m) (cCons (cVar 0) (cCons (cBin idxU (cFn mkFl (cCons (cK (.int 6)) (cCons (cK (.int 6)) (cCons (cK (.int 6)) (cCons (cK (.int 33)) cNil))))) (cCallK 2 0 (fun as _ m => call ("_law_draw", none) as m) (cCons (cVar 0) (cCons (cK (.int 4)) cNil)) cNil)) cNil)) cNil) cNil)))) sNx)))))
end Mi
/-! Qm: names: what the looks tell, how they are drawn. -/
namespace Mi
open PySem PySem.Spec PyProof.Rows L2
set_option linter.unusedVariables false
set_option linter.unusedSimpArgs false
set_option maxRecDepth 10000
def AZ : Str := "abcdefghijklmnopqrstuvwxyz"
def letB (k : Nat) : Bool := strIn ⟨#[k]⟩ AZ
def nameB (z : Str) : Bool := decide (1 ≤ (z.length : Int)) && decide ((z.length : Int) ≤ 8) && z.cps.toList.all letB
section
variable {T : Tab} {call : CallT} {m : MH} {Q : U → MH → Prop}
theorem signs_get {z : Str} {i : Nat} {u : U} (h : (signsU z)[i]? = some u) : ∃ k, u = .str ⟨#[k]⟩ ∧ z.cps.toList[i]? = some k := by
  unfold signsU at h
  rw [List.getElem?_map] at h
  cases e : z.cps.toList[i]? with
  | none =>
    rw [e] at h
    cases h
  | some k =>
    rw [e] at h
    cases h
    exact ⟨k, rfl, rfl⟩
theorem signs_len (z : Str) : (signsU z).length = z.length := by
  unfold signsU
  rw [List.length_map]
  rfl
theorem take_succ' {α : Type} {l : List α} {i : Nat} {a : α} (h : l[i]? = some a) : l.take (i + 1) = l.take i ++ [a] := by
  rw [List.take_add_one, h]
  rfl
theorem isname_str {z : Str} (hl : lineOk z.length = true) : okS (P_is_name T call [some (.str z), none] m) (fun _ _ => False) fun v m' => v = .bl (nameB z) ∧ m' = m := by
  unfold P_is_name
  have t1 : tyU (.str z) m = some "str" := rfl
  have t2 : tys.contains "str" = true := by decide
  simp only [ok_sSeq, ok_sIf, ok_cOr, ok_cNot, ok_cTruth, ok_cFn, ok_cCons, ok_cVar0, ok_cK, ok_cNil, ok_isa t1 t2, okT_bl, ok_cIsBl, ok_cBin, ok_eqS, ok_blOf, ok_lenS hl, ok_cmpG, ok_sRet, ok_sNx]
  have e0 : (!isT "str" "str") = false := by decide
  rw [e0]
  refine ⟨fun h => (nomatch h), fun _ => ⟨fun h => ?_, fun h => ⟨fun h2 => ?_, fun h2 => ?_⟩⟩⟩
  · refine ⟨fun _ => ⟨?_, trivial⟩, fun h3 => (nomatch h3)⟩
    have e : z = "" := of_decide_eq_true h
    rw [e]
    rfl
  · refine ⟨?_, trivial⟩
    have h3 : (8 : Int) < z.length := of_decide_eq_true h2
    have e : decide ((z.length : Int) ≤ 8) = false := decide_eq_false (by omega)
    unfold nameB
    rw [e, Bool.and_false, Bool.false_and]
  · have h4 : ¬ ((8 : Int) < z.length) := of_decide_eq_false h2
    have h5 : ¬ z = "" := of_decide_eq_false h
    have h6 : z.length ≠ 0 := fun e => h5 (by
      obtain ⟨a⟩ := z
      have : a = #[] := Array.eq_empty_of_size_eq_zero e
      rw [this]
      rfl)
    have hb : nameB z = z.cps.toList.all letB := by
      unfold nameB
      rw [decide_eq_true (show (1 : Int) ≤ z.length by omega), decide_eq_true (show (z.length : Int) ≤ 8 by omega)]
      rfl
    have hz : lineOk (constIt (signsU z)).len = true := by
      show lineOk (signsU z).length = true
      rw [signs_len]
      exact hl
    simp only [ok_cLc, ok_cIt, ok_cVar0, ok_itOf_str, hz, true_and]
    refine ok_lc (fun i acc m1 => m1 = m ∧ acc = (((z.cps.toList).take i).map letB).map U.bl) ⟨rfl, rfl⟩ ?_ ?_
    · rintro i u acc m1 hu ⟨rfl, rfl⟩
      obtain ⟨k, rfl, hk⟩ := signs_get hu
      simp only [ok_gName, wipeU, List.set_cons_succ, List.set_cons_zero, ok_cYes, ok_cBin, ok_cVarS, ok_cVar0, ok_cK, ok_inS]
      refine ⟨fun _ => ⟨trivial, ?_⟩, fun h => (nomatch h)⟩
      rw [take_succ' hk, List.map_append, List.map_append]
      rfl
    · rintro acc m1 ⟨rfl, rfl⟩
      rw [signs_len]
      have et : (z.cps.toList).take z.length = z.cps.toList := List.take_of_length_le (Nat.le_refl _)
      simp only [flP, et]
      rw [hb]
      refine Mi.ok_all.mpr ⟨?_, rfl⟩
      rw [List.all_map]
      rfl
theorem isname_other {u : U} {a : String} (t1 : tyU u m = some a) (ha : a ≠ "str") : okS (P_is_name T call [some u, none] m) (fun _ _ => False) fun v m' => v = .bl false ∧ m' = m := by
  unfold P_is_name
  have t2 : tys.contains "str" = true := by decide
  have e0 : isT a "str" = false := by
    unfold isT
    rw [decide_eq_false ha, Bool.false_or]
    have : decide ("str" = "int") = false := by decide
    rw [this, Bool.and_false]
  simp only [ok_sSeq, ok_sIf, ok_cOr, ok_cNot, ok_cTruth, ok_cFn, ok_cCons, ok_cVar0, ok_cK, ok_cNil, ok_isa t1 t2, okT_bl, e0, ok_sRet]
  exact ⟨fun _ => ⟨fun _ => ⟨trivial, trivial⟩, fun h => (nomatch h)⟩, fun h => (nomatch h)⟩
theorem lname_str {z : Str} (hl : lineOk z.length = true) (hs : Sg lawful z) : okS (P_law_is_name T call [some (.str z), none] m) (fun _ _ => False) fun v m' => v = .bl (nameB z) ∧ m' = m := by
  unfold P_law_is_name
  have t1 : tyU (.str z) m = some "str" := rfl
  have t2 : tys.contains "str" = true := by decide
  have e0 : (!isT "str" "str") = false := by decide
  have hz : lineOk (constIt (signsU z)).len = true := by
    show lineOk (signsU z).length = true
    rw [signs_len]
    exact hl
  simp only [ok_sSeq, ok_sIf, ok_cOr, ok_cNot, ok_cTruth, ok_cFn, ok_cCons, ok_cVar0, ok_cK, ok_cNil, ok_isa t1 t2, okT_bl, ok_cIsBl, ok_cChain, ok_lenS hl, ok_cmpI, ok_blOf, ok_sRet, ok_sNx, leI, e0]
  have tail : nameB z = z.cps.toList.all letB → okO (cBin eqU (cLc false (cIt (cVar 0)) (gName 1) (cIsBl (cBin ninU (cVar 1) (cK (.str "abcdefghijklmnopqrstuvwxyz")))) (cVar 1) [1]) (cFn mkFl cNil) [some (.str z), none] m) fun v m' => v = .bl (nameB z) ∧ m' = m := fun hb => by
    simp only [ok_cBin, ok_cLc, ok_cIt, ok_cVar0, ok_itOf_str, hz, true_and]
    refine ok_lc (fun i acc m1 => m1 = m ∧ acc = ((((z.cps.toList).take i).filter fun k => !letB k).map fun k => (⟨#[k]⟩ : Str)).map U.str) ⟨rfl, rfl⟩ ?_ ?_
    · rintro i u acc m1 hu ⟨rfl, rfl⟩
      obtain ⟨k, rfl, hk⟩ := signs_get hu
      simp only [ok_gName, wipeU, List.set_cons_succ, List.set_cons_zero, ok_cIsBl, ok_cBin, ok_cVarS, ok_cVar0, ok_cK, ok_ninS, ok_blOf]
      rw [take_succ' hk, List.filter_append]
      refine ⟨fun h => ⟨trivial, ?_⟩, fun h => ⟨trivial, ?_⟩⟩
      · have : (!letB k) = true := h
        have e9 : [k].filter (fun k => !letB k) = [k] := by
          unfold List.filter
          rw [this]
          rfl
        rw [e9, List.map_append, List.map_append]
        rfl
      · have : ¬ (!letB k) = true := by rw [show (!letB k) = false from h]; exact Bool.false_ne_true
        have e9 : [k].filter (fun k => !letB k) = [] := by
          unfold List.filter
          rw [show (!letB k) = false from h]
          rfl
        rw [e9, List.append_nil]
    · rintro acc m1 ⟨rfl, rfl⟩
      rw [signs_len]
      have et : (z.cps.toList).take z.length = z.cps.toList := List.take_of_length_le (Nat.le_refl _)
      have hl2 : ∀ x ∈ ((z.cps.toList.filter fun k => !letB k).map fun k => (⟨#[k]⟩ : Str)), Sg lawful x := by
        intro x hx
        obtain ⟨k, hk, rfl⟩ := List.mem_map.mp hx
        exact Sg.one (hs k ((List.mem_filter.mp hk).1))
      simp only [flP, et, ok_cFn, ok_cNil, ok_mkFl (us := []) rfl, ok_eqOf (eq_nil_strs hl2)]
      rw [hb]
      refine ⟨congrArg U.bl ?_, trivial⟩
      rw [Bool.eq_iff_iff, List.isEmpty_iff, List.map_eq_nil_iff, List.filter_eq_nil_iff, List.all_eq_true]
      simp
  refine ⟨fun h => (nomatch h), fun _ => ⟨fun h1 => ?_, fun h1 => ?_⟩⟩
  · refine ⟨fun h2 => ?_, fun h2 => ?_⟩
    · have h3 : ¬ ((z.length : Int) ≤ 8) := fun z1 => by rw [decide_eq_true z1] at h2; cases h2
      refine ⟨?_, trivial⟩
      unfold nameB
      rw [decide_eq_false h3, Bool.and_false, Bool.false_and]
    · have h3 : (z.length : Int) ≤ 8 := Decidable.byContradiction fun z1 => by rw [decide_eq_false z1] at h2; cases h2
      refine tail ?_
      unfold nameB
      rw [h1, decide_eq_true h3]
      rfl
  · refine ⟨fun h2 => ⟨?_, trivial⟩, fun h2 => (nomatch h2)⟩
    unfold nameB
    rw [h1, Bool.false_and, Bool.false_and]
theorem lname_other {u : U} {a : String} (t1 : tyU u m = some a) (ha : a ≠ "str") : okS (P_law_is_name T call [some u, none] m) (fun _ _ => False) fun v m' => v = .bl false ∧ m' = m := by
  unfold P_law_is_name
  have t2 : tys.contains "str" = true := by decide
  have e0 : isT a "str" = false := by
    unfold isT
    rw [decide_eq_false ha, Bool.false_or]
    have : decide ("str" = "int") = false := by decide
    rw [this, Bool.and_false]
  simp only [ok_sSeq, ok_sIf, ok_cOr, ok_cNot, ok_cTruth, ok_cFn, ok_cCons, ok_cVar0, ok_cK, ok_cNil, ok_isa t1 t2, okT_bl, e0, ok_sRet]
  exact ⟨fun _ => ⟨fun _ => ⟨trivial, trivial⟩, fun h => (nomatch h)⟩, fun h => (nomatch h)⟩
end
abbrev letter (k : Nat) : Prop := 97 ≤ k ∧ k < 123
theorem az_len : AZ.cps.toList.length = 26 := by decide +kernel
theorem az_all : ∀ k ∈ AZ.cps.toList, letter k := by decide +kernel
theorem az_at {i : Int} (h0 : 0 ≤ i) (h1 : i < 26) : ∃ k, atI AZ.cps.toList i = some k ∧ letter k := by
  rw [atI_nat h0 (by rw [az_len]; exact h1)]
  have hl : i.toNat < AZ.cps.toList.length := by rw [az_len]; omega
  rw [List.getElem?_eq_getElem hl]
  exact ⟨_, rfl, az_all _ (List.getElem_mem hl)⟩
section
variable {T : Tab} {call : CallT} {m : MH} {Q : U → MH → Prop} {b g N : Nat}
theorem ok_join {ys : List Str} (h : (ys.map (·.length)).sum ≤ 1000000) : okP (meJoin (.str "") [.fl (ys.map U.str)] m) Q ↔ Q (.str (Txt.join Str.empty ys)) m := by
  have e : meJoin (.str "") [.fl (ys.map U.str)] m = some (.str (Txt.join Str.empty ys), m) := by
    unfold meJoin
    show ((some (ys.map U.str)).bind fun us => (strsOf us).bind fun ys => if decide ((ys.map (·.length)).sum + ys.length * ("" : Str).length ≤ 16777216) = true then some (U.str (Txt.join "" ys), m) else none) = _
    rw [Option.bind_some, Mi.strs_map, Option.bind_some, if_pos]
    · rfl
    · refine decide_eq_true ?_
      have : ("" : Str).length = 0 := rfl
      rw [this]
      omega
  rw [e]
  exact Iff.rfl
theorem sum_ones : ∀ {ys : List Str}, (∀ y ∈ ys, y.length = 1) → (ys.map (·.length)).sum = ys.length
  | [], _ => rfl
  | y :: ys, h => by
    rw [List.map_cons, List.sum_cons, h y List.mem_cons_self, sum_ones fun z hz => h z (List.mem_cons_of_mem _ hz), List.length_cons]
    omega
theorem drawn_name (hd : DrawC call) (h : Bag m b g N) (hN : N + 20 < 10 ^ 9) : okS (P_law_name T call [some (.ref b), none, none, none, none] m) (fun _ _ => False) fun v m' => ∃ z, v = .str z ∧ z.length ≤ 8 ∧ Sg letter z ∧ Bag m' b g (N + 10) ∧ Fr b g m m' := by
  unfold P_law_name
  simp only [ok_sSeq, ok_sAsg, ok_cBin, ok_cCallK, ok_cCons, ok_cVar0, ok_cK, ok_cNil]
  refine ⟨rfl, rfl, okO_mono (hd m b g N 3 h (by omega) (by decide) (by decide)) ?_⟩
  rintro v m1 ⟨i, rfl, i0, i3, h1, f1⟩
  simp only [ok_cmpG, ok_gName, List.set_cons_succ, List.set_cons_zero, ok_cVar0, ok_cVarS, ok_cIf, ok_cTruth, okT_bl, ok_cK, ok_sRet]
  generalize decide (0 < i) = few
  have go : ∀ k : Int, 0 < k → k ≤ 8 → okO (call ("_law_draw", none) [.ref b, .int k] m1) fun w m2 => okP (addU (.int 1) w m2) fun u m2 => okO ((cMeth T "join" 1 [] (cK (.str "")) (cCons (cLc false (cRng1 (cCons (cVar 3) cNil)) (gName 4) cYes (cBin idxU (cVar 2) (cIf (cTruth (cVar 1)) (cBin mulU (cCallK 2 0 (fun as _ m => call ("_law_draw", none) as m) (cCons (cVar 0) (cCons (cK (.int 2)) cNil)) cNil) (cK (.int 25))) (cCallK 2 0 (fun as _ m => call ("_law_draw", none) as m) (cCons (cVar 0) (cCons (cK (.int 26)) cNil)) cNil))) [4]) cNil) cNil) [some (.ref b), some (.bl few), some (.str AZ), some u, none] m2) fun v m' => ∃ z, v = .str z ∧ z.length ≤ 8 ∧ Sg letter z ∧ Bag m' b g (N + 10) ∧ Fr b g m m' := fun k k0 k8 => by
    refine okO_mono (hd m1 b g (N + 1) k h1 (by omega) k0 (by omega)) ?_
    rintro v m2 ⟨j, rfl, j0, j1, h2, f2⟩
    rw [ok_add]
    refine ok_meth (kind := "str") (phi := meJoin) rfl ?_
    have rb : rngBd (1 + j) = true := by
      unfold rngBd
      rw [Bool.and_eq_true, decide_eq_true_eq, decide_eq_true_eq]
      omega
    have hl : lineOk (constIt (rangeU 0 (1 + j).toNat)).len = true := by
      show lineOk (rangeU 0 (1 + j).toNat).length = true
      rw [rangeU_len]
      exact line_le (k := 8) (by omega) (by decide)
    simp only [ok_cK, ok_cCons, ok_cLc, ok_cRng1, ok_cVarS, ok_cVar0, ok_cNil, ok_rng1, rb, hl, true_and]
    refine ⟨rfl, ok_lc (fun i acc m3 => ∃ ys : List Str, acc = ys.map U.str ∧ ys.length = i ∧ (∀ y ∈ ys, Sg letter y ∧ y.length = 1) ∧ Bag m3 b g (N + 2 + i) ∧ Fr b g m1 m3) ⟨[], rfl, rfl, fun _ h => (nomatch h), h2, f2⟩ ?_ ?_⟩
    · rintro i u acc m3 hu ⟨ys, rfl, hy, ha, h3, f3⟩
      obtain ⟨rfl, hi⟩ := rng_get hu
      have hi8 : i < 8 := by omega
      have stp : ∀ {x : Int} {m4 : MH}, 0 ≤ x → x < 26 → Bag m4 b g (N + 2 + i + 1) → Fr b g m1 m4 → okP (idxU (.str AZ) (.int x) m4) fun w m5 => ∃ ys' : List Str, ys.map U.str ++ [w] = ys'.map U.str ∧ ys'.length = i + 1 ∧ (∀ y ∈ ys', Sg letter y ∧ y.length = 1) ∧ Bag m5 b g (N + 2 + (i + 1)) ∧ Fr b g m1 m5 := fun {x m4} x0 x1 h4 f4 => by
        obtain ⟨k, ek, lk⟩ := az_at x0 x1
        rw [ok_idxS (by rw [show AZ.length = 26 from az_len]; rfl) ek]
        refine ⟨ys ++ [⟨#[k]⟩], by rw [List.map_append]; rfl, by rw [List.length_append, hy]; rfl, fun y hy => ?_, h4, f4⟩
        rcases List.mem_append.mp hy with hy | hy
        · exact ha y hy
        · rw [List.mem_singleton.mp hy]
          exact ⟨Sg.one lk, rfl⟩
      simp only [ok_gName, wipeU, List.set_cons_succ, List.set_cons_zero, ok_cYes, ok_cBin, ok_cVarS, ok_cVar0, ok_cIf, ok_cTruth, okT_bl, ok_cCallK, ok_cCons, ok_cK, ok_cNil]
      refine ⟨fun _ => ⟨fun _ => ⟨rfl, rfl, okO_mono (hd m3 b g _ 2 h3 (by omega) (by decide) (by decide)) ?_⟩, fun _ => ⟨rfl, rfl, okO_mono (hd m3 b g _ 26 h3 (by omega) (by decide) (by decide)) ?_⟩⟩, fun h => (nomatch h)⟩
      · rintro v m4 ⟨y, rfl, y0, y1, h4, f4⟩
        have mo : mulOk y 25 = true := by
          unfold mulOk
          rw [Bool.or_eq_true, Bool.or_eq_true]
          exact .inl (.inr rfl)
        rw [ok_mul mo]
        exact stp (by omega) (by omega) h4 (f3.trans f4)
      · rintro v m4 ⟨y, rfl, y0, y1, h4, f4⟩
        exact stp y0 y1 h4 (f3.trans f4)
    · rintro acc m3 ⟨ys, rfl, hy, ha, h3, f3⟩
      rw [rangeU_len] at hy h3
      have hs : (ys.map (·.length)).sum = ys.length := sum_ones fun y hy => (ha y hy).2
      simp only [flP]
      refine ⟨rfl, (ok_join (by rw [hs]; omega)).mpr ⟨_, rfl, ?_, Sg.join fun y hy => (ha y hy).1, h3.up (by omega), f1.trans f3⟩⟩
      rw [len_join, hs]
      omega
  exact ⟨fun _ => ⟨rfl, rfl, go 4 (by decide) (by decide)⟩, fun _ => ⟨rfl, rfl, go 8 (by decide) (by decide)⟩⟩
end
end Mi
/-! Qn: court deeds: what the looks tell, how they are drawn. -/
namespace Mi
open PySem PySem.Spec PyProof.Rows L2
set_option linter.unusedVariables false
set_option linter.unusedSimpArgs false
set_option maxRecDepth 10000
set_option exponentiation.threshold 2000
section
variable {T : Tab} {call : CallT} {m : MH} {Q : U → MH → Prop} {t : Env1} {b g N : Nat}
def nmU : U → Bool
  | .str z => nameB z
  | _ => false
/-- a text, if it is one, is short and lawful -/
def smU (u : U) : Prop := ∀ z, u = .str z → z.length ≤ 2000000 ∧ Sg lawful z
theorem sm_of {B : Nat} {u : U} (h : gdU B u = true) (hw : wtU u ≤ 16777216) : smU u := by
  rintro z rfl
  have h1 : 10 * z.length + 2 ≤ 16777216 := hw
  refine ⟨by omega, fun k hk => ?_⟩
  have := asc_mem.mp (show ascB z = true from h) k hk
  exact Nat.lt_trans this (by decide)
def NameK (call : CallT) : Prop := ∀ m u, rdU u = true → smU u → call ("is_name", none) [u] m = .ok (.bl (nmU u)) m
def LNameK (call : CallT) : Prop := ∀ m u, rdU u = true → smU u → call ("_law_is_name", none) [u] m = .ok (.bl (nmU u)) m
theorem tyF_ns {u : U} (h : isStr u = false) : tyF u ≠ "str" := by
  cases u <;> first | exact nomatch (show true = false from h) | exact (show "NoneType" ≠ "str" by decide) | exact (show "bool" ≠ "str" by decide) | exact (show "int" ≠ "str" by decide) | exact (show "tuple" ≠ "str" by decide) | exact (show "list" ≠ "str" by decide) | exact (show "dict" ≠ "str" by decide)
theorem nmU_ns {u : U} (h : isStr u = false) : nmU u = false := by
  cases u <;> first | rfl | cases h
theorem name_run {u : U} (h : rdU u = true) (hs : smU u) : okS (P_is_name T call [some u, none] m) (fun _ _ => False) fun v m' => v = .bl (nmU u) ∧ m' = m := by
  cases e : isStr u with
  | true =>
    cases u with
    | str z => exact isname_str (line_of (by have := (hs z rfl).1; omega))
    | _ => cases e
  | false =>
    rw [nmU_ns e]
    exact isname_other (tyF_ok h) (tyF_ns e)
theorem lname_run {u : U} (h : rdU u = true) (hs : smU u) : okS (P_law_is_name T call [some u, none] m) (fun _ _ => False) fun v m' => v = .bl (nmU u) ∧ m' = m := by
  cases e : isStr u with
  | true =>
    cases u with
    | str z => exact lname_str (line_of (by have := (hs z rfl).1; omega)) (hs z rfl).2
    | _ => cases e
  | false =>
    rw [nmU_ns e]
    exact lname_other (tyF_ok h) (tyF_ns e)
def openB : List U → Bool
  | [a, b, c, d] => (nmU a && nmU b) && (geB 0 c && geB 0 d)
  | _ => false
def tellB : List U → Bool
  | [a] => stateB a
  | _ => false
def showB : List U → Bool
  | [a] => geB 0 a
  | _ => false
def deedB : U → Bool
  | .tup (.str w :: r) => if w = "open" then openB r else if w = "tell" then tellB r else if w = "show" then showB r else decide (w = "turn") && r.isEmpty
  | _ => false
theorem openB_len {r : List U} (h : r.length ≠ 4) : openB r = false := by
  match r, h with
  | [], _ => rfl
  | [_], _ => rfl
  | [_, _], _ => rfl
  | [_, _, _], _ => rfl
  | [_, _, _, _], h => exact absurd rfl h
  | _ :: _ :: _ :: _ :: _ :: _, _ => rfl
theorem tellB_len {r : List U} (h : r.length ≠ 1) : tellB r = false := by
  match r, h with
  | [], _ => rfl
  | [_], h => exact absurd rfl h
  | _ :: _ :: _, _ => rfl
theorem showB_len {r : List U} (h : r.length ≠ 1) : showB r = false := by
  match r, h with
  | [], _ => rfl
  | [_], h => exact absurd rfl h
  | _ :: _ :: _, _ => rfl
theorem deedB_ns {a : U} {r : List U} (h : isStr a = false) : deedB (.tup (a :: r)) = false := by
  cases a <;> first | rfl | cases h
def DeedK (call : CallT) : Prop := ∀ m u B, gdU B u = true → wtU u ≤ 16777216 → call ("is_deed", none) [u] m = .ok (.bl (deedB u)) m
def LDeedK (call : CallT) : Prop := ∀ m u B, gdU B u = true → wtU u ≤ 16777216 → call ("_law_is_deed", none) [u] m = .ok (.bl (deedB u)) m
theorem wt_in {u : U} {us : List U} (h : u ∈ us) (hw : wtU (.tup us) ≤ 16777216) : wtU u ≤ 16777216 := by
  have := wtUs_mem h
  have : wtUs us + 6 ≤ 16777216 := hw
  omega
theorem deed_eq (hN : NameK call) (hC : CountK call) (hS : StateK call) {B : Nat} {u : U} (hg : gdU B u = true) (hw : wtU u ≤ 16777216) : P_is_deed T call [some u, none, none, none, none] m = .rt (.bl (deedB u)) m := by
  refine rt_of ?_
  have h := gd_rd hg
  unfold P_is_deed
  simp only [ok_sSeq, ok_sIf, ok_cOr, ok_cNot, ok_cTruth, ok_cFn, ok_cCons, ok_cVar0, ok_cNil, ok_cK, ok_isaTup h, okT_bl, ok_cIsBl, ok_cBin, ok_sRet, ok_sNx]
  cases u with
  | tup us =>
    refine ⟨fun z => (nomatch z), fun _ => ?_⟩
    simp only [ok_mkTup (us := []) rfl, ok_emT (fun _ _ _ => trivial), ok_blOf]
    cases us with
    | nil => exact ⟨fun _ => ⟨fun _ => ⟨rfl, trivial⟩, fun z => (nomatch z)⟩, fun z => (nomatch z)⟩
    | cons a r =>
      refine ⟨fun z => (nomatch z), fun _ => ?_⟩
      obtain ⟨ha, hr⟩ := rd_cons (show rdUs (a :: r) = true from h)
      have i0 : ∀ {Q : U → MH → Prop}, okP (idxU (.tup (a :: r)) (.int 0) m) Q ↔ Q a m := ok_idxT atI_0
      rw [i0, ok_isaStr ha, okT_bl]
      cases es : isStr a with
      | false =>
        rw [deedB_ns es]
        exact ⟨fun _ => ⟨rfl, rfl⟩, fun z => (nomatch z)⟩
      | true =>
        refine ⟨fun z => (nomatch z), fun _ => ?_⟩
        cases a with
        | str w =>
          have st : starU 1 2 (.str w :: r) = [.str w, .fl r] := by
            unfold starU
            simp
          have hl : ([gName 1, gName 2] : List G1).length = 2 := rfl
          simp only [ok_sAsg, ok_cVar0, ok_gStar]
          rw [hl, st]
          refine ⟨⟨by decide, by rw [List.length_cons]; omega⟩, ?_⟩
          simp only [ok_gAllS, ok_gAll0, ok_gName, List.set_cons_succ, List.set_cons_zero, ok_sSeq, ok_sIf, ok_cIsBl, ok_cBin, ok_cVarS, ok_cVar0, ok_cK, ok_eqS, ok_blOf, ok_sRet, ok_cAndV, ok_cFn, ok_cCons, ok_cNil, ok_lenF, ok_eqI, okT_bl, ok_cCallK, ok_mkFl (us := []) rfl, ok_emF, ok_sNx]
          have rm := rd_mem hr
          have sm : ∀ x ∈ r, smU x := fun x hx => sm_of (gdUs_iff.mp (show gdUs B (.str w :: r) = true from hg) x (List.mem_cons_of_mem _ hx)) (wt_in (List.mem_cons_of_mem _ hx) hw)
          have e0 : deedB (.tup (.str w :: r)) = if w = "open" then openB r else if w = "tell" then tellB r else if w = "show" then showB r else decide (w = "turn") && r.isEmpty := rfl
          rw [e0]
          refine ⟨fun hw => ?_, fun hw => ?_⟩
          · rw [if_pos (of_decide_eq_true hw)]
            by_cases h2 : r.length = 4
            · obtain ⟨p, q, c, d, rfl⟩ := len4 h2
              refine ⟨fun _ => ?_, fun z => (nomatch z)⟩
              have c1 : cutU [p, q, c, d] none (some 2) = [p, q] := rfl
              have c2 : cutU [p, q, c, d] (some 2) none = [c, d] := rfl
              simp only [ok_cLc, ok_cIt, ok_cSlice, ok_cPart_none, ok_cPart_some, okI_int, ok_cVarS, ok_cVar0, ok_cK, ok_slcF, c1, c2, ok_itOf_fl]
              refine ⟨rfl, lc_pure (us := [p, q]) (f := fun _ => true) (h := fun u => .bl (nmU u)) ?_ ?_⟩
              · intro x hx
                have hx' : x ∈ [p, q, c, d] := by
                  simp only [List.mem_cons, List.not_mem_nil, or_false] at hx ⊢
                  rcases hx with rfl | rfl <;> simp
                simp only [wipeU, List.foldl, List.set_cons_succ, List.set_cons_zero, ok_gName, ok_cYes, ok_cCallK, ok_cCons, ok_cVarS, ok_cVar0, ok_cNil, hN m x (rm x hx') (sm x hx'), okO_ok]
                exact ⟨trivial, fun _ => ⟨rfl, rfl, trivial, trivial⟩, fun z => (nomatch z)⟩
              simp only [flP]
              refine ⟨rfl, lc_pure (us := [c, d]) (f := fun _ => true) (h := fun u => .bl (geB 0 u)) ?_ ?_⟩
              · intro x hx
                have hx' : x ∈ [p, q, c, d] := by
                  simp only [List.mem_cons, List.not_mem_nil, or_false] at hx ⊢
                  rcases hx with rfl | rfl <;> simp
                simp only [wipeU, List.foldl, List.set_cons_succ, List.set_cons_zero, ok_gName, ok_cYes, ok_cCallK, ok_cCons, ok_cVarS, ok_cVar0, ok_cNil, hC m x (rm x hx'), okO_ok]
                exact ⟨trivial, fun _ => ⟨rfl, rfl, trivial, trivial⟩, fun z => (nomatch z)⟩
              rw [ok_addF (line_of (by simp)), ok_bls (l := [nmU p, nmU q, geB 0 c, geB 0 d]) (by rfl)]
              refine ⟨congrArg U.bl ?_, rfl⟩
              show ((nmU p && (nmU q && (geB 0 c && (geB 0 d && true)))) : Bool) = ((nmU p && nmU q) && (geB 0 c && geB 0 d))
              rw [Bool.and_true, Bool.and_assoc]
            · rw [openB_len h2, show decide ((r.length : Int) = 4) = false from lenN h2]
              exact ⟨fun z => (nomatch z), fun _ => ⟨rfl, trivial⟩⟩
          rw [if_neg (of_decide_eq_false hw)]
          refine ⟨fun hw2 => ?_, fun hw2 => ?_⟩
          · rw [if_pos (of_decide_eq_true hw2)]
            by_cases h2 : r.length = 1
            · obtain ⟨p, rfl⟩ := len1 h2
              have j0 : ∀ {Q : U → MH → Prop}, okP (idxU (.fl [p]) (.int 0) m) Q ↔ Q p m := ok_idxF rfl
              refine ⟨fun _ => ?_, fun z => (nomatch z)⟩
              rw [j0]
              simp only [hS m p (rm p (by simp)), okO_ok]
              exact ⟨rfl, rfl, rfl, trivial⟩
            · rw [tellB_len h2, show decide ((r.length : Int) = 1) = false from lenN h2]
              exact ⟨fun z => (nomatch z), fun _ => ⟨rfl, trivial⟩⟩
          rw [if_neg (of_decide_eq_false hw2)]
          refine ⟨fun hw3 => ?_, fun hw3 => ?_⟩
          · rw [if_pos (of_decide_eq_true hw3)]
            by_cases h2 : r.length = 1
            · obtain ⟨p, rfl⟩ := len1 h2
              have j0 : ∀ {Q : U → MH → Prop}, okP (idxU (.fl [p]) (.int 0) m) Q ↔ Q p m := ok_idxF rfl
              refine ⟨fun _ => ?_, fun z => (nomatch z)⟩
              rw [j0]
              simp only [hC m p (rm p (by simp)), okO_ok]
              exact ⟨rfl, rfl, rfl, trivial⟩
            · rw [showB_len h2, show decide ((r.length : Int) = 1) = false from lenN h2]
              exact ⟨fun z => (nomatch z), fun _ => ⟨rfl, trivial⟩⟩
          rw [if_neg (of_decide_eq_false hw3)]
          cases decide (w = "turn") <;> simp
        | _ => cases es
  | _ => simp [isTup, deedB]
theorem eq_one {w z : Str} {r : List U} : okP (eqU (.tup (.str w :: r)) (.tup [.str z]) m) Q ↔ Q (.bl (decide (w = z) && r.isEmpty)) m := by
  have e1 : PyData.eqv (toD (.tup (.str w :: r))) (toD (.tup [.str z])) = ((w == z) && PyData.eqvAll (toDs r) []) := rfl
  have e2 : (w == z) = decide (w = z) := by rw [Bool.eq_iff_iff]; simp
  have e3 : PyData.eqvAll (toDs r) [] = r.isEmpty := by cases r <;> rfl
  cases e : eqB (.tup (.str w :: r)) (.tup [.str z]) m with
  | some x =>
    have e' : (if (okD (.tup (.str w :: r)) && okD (.tup [.str z])) = true then some (PyData.eqv (toD (.tup (.str w :: r))) (toD (.tup [.str z]))) else none) = some x := e
    have ex : x = (decide (w = z) && r.isEmpty) := by
      split at e'
      · rw [e1, e2, e3] at e'
        exact (Option.some.inj e').symm
      · cases e'
    rw [ok_eqOf e, ex]
  | none =>
    unfold eqU
    rw [e]
    exact Iff.rfl
theorem ldeed_eq (hN : LNameK call) (hW : LWholeK call) (hS : LStateK call) {B : Nat} {u : U} (hg : gdU B u = true) (hw : wtU u ≤ 16777216) : P_law_is_deed T call [some u] m = .rt (.bl (deedB u)) m := by
  refine rt_of ?_
  have h := gd_rd hg
  unfold P_law_is_deed
  simp only [ok_sSeq, ok_sIf, ok_cOr, ok_cNot, ok_cTruth, ok_cFn, ok_cCons, ok_cVar0, ok_cNil, ok_cK, ok_isaTup h, okT_bl, ok_cIsBl, ok_cBin, ok_sRet, ok_sNx]
  cases u with
  | tup us =>
    refine ⟨fun z => (nomatch z), fun _ => ?_⟩
    simp only [ok_mkTup (us := []) rfl, ok_emT (fun _ _ _ => trivial), ok_blOf]
    cases us with
    | nil => exact ⟨fun _ => ⟨fun _ => ⟨rfl, trivial⟩, fun z => (nomatch z)⟩, fun z => (nomatch z)⟩
    | cons a r =>
      refine ⟨fun z => (nomatch z), fun _ => ?_⟩
      obtain ⟨ha, hr⟩ := rd_cons (show rdUs (a :: r) = true from h)
      have i0 : ∀ {Q : U → MH → Prop}, okP (idxU (.tup (a :: r)) (.int 0) m) Q ↔ Q a m := ok_idxT atI_0
      rw [i0, ok_isaStr ha, okT_bl]
      cases es : isStr a with
      | false =>
        rw [deedB_ns es]
        exact ⟨fun _ => ⟨rfl, rfl⟩, fun z => (nomatch z)⟩
      | true =>
        refine ⟨fun z => (nomatch z), fun _ => ?_⟩
        cases a with
        | str w =>
          simp only [i0, ok_cVarS, ok_cVar0, ok_cK, ok_eqS, ok_blOf, ok_sRet, ok_cAndV, ok_cFn, ok_cCons, ok_cNil, ok_lenT, ok_eqI, ok_neI, okT_bl, ok_cCallK, ok_mkTup (us := [U.str "turn"]) rfl, ok_sNx, ok_cBin, ok_sSeq, ok_sIf, ok_cIsBl, ok_cOr, ok_cNot, ok_cTruth]
          have rm := rd_mem hr
          have sm : ∀ x ∈ r, smU x := fun x hx => sm_of (gdUs_iff.mp (show gdUs B (.str w :: r) = true from hg) x (List.mem_cons_of_mem _ hx)) (wt_in (List.mem_cons_of_mem _ hx) hw)
          have e0 : deedB (.tup (.str w :: r)) = if w = "open" then openB r else if w = "tell" then tellB r else if w = "show" then showB r else decide (w = "turn") && r.isEmpty := rfl
          rw [e0]
          refine ⟨fun hw => ?_, fun hw => ?_⟩
          · rw [if_pos (of_decide_eq_true hw)]
            by_cases h2 : r.length = 4
            · obtain ⟨p, q, c, d, rfl⟩ := len4 h2
              have j1 : ∀ {Q : U → MH → Prop}, okP (idxU (.tup [.str w, p, q, c, d]) (.int 1) m) Q ↔ Q p m := ok_idxT rfl
              have j2 : ∀ {Q : U → MH → Prop}, okP (idxU (.tup [.str w, p, q, c, d]) (.int 2) m) Q ↔ Q q m := ok_idxT rfl
              have j3 : ∀ {Q : U → MH → Prop}, okP (idxU (.tup [.str w, p, q, c, d]) (.int 3) m) Q ↔ Q c m := ok_idxT rfl
              have j4 : ∀ {Q : U → MH → Prop}, okP (idxU (.tup [.str w, p, q, c, d]) (.int 4) m) Q ↔ Q d m := ok_idxT rfl
              have mp : p ∈ [p, q, c, d] := by simp
              have mq : q ∈ [p, q, c, d] := by simp
              have mc : c ∈ [p, q, c, d] := by simp
              have md : d ∈ [p, q, c, d] := by simp
              have eo : openB [p, q, c, d] = ((nmU p && nmU q) && (geB 0 c && geB 0 d)) := rfl
              rw [eo]
              refine ⟨fun z => (nomatch z), fun _ => ?_⟩
              simp only [j1, j2, j3, j4, hN m p (rm p mp) (sm p mp), hN m q (rm q mq) (sm q mq), hW m c _ (rm c mc), hW m d _ (rm d md), okO_ok, okT_bl]
              cases nmU p <;> cases nmU q <;> cases geB 0 c <;> simp
            · rw [openB_len h2, show decide ((((.str w : U) :: r).length : Int) = 5) = false from lenN1 h2]
              exact ⟨fun _ => ⟨fun _ => ⟨rfl, trivial⟩, fun z => (nomatch z)⟩, fun z => (nomatch z)⟩
          rw [if_neg (of_decide_eq_false hw)]
          refine ⟨fun hw2 => ?_, fun hw2 => ?_⟩
          · rw [if_pos (of_decide_eq_true hw2)]
            by_cases h2 : r.length = 1
            · obtain ⟨p, rfl⟩ := len1 h2
              have j1 : ∀ {Q : U → MH → Prop}, okP (idxU (.tup [.str w, p]) (.int 1) m) Q ↔ Q p m := ok_idxT rfl
              refine ⟨fun _ => ?_, fun z => (nomatch z)⟩
              rw [j1]
              simp only [hS m p (rm p (by simp)), okO_ok]
              exact ⟨rfl, rfl, rfl, trivial⟩
            · rw [tellB_len h2, show decide ((((.str w : U) :: r).length : Int) = 2) = false from lenN1 h2]
              exact ⟨fun z => (nomatch z), fun _ => ⟨rfl, trivial⟩⟩
          rw [if_neg (of_decide_eq_false hw2)]
          refine ⟨fun hw3 => ?_, fun hw3 => ?_⟩
          · rw [if_pos (of_decide_eq_true hw3)]
            by_cases h2 : r.length = 1
            · obtain ⟨p, rfl⟩ := len1 h2
              have j1 : ∀ {Q : U → MH → Prop}, okP (idxU (.tup [.str w, p]) (.int 1) m) Q ↔ Q p m := ok_idxT rfl
              refine ⟨fun _ => ?_, fun z => (nomatch z)⟩
              rw [j1]
              simp only [hW m p _ (rm p (by simp)), okO_ok]
              exact ⟨rfl, rfl, rfl, trivial⟩
            · rw [showB_len h2, show decide ((((.str w : U) :: r).length : Int) = 2) = false from lenN1 h2]
              exact ⟨fun z => (nomatch z), fun _ => ⟨rfl, trivial⟩⟩
          rw [if_neg (of_decide_eq_false hw3)]
          rw [eq_one]
          exact ⟨rfl, rfl⟩
        | _ => cases es
  | _ => simp [isTup, deedB]
/-! ### drawn -/
def LNameC (call : CallT) : Prop := ∀ (m : MH) (b g N : Nat), Bag m b g N → N + 20 < 10 ^ 9 → okO (call ("_law_name", none) [.ref b] m) fun v m' => ∃ z, v = .str z ∧ z.length ≤ 8 ∧ Sg letter z ∧ Bag m' b g (N + 10) ∧ Fr b g m m'
def DeedC (call : CallT) : Prop := ∀ (m : MH) (b g N : Nat), Bag m b g N → N + 940 < 10 ^ 9 → okO (call ("_law_deed", none) [.ref b] m) fun v m' => Th 410000 0 v ∧ Bag m' b g (N + 300) ∧ Fg b g m m'
def partV (u : U) : Prop := (∃ i : Int, u = .int i ∧ 0 ≤ i ∧ i < 10 ^ 40) ∨ ∃ w, u = .str w ∧ ascB w = true ∧ w.length ≤ 100
theorem partV.all {u : U} (h : partV u) : gdU (10 ^ 41 + 0) u = true ∧ wtU u ≤ 1921 ∧ dpU u ≤ 0 := by
  rcases h with ⟨i, rfl, i0, i1⟩ | ⟨w, rfl, w0, w1⟩
  · exact ⟨decide_eq_true (by omega), Nat.le_refl _, Nat.le_refl _⟩
  · exact ⟨w0, by show 10 * w.length + 2 ≤ 1921; omega, Nat.le_refl _⟩
theorem th_parts {us : List U} (hl : us.length ≤ 5) (h : ∀ u ∈ us, partV u) : Th 410000 0 (.tup us) := by
  refine ⟨gdUs_iff.mpr fun u hu => (h u hu).all.1, ?_, ?_⟩
  · have w1 : wtUs us ≤ (1921 + 2) * us.length := wt_all fun u hu => (h u hu).all.2.1
    have w2 : (1921 + 2) * us.length ≤ (1921 + 2) * 5 := Nat.mul_le_mul_left _ hl
    show wtUs us + 6 ≤ 410000 * 5 ^ 0
    omega
  · have := dpUs_le.mpr fun u hu => (h u hu).all.2.2
    show dpUs us + 1 ≤ 4 + 4 * 0
    omega
theorem letter_asc {z : Str} (h : Sg letter z) : ascB z = true := asc_mem.mpr fun k hk => by
  have := h k hk
  omega
theorem deed_ok (hd : DrawC call) (hc : CountM (10 ^ 40) call) (hn : LNameC call) (hs : StateC (10 ^ 40) call) (h : Bag m b g N) (hN : N + 940 < 10 ^ 9) :
    okS (P_law_deed T call [some (.ref b), none] m) (fun _ _ => False) fun v m' => Th 410000 0 v ∧ Bag m' b g (N + 300) ∧ Fg b g m m' := by
  unfold P_law_deed
  simp only [ok_sSeq, ok_sAsg, ok_cCallK, ok_cCons, ok_cVar0, ok_cK, ok_cNil]
  refine ⟨rfl, rfl, okO_mono (hd m b g N 5 h (by omega) (by decide) (by decide)) ?_⟩
  rintro v m1 ⟨i, rfl, i0, i1, h1, f1⟩
  simp only [ok_gName, List.set_cons_succ, List.set_cons_zero, ok_sIf, ok_cIsBl, ok_cBin, ok_cVar0, ok_cVarS, ok_cK, ok_eqI, ok_blOf, ok_sSeq, ok_sRet, ok_sNx, ok_cFn, ok_cCons, ok_cNil, ok_cCallK]
  have pw : ∀ w : Str, ascB w = true → w.length ≤ 100 → partV (.str w) := fun w h1 h2 => .inr ⟨w, rfl, h1, h2⟩
  have pi : ∀ k : Int, 0 ≤ k → k < 10 ^ 40 → partV (.int k) := fun k k0 k1 => .inl ⟨k, rfl, k0, k1⟩
  refine ⟨fun _ => ?_, fun _ => ⟨fun _ => ?_, fun _ => ⟨fun _ => ?_, fun _ => ?_⟩⟩⟩
  · rw [ok_mkTup rfl]
    exact ⟨th_parts (by simp) fun u hu => by
      rw [List.mem_singleton.mp hu]
      exact pw _ (by kernel_rfl) (by decide), h1.up (by omega), f1.fg⟩
  · refine ⟨rfl, rfl, okO_mono (hc m1 b g _ h1 (by omega)) ?_⟩
    rintro v m2 ⟨k, rfl, k0, k1, h2, f2⟩
    rw [ok_mkTup rfl]
    exact ⟨th_parts (by simp) fun u hu => by
      simp only [List.mem_cons, List.not_mem_nil, or_false] at hu
      rcases hu with rfl | rfl
      · exact pw _ (by kernel_rfl) (by decide)
      · exact pi _ k0 k1, h2.up (by omega), (f1.trans f2).fg⟩
  · refine ⟨rfl, rfl, okO_mono (hn m1 b g _ h1 (by omega)) ?_⟩
    rintro v m2 ⟨z1, rfl, l1, s1, h2, f2⟩
    refine ⟨rfl, rfl, okO_mono (hn m2 b g _ h2 (by omega)) ?_⟩
    rintro v m3 ⟨z2, rfl, l2, s2, h3, f3⟩
    refine ⟨rfl, rfl, okO_mono (hc m3 b g _ h3 (by omega)) ?_⟩
    rintro v m4 ⟨k, rfl, k0, k1, h4, f4⟩
    refine ⟨rfl, rfl, okO_mono (hc m4 b g _ h4 (by omega)) ?_⟩
    rintro v m5 ⟨j, rfl, j0, j1, h5, f5⟩
    rw [ok_mkTup rfl]
    exact ⟨th_parts (by simp) fun u hu => by
      simp only [List.mem_cons, List.not_mem_nil, or_false] at hu
      rcases hu with rfl | rfl | rfl | rfl | rfl
      · exact pw _ (by kernel_rfl) (by decide)
      · exact pw _ (letter_asc s1) (by omega)
      · exact pw _ (letter_asc s2) (by omega)
      · exact pi _ k0 k1
      · exact pi _ j0 j1, h5.up (by omega), ((((f1.trans f2).trans f3).trans f4).trans f5).fg⟩
  · rw [ok_mkFl rfl]
    refine ⟨rfl, rfl, okO_mono (hd m1 b g _ 4 h1 (by omega) (by decide) (by decide)) ?_⟩
    rintro v m2 ⟨j, rfl, j0, j1, h2, f2⟩
    refine ok_ixAny j0 (by simpa using j1) fun u hu => ?_
    obtain ⟨k, rfl, hk⟩ : ∃ k : Nat, u = .int (k : Nat) ∧ k ≤ 33 := by
      simp only [List.mem_cons, List.not_mem_nil, or_false] at hu
      rcases hu with rfl | rfl | rfl | rfl
      · exact ⟨6, rfl, by decide⟩
      · exact ⟨6, rfl, by decide⟩
      · exact ⟨6, rfl, by decide⟩
      · exact ⟨33, rfl, by decide⟩
    refine ⟨rfl, rfl, okO_mono (hs m2 b g _ k h2 (by omega) (by omega)) ?_⟩
    rintro st m3 ⟨hst, h3, f3⟩
    obtain ⟨t1, t2⟩ := th_state (by omega) hst
    have tw := t1.wt
    rw [ok_mkTup rfl]
    refine ⟨⟨gdUs_iff.mpr fun u hu => ?_, ?_, ?_⟩, h3.up (by omega), (f1.trans f2).fg.trans f3⟩
    · simp only [List.mem_cons, List.not_mem_nil, or_false] at hu
      rcases hu with rfl | rfl
      · show ascB _ = true
        kernel_rfl
      · exact t1.gd
    · show ((10 * ("tell" : Str).length + 2) + 2 + (wtU st + 2 + 0)) + 6 ≤ 410000 * 5 ^ 0
      have : ("tell" : Str).length = 4 := by kernel_rfl
      omega
    · show max 0 (max (dpU st) 0) + 1 ≤ 4 + 4 * 0
      omega
end
end Mi
/-! Qo: what ends with an exception; the moves of states. -/
namespace Mi
open PySem PySem.Spec PyProof.Rows L2
set_option linter.unusedVariables false
set_option linter.unusedSimpArgs false
set_option maxRecDepth 10000
set_option exponentiation.threshold 2000
def errS (x : Ex) (m0 : MH) : SO → Prop
  | .err y _ m => y = x ∧ m = m0
  | _ => False
section
variable {T : Tab} {call : CallT} {m m0 : MH} {Q : U → MH → Prop} {t : Env1} {b g N : Nat} {x : Ex}
theorem err_seq {a c : S1} (h : okS (a t m) (fun t' m' => errS x m0 (c t' m')) fun _ _ => False) : errS x m0 (sSeq a c t m) := by
  unfold sSeq
  cases e : a t m with
  | nx t' m' => rw [e] at h; exact h
  | _ => rw [e] at h; exact (show False from h).elim
theorem err_seq1 {a c : S1} (h : errS x m0 (a t m)) : errS x m0 (sSeq a c t m) := by
  unfold sSeq
  cases e : a t m with
  | err y t' m' => rw [e] at h; exact h
  | _ => rw [e] at h; exact (show False from h).elim
theorem err_if {q : Fn1 Bool} {a c : S1} (h : okO (q t m) fun y m1 => (y = true → errS x m0 (a t m1)) ∧ (y = false → errS x m0 (c t m1))) : errS x m0 (sIf q a c t m) := by
  unfold sIf sE
  cases e : q t m with
  | ok y m1 =>
    rw [e] at h
    cases y with
    | true => exact h.1 rfl
    | false => exact h.2 rfl
  | _ => rw [e] at h; exact (show False from h).elim
theorem err_raise {n : Str} : errS ⟨n, []⟩ m (sRaise n t m) := ⟨rfl, rfl⟩
theorem err_ret {f : E1} (h : f t m = .err x m0) : errS x m0 (sRet f t m) := by
  unfold sRet sE
  rw [h]
  exact ⟨rfl, rfl⟩
theorem err_asg {f : E1} {gg : G1} (h : f t m = .err x m0) : errS x m0 (sAsg f gg t m) := by
  unfold sAsg sE
  rw [h]
  exact ⟨rfl, rfl⟩
theorem err_call {n : Nat} {F : List U → List U → MH → Out U} {a : Fn1 (List U)} (h : okO (a t m) fun us m1 => us.length = n ∧ F us [] m1 = .err x m0) : cCallK n 0 F a cNil t m = .err x m0 := by
  unfold cCallK
  cases e : a t m with
  | ok us m1 =>
    rw [e] at h
    show (if us.length = n ∧ ([] : List U).length = 0 then F us [] m1 else .bad) = _
    rw [if_pos ⟨h.1, rfl⟩]
    exact h.2
  | _ => rw [e] at h; exact (show False from h).elim
theorem end_ok {o : SO} {v : U} (h : okS o (fun _ m' => U.non = v ∧ m' = m) fun u m' => u = v ∧ m' = m) : endO o = .ok v m := by
  cases o with
  | nx t' m' => obtain ⟨rfl, rfl⟩ := (show U.non = v ∧ m' = m from h); rfl
  | rt u m' => obtain ⟨rfl, rfl⟩ := (show u = v ∧ m' = m from h); rfl
  | _ => exact (show False from h).elim
theorem end_err {o : SO} (h : errS x m0 o) : endO o = .err x m0 := by
  cases o with
  | err y t' m' => obtain ⟨rfl, rfl⟩ := (show y = x ∧ m' = m0 from h); rfl
  | _ => exact (show False from h).elim
theorem callEnd {S : Sta} {n : Nat} {key : FKey} {f : De} {c : S1} {us : List U} {m : MH} {r : Out U} (h : S.df key = some f) (e : bodyU (S.tab (callN S n)) f = c) (hl : us.length = f.ps.length) (hb : endO (c (startU f.N us) m) = r) : callN S (n + 1) key us m = r := by
  rw [callN_some h]
  unfold runDf
  rw [if_pos hl, e, hb]
/-! ### states, by parts -/
def stU (a n c d : Int) (ls : List U) : U := .tup [.int a, .int n, .int c, .int d, .tup ls]
def sdS : Bool → Str
  | true => "left"
  | false => "right"
def noStep : Ex := ⟨"NoStep", []⟩
def resO (m : MH) : Option U → Out U
  | some u => .ok u m
  | none => .err noStep m
def shI : Bool → Int → Int → Int
  | true, c, _ => c
  | false, _, d => d
def mvU (a n c d : Int) (ls : List U) (amt : Int) : Bool → U
  | true => stU a n (c + amt) d ls
  | false => stU a n c (d + amt) ls
def movedV (a n c d : Int) (s : Bool) (amt : Int) (ls : List U) : Option U :=
  if shI s c d + amt < 0 then none else if 30 < ls.length then none
  else some (mvU a (n + 1) c d ls amt s)
def ShareK (call : CallT) : Prop := ∀ m a n c d ls s, call ("share_of", none) [stU a n c d ls, .str (sdS s)] m = .ok (.int (shI s c d)) m
def OtherK (call : CallT) : Prop := ∀ m s, call ("other_side", none) [.str (sdS s)] m = .ok (.str (sdS !s)) m
def MovedK (call : CallT) : Prop := ∀ m a n c d ls0 s amt L ls, (L = .tup ls ∨ L = .fl ls) → ls.length ≤ 1000 → call ("state_moved", none) [stU a n c d ls0, .str (sdS s), .int amt, L] m = resO m (movedV a n c d s amt ls)
theorem eq_left : decide ((sdS true) = ("left" : Str)) = true := by kernel_rfl
theorem eq_right : decide ((sdS false) = ("left" : Str)) = false := by kernel_rfl
theorem share_end {a n c d : Int} {ls : List U} {s : Bool} : endO (P_share_of T call [some (stU a n c d ls), some (.str (sdS s))] m) = .ok (.int (shI s c d)) m := by
  refine end_ok ?_
  unfold P_share_of
  have i2 : ∀ {Q : U → MH → Prop}, okP (idxU (stU a n c d ls) (.int 2) m) Q ↔ Q (.int c) m := ok_idxT rfl
  have i3 : ∀ {Q : U → MH → Prop}, okP (idxU (stU a n c d ls) (.int 3) m) Q ↔ Q (.int d) m := ok_idxT rfl
  cases s with
  | true =>
    simp only [ok_sSeq, ok_sRet, ok_cIf, ok_cIsBl, ok_cBin, ok_cVar0, ok_cVarS, ok_cK, ok_eqS, ok_blOf, eq_left, i2, i3]
    exact ⟨fun _ => ⟨by first | rfl | trivial, by first | rfl | trivial⟩, fun z => (nomatch z)⟩
  | false =>
    simp only [ok_sSeq, ok_sRet, ok_cIf, ok_cIsBl, ok_cBin, ok_cVar0, ok_cVarS, ok_cK, ok_eqS, ok_blOf, eq_right, i2, i3]
    exact ⟨fun z => (nomatch z), fun _ => ⟨by first | rfl | trivial, by first | rfl | trivial⟩⟩
theorem other_end {s : Bool} : endO (P_other_side T call [some (.str (sdS s))] m) = .ok (.str (sdS !s)) m := by
  refine end_ok ?_
  unfold P_other_side
  cases s with
  | true =>
    simp only [ok_sSeq, ok_sRet, ok_cIf, ok_cIsBl, ok_cBin, ok_cVar0, ok_cVarS, ok_cK, ok_eqS, ok_blOf, eq_left]
    exact ⟨fun _ => ⟨by first | rfl | trivial, by first | rfl | trivial⟩, fun z => (nomatch z)⟩
  | false =>
    simp only [ok_sSeq, ok_sRet, ok_cIf, ok_cIsBl, ok_cBin, ok_cVar0, ok_cVarS, ok_cK, ok_eqS, ok_blOf, eq_right]
    exact ⟨fun z => (nomatch z), fun _ => ⟨by first | rfl | trivial, by first | rfl | trivial⟩⟩
theorem ok_lenL {L : U} {ls : List U} (hL : L = .tup ls ∨ L = .fl ls) : okP (biLen [L] m) Q ↔ Q (.int ls.length) m := by
  rcases hL with rfl | rfl
  · exact ok_lenT
  · exact ok_lenF
theorem ok_tupL {L : U} {ls : List U} (hL : L = .tup ls ∨ L = .fl ls) (hl : ls.length ≤ 1000) : okP (biTuple [L] m) Q ↔ Q (.tup ls) m := by
  rcases hL with rfl | rfl
  · have e : biTuple [.tup ls] m = some (.tup ls, m) := by
      first
        | rfl
        | (show ((some ls).bind fun us => if lineOk us.length = true then some (U.tup us, m) else none) = _
           rw [Option.bind_some, if_pos (line_of (by omega))])
    rw [e]
    exact Iff.rfl
  · exact ok_biTuF (line_of (by omega))
theorem moved_end (hS : ShareK call) {a n c d amt : Int} {ls0 ls : List U} {s : Bool} {L : U} (hL : L = .tup ls ∨ L = .fl ls) (hl : ls.length ≤ 1000) :
    endO (P_state_moved T call [some (stU a n c d ls0), some (.str (sdS s)), some (.int amt), some L, none, none, none, none, none] m) = resO m (movedV a n c d s amt ls) := by
  unfold movedV
  have un : ∀ {P : Env1 → MH → Prop}, okP (gTup [(gName 4), (gName 5), (gName 6), (gName 7), (gName 8)] (stU a n c d ls0) [some (stU a n c d ls0), some (.str (sdS s)), some (.int amt), some L, none, none, none, none, none] m) P ↔ P [some (stU a n c d ls0), some (.str (sdS s)), some (.int amt), some L, some (.int a), some (.int n), some (.int c), some (.int d), some (.tup ls0)] m := Iff.rfl
  by_cases h1 : shI s c d + amt < 0
  · rw [if_pos h1]
    refine end_err (x := noStep) ?_
    unfold P_state_moved
    refine err_seq ?_
    simp only [ok_sAsg, ok_cVar0, un]
    refine err_seq1 (err_if ?_)
    simp only [ok_cIsBl, ok_cBin, ok_cCallK, ok_cCons, ok_cVar0, ok_cVarS, ok_cNil, hS m a n c d ls0 s, okO_ok, ok_add, ok_cK, ok_cmpI, ok_blOf]
    exact ⟨rfl, rfl, fun _ => err_seq1 err_raise, fun z => absurd h1 (of_decide_eq_false z)⟩
  · rw [if_neg h1]
    by_cases h2 : 30 < ls.length
    · rw [if_pos h2]
      refine end_err (x := noStep) ?_
      unfold P_state_moved
      refine err_seq ?_
      simp only [ok_sAsg, ok_cVar0, un]
      refine err_seq ?_
      simp only [ok_sIf, ok_cIsBl, ok_cBin, ok_cCallK, ok_cCons, ok_cVar0, ok_cVarS, ok_cNil, hS m a n c d ls0 s, okO_ok, ok_add, ok_cK, ok_cmpI, ok_blOf, ok_sNx]
      refine ⟨rfl, rfl, fun z => absurd (of_decide_eq_true z) h1, fun _ => err_seq1 (err_if ?_)⟩
      simp only [ok_cIsBl, ok_cBin, ok_cFn, ok_cCons, ok_cVar0, ok_cVarS, ok_cNil, ok_lenL hL, ok_cK, ok_cmpG, ok_blOf]
      exact ⟨fun _ => err_seq1 err_raise, fun z => absurd (show (30 : Int) < ls.length by omega) (of_decide_eq_false z)⟩
    · rw [if_neg h2]
      refine end_ok ?_
      unfold P_state_moved
      simp only [ok_sSeq, ok_sAsg, ok_cVar0, un, ok_sIf, ok_cIsBl, ok_cBin, ok_cCallK, ok_cCons, ok_cVarS, ok_cNil, hS m a n c d ls0 s, okO_ok, ok_add, ok_cK, ok_cmpI, ok_blOf, ok_sNx, ok_cFn, ok_lenL hL, ok_cmpG, ok_eqS]
      refine ⟨rfl, rfl, fun z => absurd (of_decide_eq_true z) h1, fun _ => ⟨fun z => absurd (show 30 < ls.length by have := of_decide_eq_true z; omega) h2, fun _ => ?_⟩⟩
      cases s with
      | true =>
        refine ⟨fun _ => ?_, fun z => absurd eq_left (by rw [z]; exact Bool.false_ne_true)⟩
        rw [ok_sAug (a := c) rfl]
        simp only [ok_cVar0, ok_cVarS, okI_int, List.set_cons_succ, List.set_cons_zero, ok_sRet, ok_cFn, ok_cCons, ok_cNil, ok_cBin, ok_cK, ok_add, ok_tupL hL hl]
        rw [ok_mkTup rfl]
        exact ⟨rfl, rfl⟩
      | false =>
        refine ⟨fun z => absurd eq_right (by rw [z]; exact Bool.noConfusion), fun _ => ?_⟩
        rw [ok_sAug (a := d) rfl]
        simp only [ok_cVar0, ok_cVarS, okI_int, List.set_cons_succ, List.set_cons_zero, ok_sRet, ok_cFn, ok_cCons, ok_cNil, ok_cBin, ok_cK, ok_add, ok_tupL hL hl]
        rw [ok_mkTup rfl]
        exact ⟨rfl, rfl⟩
end
end Mi
/-! Qp: the next state by a step. -/
namespace Mi
open PySem PySem.Spec PyProof.Rows L2
set_option linter.unusedVariables false
set_option linter.unusedSimpArgs false
set_option maxRecDepth 10000
set_option exponentiation.threshold 2000
section
variable {T : Tab} {call : CallT} {m m0 : MH} {Q : U → MH → Prop} {t : Env1} {b g N : Nat} {x : Ex}
def pdU (a n c d : Int) (ls : List U) (amt : Int) : Bool → U
  | true => stU a n (c + (0 - amt)) (d + amt) ls
  | false => stU a n (c + amt) (d + (0 - amt)) ls
def paidV (a n c d : Int) (s : Bool) (amt : Int) (ls : List U) : Option U :=
  if shI s c d + (0 - amt) < 0 then none else if 30 < ls.length then none else some (pdU a (n + 1) c d ls amt s)
def PaidK (call : CallT) : Prop := ∀ m a n c d ls s amt, ls.length ≤ 1000 → call ("state_paid", none) [stU a n c d ls, .str (sdS s), .int amt] m = resO m (paidV a n c d s amt ls)
theorem paid_end (hM : MovedK call) {a n c d amt : Int} {ls : List U} {s : Bool} (hl : ls.length ≤ 1000) :
    endO (P_state_paid T call [some (stU a n c d ls), some (.str (sdS s)), some (.int amt), none, none, none, none, none] m) = resO m (paidV a n c d s amt ls) := by
  have i4 : ∀ {Q : U → MH → Prop}, okP (idxU (stU a n c d ls) (.int 4) m) Q ↔ Q (.tup ls) m := ok_idxT rfl
  have hm := hM m a n c d ls s (0 - amt) (.tup ls) ls (.inl rfl) hl
  unfold paidV
  unfold movedV at hm
  by_cases h1 : shI s c d + (0 - amt) < 0
  · rw [if_pos h1] at hm ⊢
    refine end_err (x := noStep) ?_
    unfold P_state_paid
    refine err_seq1 (err_asg (err_call ?_))
    simp only [ok_cCons, ok_cVar0, ok_cVarS, ok_cNil, ok_cBin, ok_cK, ok_sub, i4]
    exact ⟨rfl, hm⟩
  · rw [if_neg h1] at hm ⊢
    by_cases h2 : 30 < ls.length
    · rw [if_pos h2] at hm ⊢
      refine end_err (x := noStep) ?_
      unfold P_state_paid
      refine err_seq1 (err_asg (err_call ?_))
      simp only [ok_cCons, ok_cVar0, ok_cVarS, ok_cNil, ok_cBin, ok_cK, ok_sub, i4]
      exact ⟨rfl, hm⟩
    · rw [if_neg h2] at hm ⊢
      have hm' : call ("state_moved", none) [stU a n c d ls, .str (sdS s), .int (0 - amt), .tup ls] m = .ok (mvU a (n + 1) c d ls (0 - amt) s) m := hm
      refine end_ok ?_
      unfold P_state_paid
      simp only [ok_sSeq, ok_sAsg, ok_cCallK, ok_cCons, ok_cVar0, ok_cVarS, ok_cNil, ok_cBin, ok_cK, ok_sub, i4, hm', okO_ok]
      refine ⟨rfl, rfl, ?_⟩
      cases s with
      | true =>
        have un : ∀ {P : Env1 → MH → Prop}, okP (gTup [(gName 3), (gName 4), (gName 5), (gName 6), (gName 7)] (mvU a (n + 1) c d ls (0 - amt) true) [some (stU a n c d ls), some (.str (sdS true)), some (.int amt), none, none, none, none, none] m) P ↔ P [some (stU a n c d ls), some (.str (sdS true)), some (.int amt), some (.int a), some (.int (n + 1)), some (.int (c + (0 - amt))), some (.int d), some (.tup ls)] m := Iff.rfl
        rw [un]
        simp only [ok_sIf, ok_cIsBl, ok_cBin, ok_cVar0, ok_cVarS, ok_cK, ok_eqS, ok_blOf, List.set_cons_succ, List.set_cons_zero]
        refine ⟨fun _ => ?_, fun z => absurd eq_left (by rw [z]; exact Bool.false_ne_true)⟩
        rw [ok_sSeq, ok_sAug (a := d) rfl]
        simp only [ok_cVar0, ok_cVarS, okI_int, List.set_cons_succ, List.set_cons_zero, ok_sNx, ok_sRet, ok_cFn, ok_cCons, ok_cNil]
        rw [ok_mkTup rfl]
        exact ⟨rfl, rfl⟩
      | false =>
        have un : ∀ {P : Env1 → MH → Prop}, okP (gTup [(gName 3), (gName 4), (gName 5), (gName 6), (gName 7)] (mvU a (n + 1) c d ls (0 - amt) false) [some (stU a n c d ls), some (.str (sdS false)), some (.int amt), none, none, none, none, none] m) P ↔ P [some (stU a n c d ls), some (.str (sdS false)), some (.int amt), some (.int a), some (.int (n + 1)), some (.int c), some (.int (d + (0 - amt))), some (.tup ls)] m := Iff.rfl
        rw [un]
        simp only [ok_sIf, ok_cIsBl, ok_cBin, ok_cVar0, ok_cVarS, ok_cK, ok_eqS, ok_blOf, List.set_cons_succ, List.set_cons_zero]
        refine ⟨fun z => absurd eq_right (by rw [z]; exact Bool.noConfusion), fun _ => ?_⟩
        rw [ok_sSeq, ok_sAug (a := c) rfl]
        simp only [ok_cVar0, ok_cVarS, okI_int, List.set_cons_succ, List.set_cons_zero, ok_sNx, ok_sRet, ok_cFn, ok_cCons, ok_cNil]
        rw [ok_mkTup rfl]
        exact ⟨rfl, rfl⟩
def hasId (k : Int) (l : U) : Bool := decide (idOf l = k)
def LockOfK (call : CallT) : Prop := ∀ m a n c d ls k, (∀ l ∈ ls, lockB l = true) → ls.length ≤ 1000 → call ("lock_of", none) [stU a n c d ls, .int k] m = resO m (ls.find? (hasId k))
def ButK (call : CallT) : Prop := ∀ m a n c d ls k, (∀ l ∈ ls, lockB l = true) → ls.length ≤ 1000 → call ("locks_but", none) [stU a n c d ls, .int k] m = .ok (.fl (ls.filter fun l => !hasId k l)) m
theorem but_end {a n c d k : Int} {ls : List U} (hk : ∀ l ∈ ls, lockB l = true) (hl : ls.length ≤ 1000) :
    endO (P_locks_but T call [some (stU a n c d ls), some (.int k), none] m) = .ok (.fl (ls.filter fun l => !hasId k l)) m := by
  have i4 : ∀ {Q : U → MH → Prop}, okP (idxU (stU a n c d ls) (.int 4) m) Q ↔ Q (.tup ls) m := ok_idxT rfl
  refine end_ok ?_
  unfold P_locks_but
  simp only [ok_sSeq, ok_sRet, ok_cLc, ok_cIt, ok_cBin, ok_cVar0, ok_cK, i4, ok_itOf_tup]
  refine ⟨line_of (show ls.length ≤ 16777216 by omega), lc_pure (us := ls) (f := fun l => !hasId k l) (h := id) ?_ ?_⟩
  · intro u hu
    obtain ⟨i, z, c', d', e', rfl, _⟩ := lock_all (hk u hu)
    have j0 : ∀ {Q : U → MH → Prop}, okP (idxU (.tup [.int i, .str z, .int c', .int d', .int e']) (.int 0) m) Q ↔ Q (.int i) m := ok_idxT rfl
    simp only [wipeU, List.foldl, List.set_cons_succ, List.set_cons_zero, ok_gName, ok_cIsBl, ok_cBin, ok_cVarS, ok_cVar0, ok_cK, j0, ok_neI, ok_blOf]
    exact ⟨by first | rfl | trivial, fun _ => ⟨by first | rfl | trivial, by first | rfl | trivial⟩, fun _ => by first | rfl | trivial⟩
  rw [List.map_id]
  exact ⟨rfl, rfl⟩
theorem lockof_end {a n c d k : Int} {ls : List U} (hk : ∀ l ∈ ls, lockB l = true) (hl : ls.length ≤ 1000) :
    endO (P_lock_of T call [some (stU a n c d ls), some (.int k), none] m) = resO m (ls.find? (hasId k)) := by
  have i4 : ∀ {m : MH} {Q : U → MH → Prop}, okP (idxU (stU a n c d ls) (.int 4) m) Q ↔ Q (.tup ls) m := ok_idxT rfl
  have run : ∀ {N : Env1 → MH → Prop} {R : U → MH → Prop}, (∀ x2, ls.find? (hasId k) = none → N [some (stU a n c d ls), some (.int k), x2] m) → (∀ l, ls.find? (hasId k) = some l → R l m) →
      okS (sFor (cIt (cBin idxU (cVar 0) (cK (.int 4)))) (gName 2) (sSeq (sIf (cIsBl (cBin eqU (cBin idxU (cVar 2) (cK (.int 0))) (cVar 1))) (sSeq (sRet (cVar 2)) sNx) sNx) sNx) [some (stU a n c d ls), some (.int k), none] m) N R := by
    intro N R hn hr
    simp only [ok_sFor, ok_cIt, ok_cBin, ok_cVar0, ok_cK, i4, ok_itOf_tup]
    refine ok_loop (us := ls) (fun i t m' => m' = m ∧ ∃ x2, t = [some (stU a n c d ls), some (.int k), x2] ∧ ls.find? (hasId k) = (ls.drop i).find? (hasId k)) ⟨rfl, none, rfl, rfl⟩ ?_ ?_
    · rintro i u t m1 hu ⟨rfl, x2, rfl, hf⟩
      have hi := (List.getElem?_eq_some_iff.mp hu).1
      have ud : ls.drop i = u :: ls.drop (i + 1) := by
        rw [List.drop_eq_getElem_cons hi]
        rw [List.getElem?_eq_getElem hi] at hu
        cases hu
        rfl
      obtain ⟨i', z, c', d', e', rfl, _⟩ := lock_all (hk u (List.mem_of_getElem? hu))
      have j0 : ∀ {Q : U → MH → Prop}, okP (idxU (.tup [.int i', .str z, .int c', .int d', .int e']) (.int 0) m1) Q ↔ Q (.int i') m1 := ok_idxT rfl
      rw [ud, List.find?_cons] at hf
      have he : hasId k (.tup [.int i', .str z, .int c', .int d', .int e']) = decide (i' = k) := rfl
      rw [he] at hf
      simp only [ok_gName, List.set_cons_succ, List.set_cons_zero, ok_sSeq, ok_sIf, ok_cIsBl, ok_cBin, ok_cVarS, ok_cVar0, ok_cK, j0, ok_eqI, ok_blOf, ok_sRet, ok_sNx]
      refine ⟨fun q => ?_, fun q => ?_⟩
      · rw [q] at hf
        exact hr _ hf
      · rw [q] at hf
        exact ⟨trivial, _, rfl, hf⟩
    · rintro t m1 ⟨rfl, x2, rfl, hf⟩
      rw [List.drop_length] at hf
      exact hn _ hf
  cases hf : ls.find? (hasId k) with
  | none =>
    refine end_err (x := noStep) ?_
    unfold P_lock_of
    exact err_seq (run (fun x2 _ => err_seq1 err_raise) (fun l e => by rw [hf] at e; cases e))
  | some l =>
    refine end_ok ?_
    unfold P_lock_of
    rw [ok_sSeq]
    exact run (fun x2 e => by rw [hf] at e; cases e) (fun l' e => by rw [hf] at e; cases e; exact ⟨rfl, rfl⟩)
end
end Mi
/-! Qq: the next state, by all five words. -/
namespace Mi
open PySem PySem.Spec PyProof.Rows L2
set_option linter.unusedVariables false
set_option linter.unusedSimpArgs false
set_option maxRecDepth 10000
set_option exponentiation.threshold 2000
def P_seal_of (T : Tab) (call : FKey → List U → MH → Out U) : S1 := (sSeq (sIf (cNot (cTruth (cCallK 1 0 (fun as _ m => call ("is_count", none) as m) (cCons (cVar 0) cNil) cNil))) (sSeq (sRaise "NoSecret") sNx) sNx) (sSeq (sRet (cBin addU (cBin mulU (cK (.int 3)) (cVar 0)) (cK (.int 17)))) sNx))
def rtS (r : Out U) : SO → Prop
  | .rt u m => r = .ok u m
  | .err x _ m => r = .err x m
  | .bad => r = .bad
  | _ => False
section
variable {T : Tab} {call : CallT} {m m0 : MH} {Q : U → MH → Prop} {t : Env1} {b g N : Nat} {x : Ex} {r : Out U}
theorem rt_end {o : SO} (h : rtS r o) : endO o = r := by
  cases o with
  | rt u m => exact (show r = .ok u m from h).symm
  | err x _ m => exact (show r = .err x m from h).symm
  | bad => exact (show r = .bad from h).symm
  | _ => exact (show False from h).elim
theorem rt_seq {a c : S1} (h : okS (a t m) (fun t' m' => rtS r (c t' m')) fun _ _ => False) : rtS r (sSeq a c t m) := by
  unfold sSeq
  cases e : a t m with
  | nx t' m' => rw [e] at h; exact h
  | _ => rw [e] at h; exact (show False from h).elim
theorem rt_seq1 {a c : S1} (h : rtS r (a t m)) : rtS r (sSeq a c t m) := by
  unfold sSeq
  cases e : a t m with
  | nx t' m' => rw [e] at h; exact (show False from h).elim
  | _ => rw [e] at h; exact h
theorem rt_ret {f : E1} (h : f t m = r) : rtS r (sRet f t m) := by
  unfold sRet sE
  cases e : f t m with
  | ok u m1 => exact (h.symm.trans e)
  | err y m1 => exact (h.symm.trans e)
  | bad => exact (h.symm.trans e)
theorem rt_raise {n : Str} : rtS (.err ⟨n, []⟩ m) (sRaise n t m) := rfl
theorem rt_take {q : Fn1 Bool} {a c d : S1} (h : okO (q t m) fun y m1 => y = true ∧ rtS r (a t m1)) : rtS r (sSeq (sIf q a c) d t m) := by
  refine rt_seq1 ?_
  unfold sIf sE
  cases e : q t m with
  | ok y m1 =>
    rw [e] at h
    obtain ⟨rfl, h2⟩ := (show y = true ∧ rtS r (a t m1) from h)
    exact h2
  | _ => rw [e] at h; exact (show False from h).elim
theorem rt_skip {q : Fn1 Bool} {a d : S1} (h : okO (q t m) fun y m1 => y = false ∧ rtS r (d t m1)) : rtS r (sSeq (sIf q a sNx) d t m) := by
  refine rt_seq ?_
  rw [ok_sIf]
  refine okO_mono h fun y m1 ⟨h1, h2⟩ => ⟨fun z => (by rw [h1] at z; cases z), fun _ => h2⟩
theorem call_is {n : Nat} {F : List U → List U → MH → Out U} {a : Fn1 (List U)} (h : okO (a t m) fun us m1 => us.length = n ∧ F us [] m1 = r) : cCallK n 0 F a cNil t m = r := by
  unfold cCallK
  cases e : a t m with
  | ok us m1 =>
    rw [e] at h
    show (if us.length = n ∧ ([] : List U).length = 0 then F us [] m1 else .bad) = _
    rw [if_pos ⟨h.1, rfl⟩]
    exact h.2
  | _ => rw [e] at h; exact (show False from h).elim
/-! ### steps, by parts -/
inductive Sp where
  | pay (s : Bool) (amt : Int) | lok (s : Bool) (amt sl la : Int) | pas | dro (k : Int) | fol (k x : Int)
def Sp.u : Sp → U
  | .pay s amt => .tup [.str "pay", .str (sdS s), .int amt]
  | .lok s amt sl la => .tup [.str "lock", .str (sdS s), .int amt, .int sl, .int la]
  | .pas => .tup [.str "pass"]
  | .dro k => .tup [.str "drop", .int k]
  | .fol k x => .tup [.str "fold", .int k, .int x]
def SpOk : Sp → Prop
  | .pay _ amt => 1 ≤ amt
  | .lok _ amt sl la => 1 ≤ amt ∧ 0 ≤ sl ∧ 0 ≤ la
  | .pas => True
  | .dro k => 1 ≤ k
  | .fol k x => 1 ≤ k ∧ 0 ≤ x
def lkU (n : Int) (s : Bool) (amt sl la : Int) : U := .tup [.int n, .str (sdS s), .int amt, .int sl, .int la]
def sideOf : U → Bool
  | .tup (_ :: .str z :: _) => decide (z = "left")
  | _ => false
def sealOf : U → Int
  | .tup (_ :: _ :: _ :: .int a :: _) => a
  | _ => 0
def droV (a n c d : Int) (ls : List U) (k : Int) : Option U → Option U
  | none => none
  | some l => movedV a n c d (sideOf l) (amtOf l) (ls.filter fun l => !hasId k l)
def folV (a n c d : Int) (ls : List U) (k x : Int) : Option U → Option U
  | none => none
  | some l => if 3 * x + 17 = sealOf l then movedV a n c d (!sideOf l) (amtOf l) (ls.filter fun l => !hasId k l) else none
def nextV (a n c d : Int) (ls : List U) : Sp → Option U
  | .pay s amt => paidV a n c d s amt ls
  | .lok s amt sl la => movedV a n c d s (0 - amt) (ls ++ [lkU (n + 1) s amt sl la])
  | .pas => movedV a n c d true 0 ls
  | .dro k => droV a n c d ls k (ls.find? (hasId k))
  | .fol k x => folV a n c d ls k x (ls.find? (hasId k))
theorem lock_sd {l : U} (h : lockB l = true) : ∃ (i : Int) (s : Bool) (amt sl la : Int), l = lkU i s amt sl la ∧ 1 ≤ i ∧ 1 ≤ amt ∧ 0 ≤ sl ∧ 0 ≤ la ∧ sideOf l = s ∧ amtOf l = amt ∧ sealOf l = sl ∧ idOf l = i := by
  obtain ⟨i, z, c, d, e, rfl, h1, hz, h2, h3, h4⟩ := lock_all h
  rcases hz with rfl | rfl
  · exact ⟨i, true, c, d, e, rfl, h1, h2, h3, h4, by kernel_rfl, rfl, rfl, rfl⟩
  · exact ⟨i, false, c, d, e, rfl, h1, h2, h3, h4, by kernel_rfl, rfl, rfl, rfl⟩
theorem sdS_or (s : Bool) : sdS s = "left" ∨ sdS s = "right" := by
  cases s
  · exact .inr rfl
  · exact .inl rfl
theorem rd_sd (s : Bool) : rdU (.str (sdS s)) = true := by cases s <;> kernel_rfl
theorem sideB_sd (s : Bool) : sideB (.str (sdS s)) = true := by cases s <;> kernel_rfl
theorem lk_rd {n amt sl la : Int} {s : Bool} : rdU (lkU n s amt sl la) = true := by
  show (true && (rdU (.str (sdS s)) && true)) = true
  rw [rd_sd]
  rfl
theorem rd_all : ∀ {us : List U}, (∀ u ∈ us, rdU u = true) → rdUs us = true
  | [], _ => rfl
  | u :: us, h => by
    show (rdU u && rdUs us) = true
    rw [h u List.mem_cons_self, rd_all fun v hv => h v (List.mem_cons_of_mem _ hv)]
    rfl
theorem state_rd {a n c d : Int} {ls : List U} (h : ∀ l ∈ ls, lockB l = true) : rdU (stU a n c d ls) = true := by
  show (true && (true && (true && (true && (rdUs ls && true))))) = true
  rw [rd_all fun u hu => by obtain ⟨i, s, amt, sl, la, rfl, _⟩ := lock_sd (h u hu); exact lk_rd]
  rfl
theorem sp_rd (sp : Sp) : rdU sp.u = true := by
  cases sp with
  | pay s amt => show (true && (rdU (.str (sdS s)) && true)) = true; rw [rd_sd]; rfl
  | lok s amt sl la => show (true && (rdU (.str (sdS s)) && true)) = true; rw [rd_sd]; rfl
  | _ => kernel_rfl
theorem sp_step {sp : Sp} (h : SpOk sp) : stepB sp.u = true := by
  cases sp with
  | pay s amt =>
    have e : stepB (Sp.pay s amt).u = (sideB (.str (sdS s)) && geB 1 (.int amt)) := by cases s <;> kernel_rfl
    rw [e, sideB_sd, ge_true (show 1 ≤ amt from h)]
    rfl
  | lok s amt sl la =>
    have e : stepB (Sp.lok s amt sl la).u = lockB (lkU 1 s amt sl la) := by cases s <;> kernel_rfl
    rw [e]
    exact lock_mk (by decide) (sdS_or s) h.1 h.2.1 h.2.2
  | pas => kernel_rfl
  | dro k =>
    have e : stepB (Sp.dro k).u = geB 1 (.int k) := by kernel_rfl
    rw [e]
    exact ge_true h
  | fol k x =>
    have e : stepB (Sp.fol k x).u = (geB 1 (.int k) && geB 0 (.int x)) := by kernel_rfl
    rw [e, ge_true h.1, ge_true h.2]
    rfl
def SealK (call : CallT) : Prop := ∀ m (i : Int), 0 ≤ i → call ("seal_of", none) [.int i] m = .ok (.int (3 * i + 17)) m
theorem seal_end (hC : CountK call) {i : Int} (h : 0 ≤ i) : endO (P_seal_of T call [some (.int i)] m) = .ok (.int (3 * i + 17)) m := by
  refine rt_end ?_
  unfold P_seal_of
  have mo : mulOk 3 i = true := by
    unfold mulOk
    rw [Bool.or_eq_true, Bool.or_eq_true]
    exact .inl (.inl rfl)
  refine rt_skip ?_
  simp only [ok_cNot, ok_cTruth, ok_cCallK, ok_cCons, ok_cVar0, ok_cNil, hC m (.int i) rfl, okO_ok, okT_bl, ge_true h]
  refine ⟨rfl, rfl, rfl, rt_seq1 (rt_ret ?_)⟩
  refine ok_eq ?_
  simp only [ok_cBin, ok_cK, ok_cVar0, ok_mul mo, ok_add]
  exact ⟨trivial, trivial⟩
def NextK (call : CallT) : Prop := ∀ m a n c d ls sp, stateB (stU a n c d ls) = true → SpOk sp → call ("next_state", none) [stU a n c d ls, sp.u] m = resO m (nextV a n c d ls sp)
structure NextD (call : CallT) : Prop where
  need : NeedK call
  step : StepK call
  paid : PaidK call
  moved : MovedK call
  lockof : LockOfK call
  but : ButK call
  sea : SealK call
  other : OtherK call
theorem biList_tup {ls : List U} (h : ls.length ≤ 1000) : okP (biList [.tup ls] m) Q ↔ Q (.fl ls) m := ok_biLiT (line_of (by omega))
theorem w_lp : decide (("lock" : Str) = "pay") = false := by kernel_rfl
theorem w_pp : decide (("pass" : Str) = "pay") = false := by kernel_rfl
theorem w_pl : decide (("pass" : Str) = "lock") = false := by kernel_rfl
theorem w_dp : decide (("drop" : Str) = "pay") = false := by kernel_rfl
theorem w_dl : decide (("drop" : Str) = "lock") = false := by kernel_rfl
theorem w_ds : decide (("drop" : Str) = "pass") = false := by kernel_rfl
theorem w_fp : decide (("fold" : Str) = "pay") = false := by kernel_rfl
theorem w_fl : decide (("fold" : Str) = "lock") = false := by kernel_rfl
theorem w_fs : decide (("fold" : Str) = "pass") = false := by kernel_rfl
theorem w_fd : decide (("fold" : Str) = "drop") = false := by kernel_rfl
theorem next_end (D : NextD call) {a n c d : Int} {ls : List U} {sp : Sp} (hs : stateB (stU a n c d ls) = true) (ho : SpOk sp) :
    endO (P_next_state T call [some (stU a n c d ls), some sp.u, none, none, none] m) = resO m (nextV a n c d ls sp) := by
  obtain ⟨a', n', c', d', ls', e, a0, n0, c0, d0, hl, hk, hr, he⟩ := state_all hs
  have e' : ls = ls' := by cases e; rfl
  subst e'
  have rs : rdU (stU a n c d ls) = true := state_rd hk
  have st := sp_step ho
  have i1 : ∀ {Q : U → MH → Prop}, okP (idxU (stU a n c d ls) (.int 1) m) Q ↔ Q (.int n) m := ok_idxT rfl
  have i4 : ∀ {Q : U → MH → Prop}, okP (idxU (stU a n c d ls) (.int 4) m) Q ↔ Q (.tup ls) m := ok_idxT rfl
  refine rt_end ?_
  unfold P_next_state
  refine rt_seq ?_
  simp only [ok_sDrop, ok_cCallK, ok_cCons, ok_cVar0, ok_cNil, D.need m _ rs hs, okO_ok]
  refine ⟨rfl, rfl, rt_skip ?_⟩
  simp only [ok_cNot, ok_cTruth, ok_cCallK, ok_cCons, ok_cVarS, ok_cVar0, ok_cNil, D.step m _ (sp_rd sp), okO_ok, okT_bl, st]
  refine ⟨rfl, rfl, rfl, rt_seq ?_⟩
  cases sp with
  | pay s amt =>
    have j0 : ∀ {Q : U → MH → Prop}, okP (idxU (Sp.pay s amt).u (.int 0) m) Q ↔ Q (.str "pay") m := ok_idxT rfl
    have j1 : ∀ {Q : U → MH → Prop}, okP (idxU (Sp.pay s amt).u (.int 1) m) Q ↔ Q (.str (sdS s)) m := ok_idxT rfl
    have j2 : ∀ {Q : U → MH → Prop}, okP (idxU (Sp.pay s amt).u (.int 2) m) Q ↔ Q (.int amt) m := ok_idxT rfl
    simp only [ok_sAsg, ok_cBin, ok_cVarS, ok_cVar0, ok_cK, j0, ok_gName, List.set_cons_succ, List.set_cons_zero]
    refine rt_take ?_
    simp only [ok_cIsBl, ok_cBin, ok_cVarS, ok_cVar0, ok_cK, ok_eqS, ok_blOf, decide_true]
    refine ⟨trivial, rt_seq1 (rt_ret (call_is ?_))⟩
    simp only [ok_cCons, ok_cVarS, ok_cVar0, ok_cNil, ok_cBin, ok_cK, j1, j2]
    exact ⟨rfl, D.paid m a n c d ls s amt (by omega)⟩
  | lok s amt sl la =>
    have j0 : ∀ {Q : U → MH → Prop}, okP (idxU (Sp.lok s amt sl la).u (.int 0) m) Q ↔ Q (.str "lock") m := ok_idxT rfl
    have j1 : ∀ {Q : U → MH → Prop}, okP (idxU (Sp.lok s amt sl la).u (.int 1) m) Q ↔ Q (.str (sdS s)) m := ok_idxT rfl
    have j2 : ∀ {Q : U → MH → Prop}, okP (idxU (Sp.lok s amt sl la).u (.int 2) m) Q ↔ Q (.int amt) m := ok_idxT rfl
    have ct : cutU [.str "lock", .str (sdS s), .int amt, .int sl, .int la] (some 1) none = [.str (sdS s), .int amt, .int sl, .int la] := cut_tail _ _
    have us : (Sp.lok s amt sl la).u = .tup [.str "lock", .str (sdS s), .int amt, .int sl, .int la] := rfl
    simp only [ok_sAsg, ok_cBin, ok_cVarS, ok_cVar0, ok_cK, j0, ok_gName, List.set_cons_succ, List.set_cons_zero]
    refine rt_skip ?_
    simp only [ok_cIsBl, ok_cBin, ok_cVarS, ok_cVar0, ok_cK, ok_eqS, ok_blOf, w_lp]
    refine ⟨trivial, rt_take ?_⟩
    simp only [ok_cIsBl, ok_cBin, ok_cVarS, ok_cVar0, ok_cK, ok_eqS, ok_blOf, decide_true]
    refine ⟨trivial, rt_seq ?_⟩
    simp only [ok_sAsg, ok_cBin, ok_cVarS, ok_cVar0, ok_cK, ok_cFn, ok_cCons, ok_cNil, i1, ok_add, ok_mkTup (us := [U.int (n + 1)]) rfl, ok_cSlice, ok_cPart_none, ok_cPart_some, okI_int]
    rw [us, ok_slcT, ct, ok_addT (by rfl)]
    simp only [ok_gName, List.set_cons_succ, List.set_cons_zero]
    refine rt_seq1 (rt_ret (call_is ?_))
    rw [← us]
    simp only [ok_cCons, ok_cVarS, ok_cVar0, ok_cNil, ok_cBin, ok_cK, j1, j2, i4, ok_cFn, ok_sub]
    rw [biList_tup (by omega), ok_mkFl rfl, ok_addF (line_of (by simp; omega))]
    exact ⟨rfl, D.moved m a n c d ls s (0 - amt) _ _ (.inr rfl) (by simp; omega)⟩
  | pas =>
    have j0 : ∀ {Q : U → MH → Prop}, okP (idxU Sp.pas.u (.int 0) m) Q ↔ Q (.str "pass") m := ok_idxT rfl
    simp only [ok_sAsg, ok_cBin, ok_cVarS, ok_cVar0, ok_cK, j0, ok_gName, List.set_cons_succ, List.set_cons_zero]
    refine rt_skip ?_
    simp only [ok_cIsBl, ok_cBin, ok_cVarS, ok_cVar0, ok_cK, ok_eqS, ok_blOf, w_pp]
    refine ⟨trivial, rt_skip ?_⟩
    simp only [ok_cIsBl, ok_cBin, ok_cVarS, ok_cVar0, ok_cK, ok_eqS, ok_blOf, w_pl]
    refine ⟨trivial, rt_take ?_⟩
    simp only [ok_cIsBl, ok_cBin, ok_cVarS, ok_cVar0, ok_cK, ok_eqS, ok_blOf, decide_true]
    refine ⟨trivial, rt_seq1 (rt_ret (call_is ?_))⟩
    simp only [ok_cCons, ok_cVarS, ok_cVar0, ok_cNil, ok_cBin, ok_cK, i4]
    exact ⟨rfl, D.moved m a n c d ls true 0 _ _ (.inl rfl) (by omega)⟩
  | dro k =>
    have j0 : ∀ {Q : U → MH → Prop}, okP (idxU (Sp.dro k).u (.int 0) m) Q ↔ Q (.str "drop") m := ok_idxT rfl
    have j1 : ∀ {Q : U → MH → Prop}, okP (idxU (Sp.dro k).u (.int 1) m) Q ↔ Q (.int k) m := ok_idxT rfl
    simp only [ok_sAsg, ok_cBin, ok_cVarS, ok_cVar0, ok_cK, j0, ok_gName, List.set_cons_succ, List.set_cons_zero]
    refine rt_skip ?_
    simp only [ok_cIsBl, ok_cBin, ok_cVarS, ok_cVar0, ok_cK, ok_eqS, ok_blOf, w_dp]
    refine ⟨trivial, rt_skip ?_⟩
    simp only [ok_cIsBl, ok_cBin, ok_cVarS, ok_cVar0, ok_cK, ok_eqS, ok_blOf, w_dl]
    refine ⟨trivial, rt_skip ?_⟩
    simp only [ok_cIsBl, ok_cBin, ok_cVarS, ok_cVar0, ok_cK, ok_eqS, ok_blOf, w_ds]
    refine ⟨trivial, ?_⟩
    have hlo := D.lockof m a n c d ls k hk (by omega)
    show rtS (resO m (droV a n c d ls k (ls.find? (hasId k)))) _
    cases hf : ls.find? (hasId k) with
    | none =>
      rw [hf] at hlo
      refine rt_seq1 ?_
      have hc : cCallK 2 0 (fun as _ m => call ("lock_of", none) as m) (cCons (cVar 0) (cCons (cBin idxU (cVar 1) (cK (.int 1))) cNil)) cNil [some (stU a n c d ls), some (Sp.dro k).u, some (.str "drop"), none, none] m = .err noStep m := call_is (by
        simp only [ok_cCons, ok_cVarS, ok_cVar0, ok_cNil, ok_cBin, ok_cK, j1]
        exact ⟨rfl, hlo⟩)
      unfold sAsg sE
      rw [hc]
      rfl
    | some l =>
      rw [hf] at hlo
      have hlo' : call ("lock_of", none) [stU a n c d ls, .int k] m = .ok l m := hlo
      obtain ⟨i, s, amt, sl, la, rfl, q1, q2, q3, q4, q5, q6, q7, q8⟩ := lock_sd (hk l (List.mem_of_find?_eq_some hf))
      have l1 : ∀ {Q : U → MH → Prop}, okP (idxU (lkU i s amt sl la) (.int 1) m) Q ↔ Q (.str (sdS s)) m := ok_idxT rfl
      have l2 : ∀ {Q : U → MH → Prop}, okP (idxU (lkU i s amt sl la) (.int 2) m) Q ↔ Q (.int amt) m := ok_idxT rfl
      refine rt_seq ?_
      simp only [ok_sAsg, ok_cCallK, ok_cCons, ok_cVarS, ok_cVar0, ok_cNil, ok_cBin, ok_cK, j1, hlo', okO_ok, ok_gName, List.set_cons_succ, List.set_cons_zero]
      refine ⟨rfl, rfl, rt_take ?_⟩
      simp only [ok_cIsBl, ok_cBin, ok_cVarS, ok_cVar0, ok_cK, ok_eqS, ok_blOf, decide_true]
      refine ⟨trivial, rt_seq1 (rt_ret (call_is ?_))⟩
      simp only [ok_cCons, ok_cVarS, ok_cVar0, ok_cNil, ok_cBin, ok_cK, l1, l2, j1, ok_cCallK, D.but m a n c d ls k hk (by omega), okO_ok]
      refine ⟨rfl, rfl, rfl, ?_⟩
      show _ = resO m (movedV a n c d (sideOf (lkU i s amt sl la)) (amtOf (lkU i s amt sl la)) _)
      rw [q5, q6]
      exact D.moved m a n c d ls s amt _ _ (.inr rfl) (Nat.le_trans (List.length_filter_le _ _) (by omega))
  | fol k x =>
    have j0 : ∀ {Q : U → MH → Prop}, okP (idxU (Sp.fol k x).u (.int 0) m) Q ↔ Q (.str "fold") m := ok_idxT rfl
    have j1 : ∀ {Q : U → MH → Prop}, okP (idxU (Sp.fol k x).u (.int 1) m) Q ↔ Q (.int k) m := ok_idxT rfl
    have j2 : ∀ {Q : U → MH → Prop}, okP (idxU (Sp.fol k x).u (.int 2) m) Q ↔ Q (.int x) m := ok_idxT rfl
    simp only [ok_sAsg, ok_cBin, ok_cVarS, ok_cVar0, ok_cK, j0, ok_gName, List.set_cons_succ, List.set_cons_zero]
    refine rt_skip ?_
    simp only [ok_cIsBl, ok_cBin, ok_cVarS, ok_cVar0, ok_cK, ok_eqS, ok_blOf, w_fp]
    refine ⟨trivial, rt_skip ?_⟩
    simp only [ok_cIsBl, ok_cBin, ok_cVarS, ok_cVar0, ok_cK, ok_eqS, ok_blOf, w_fl]
    refine ⟨trivial, rt_skip ?_⟩
    simp only [ok_cIsBl, ok_cBin, ok_cVarS, ok_cVar0, ok_cK, ok_eqS, ok_blOf, w_fs]
    refine ⟨trivial, ?_⟩
    have hlo := D.lockof m a n c d ls k hk (by omega)
    show rtS (resO m (folV a n c d ls k x (ls.find? (hasId k)))) _
    cases hf : ls.find? (hasId k) with
    | none =>
      rw [hf] at hlo
      refine rt_seq1 ?_
      have hc : cCallK 2 0 (fun as _ m => call ("lock_of", none) as m) (cCons (cVar 0) (cCons (cBin idxU (cVar 1) (cK (.int 1))) cNil)) cNil [some (stU a n c d ls), some (Sp.fol k x).u, some (.str "fold"), none, none] m = .err noStep m := call_is (by
        simp only [ok_cCons, ok_cVarS, ok_cVar0, ok_cNil, ok_cBin, ok_cK, j1]
        exact ⟨rfl, hlo⟩)
      unfold sAsg sE
      rw [hc]
      rfl
    | some l =>
      rw [hf] at hlo
      have hlo' : call ("lock_of", none) [stU a n c d ls, .int k] m = .ok l m := hlo
      obtain ⟨i, s, amt, sl, la, rfl, q1, q2, q3, q4, q5, q6, q7, q8⟩ := lock_sd (hk l (List.mem_of_find?_eq_some hf))
      have l1 : ∀ {Q : U → MH → Prop}, okP (idxU (lkU i s amt sl la) (.int 1) m) Q ↔ Q (.str (sdS s)) m := ok_idxT rfl
      have l2 : ∀ {Q : U → MH → Prop}, okP (idxU (lkU i s amt sl la) (.int 2) m) Q ↔ Q (.int amt) m := ok_idxT rfl
      have l3 : ∀ {Q : U → MH → Prop}, okP (idxU (lkU i s amt sl la) (.int 3) m) Q ↔ Q (.int sl) m := ok_idxT rfl
      refine rt_seq ?_
      simp only [ok_sAsg, ok_cCallK, ok_cCons, ok_cVarS, ok_cVar0, ok_cNil, ok_cBin, ok_cK, j1, hlo', okO_ok, ok_gName, List.set_cons_succ, List.set_cons_zero]
      refine ⟨rfl, rfl, rt_skip ?_⟩
      simp only [ok_cIsBl, ok_cBin, ok_cVarS, ok_cVar0, ok_cK, ok_eqS, ok_blOf, w_fd]
      refine ⟨trivial, ?_⟩
      show rtS (resO m (if 3 * x + 17 = sealOf (lkU i s amt sl la) then movedV a n c d (!sideOf (lkU i s amt sl la)) (amtOf (lkU i s amt sl la)) (ls.filter fun l => !hasId k l) else none)) _
      rw [q5, q6, q7]
      by_cases hx : 3 * x + 17 = sl
      · rw [if_pos hx]
        refine rt_skip ?_
        simp only [ok_cIsBl, ok_cBin, ok_cVarS, ok_cVar0, ok_cK, ok_cCallK, ok_cCons, ok_cNil, j2, l3, D.sea m x ho.2, okO_ok, ok_neI, ok_blOf, hx, decide_true]
        refine ⟨rfl, rfl, rfl, rt_seq1 (rt_ret (call_is ?_))⟩
        simp only [ok_cCons, ok_cVarS, ok_cVar0, ok_cNil, ok_cBin, ok_cK, l1, l2, j1, ok_cCallK, D.but m a n c d ls k hk (by omega), D.other m s, okO_ok]
        refine ⟨rfl, rfl, rfl, rfl, rfl, ?_⟩
        exact D.moved m a n c d ls (!s) amt _ _ (.inr rfl) (Nat.le_trans (List.length_filter_le _ _) (by omega))
      · rw [if_neg hx]
        refine rt_take ?_
        simp only [ok_cIsBl, ok_cBin, ok_cVarS, ok_cVar0, ok_cK, ok_cCallK, ok_cCons, ok_cNil, j2, l3, D.sea m x ho.2, okO_ok, ok_neI, ok_blOf, decide_eq_false hx]
        exact ⟨rfl, rfl, rfl, rt_seq1 rt_raise⟩
end
end Mi
/-! what defs do that several laws share, by own values. -/
namespace Mi
open PySem PySem.Spec PyProof.Rows L2
set_option linter.unusedVariables false
def P_law_next6 (T : Tab) (call : FKey → List U → MH → Out U) : S1 := (sSeq (sAsg (cVar 0) (gTup [(gName 4), (gName 5), (gName 6), (gName 7), (gName 8)])) (sSeq (sAsg (cDict true [((cK (.str "left")), (cVar 6)), ((cK (.str "right")), (cVar 7))]) (gName 2)) (sSeq (sAsg (cDict true [((cK (.str "left")), (cK (.str "right"))), ((cK (.str "right")), (cK (.str "left")))]) (gName 3)) (sSeq (sIf (cOr (cIsBl (cBin eqU (cBin idxU (cVar 1) (cK (.int 0))) (cK (.str "pay")))) (cIsBl (cBin eqU (cBin idxU (cVar 1) (cK (.int 0))) (cK (.str "lock"))))) (sSeq (sAsg (cBin subU (cBin idxU (cVar 2) (cBin idxU (cVar 1) (cK (.int 1)))) (cBin idxU (cVar 1) (cK (.int 2)))) (gSubU (cVar 2) (cBin idxU (cVar 1) (cK (.int 1))))) (sSeq (sIf (cIsBl (cBin (cmpI ltI) (cBin idxU (cVar 2) (cBin idxU (cVar 1) (cK (.int 1)))) (cK (.int 0)))) (sSeq (sRet (cK .non)) sNx) sNx) sNx)) sNx) (sSeq (sIf (cIsBl (cBin eqU (cBin idxU (cVar 1) (cK (.int 0))) (cK (.str "pay")))) (sSeq (sAsg (cBin addU (cBin idxU (cVar 2) (cBin idxU (cVar 3) (cBin idxU (cVar 1) (cK (.int 1))))) (cBin idxU (cVar 1) (cK (.int 2)))) (gSubU (cVar 2) (cBin idxU (cVar 3) (cBin idxU (cVar 1) (cK (.int 1)))))) sNx) sNx) (sSeq (sIf (cIsBl (cBin eqU (cBin idxU (cVar 1) (cK (.int 0))) (cK (.str "lock")))) (sSeq (sAsg (cBin addU (cVar 8) (cFn mkTup (cCons (cBin addU (cFn mkTup (cCons (cBin addU (cVar 5) (cK (.int 1))) cNil)) (cSlice (cVar 1) (some (cK (.int 1))) none)) cNil))) (gName 8)) sNx) sNx) (sSeq (sIf (cOr (cIsBl (cBin eqU (cBin idxU (cVar 1) (cK (.int 0))) (cK (.str "fold")))) (cIsBl (cBin eqU (cBin idxU (cVar 1) (cK (.int 0))) (cK (.str "drop"))))) (sSeq (sAsg (cLc false (cIt (cVar 8)) (gName 11) (cIsBl (cBin eqU (cBin idxU (cVar 11) (cK (.int 0))) (cBin idxU (cVar 1) (cK (.int 1))))) (cVar 11) [11]) (gName 9)) (sSeq (sIf (cOr (cIsBl (cBin eqU (cVar 9) (cFn mkFl cNil))) (cAnd (cIsBl (cBin eqU (cBin idxU (cVar 1) (cK (.int 0))) (cK (.str "fold")))) (cIsBl (cBin neU (cCallK 1 0 (fun as _ m => call ("seal_of", none) as m) (cCons (cBin idxU (cVar 1) (cK (.int 2))) cNil) cNil) (cBin idxU (cBin idxU (cVar 9) (cK (.int 0))) (cK (.int 3))))))) (sSeq (sRet (cK .non)) sNx) sNx) (sSeq (sAsg (cIf (cIsBl (cBin eqU (cBin idxU (cVar 1) (cK (.int 0))) (cK (.str "drop")))) (cBin idxU (cBin idxU (cVar 9) (cK (.int 0))) (cK (.int 1))) (cBin idxU (cVar 3) (cBin idxU (cBin idxU (cVar 9) (cK (.int 0))) (cK (.int 1))))) (gName 10)) (sSeq (sAsg (cBin addU (cBin idxU (cVar 2) (cVar 10)) (cBin idxU (cBin idxU (cVar 9) (cK (.int 0))) (cK (.int 2)))) (gSubU (cVar 2) (cVar 10))) (sSeq (sAsg (cFn biTuple (cCons (cLc false (cIt (cVar 8)) (gName 11) (cIsBl (cBin neU (cVar 11) (cBin idxU (cVar 9) (cK (.int 0))))) (cVar 11) [11]) cNil)) (gName 8)) sNx))))) sNx) (sSeq (sIf (cIsBl (cBin cmpG (cFn biLen (cCons (cVar 8) cNil)) (cK (.int 30)))) (sSeq (sRet (cK .non)) sNx) sNx) (sSeq (sRet (cFn mkTup (cCons (cVar 4) (cCons (cBin addU (cVar 5) (cK (.int 1))) (cCons (cBin idxU (cVar 2) (cK (.str "left"))) (cCons (cBin idxU (cVar 2) (cK (.str "right"))) (cCons (cVar 8) cNil))))))) sNx)))))))))
def P_law_same (T : Tab) (call : FKey → List U → MH → Out U) : S1 := (sSeq (sIf (cIsBl (cBin isU (cVar 1) (cK .non))) (sSeq (sRet (cBin isU (cVar 0) (cK .non))) sNx) sNx) (sSeq (sIf (cTruth (cFn (biIsa T) (cCons (cVar 1) (cCons (cFn mkTup (cCons (cK (.ty "list")) (cCons (cK (.ty "tuple")) cNil))) cNil)))) (sSeq (sIf (cOr (cNot (cTruth (cFn (biIsa T) (cCons (cVar 0) (cCons (cFn mkTup (cCons (cK (.ty "list")) (cCons (cK (.ty "tuple")) cNil))) cNil))))) (cIsBl (cBin neU (cFn (biIsa T) (cCons (cVar 0) (cCons (cK (.ty "list")) cNil))) (cFn (biIsa T) (cCons (cVar 1) (cCons (cK (.ty "list")) cNil)))))) (sSeq (sRet (cK (.bl false))) sNx) sNx) (sSeq (sRet (cAndV (cBin eqU (cFn biLen (cCons (cVar 0) cNil)) (cFn biLen (cCons (cVar 1) cNil))) (cFn biAll (cCons (cLc false (cRng1 (cCons (cFn biLen (cCons (cVar 1) cNil)) cNil)) (gName 2) cYes (cCallK 2 0 (fun as _ m => call ("_law_same", none) as m) (cCons (cBin idxU (cVar 0) (cVar 2)) (cCons (cBin idxU (cVar 1) (cVar 2)) cNil)) cNil) [2]) cNil)))) sNx)) sNx) (sSeq (sIf (cOr (cIsBl (cBin neU (cFn (biIsa T) (cCons (cVar 0) (cCons (cK (.ty "bool")) cNil))) (cFn (biIsa T) (cCons (cVar 1) (cCons (cK (.ty "bool")) cNil))))) (cIsBl (cBin neU (cFn (biIsa T) (cCons (cVar 0) (cCons (cK (.ty "int")) cNil))) (cFn (biIsa T) (cCons (cVar 1) (cCons (cK (.ty "int")) cNil)))))) (sSeq (sRet (cK (.bl false))) sNx) sNx) (sSeq (sRet (cAndV (cBin eqU (cFn (biIsa T) (cCons (cVar 0) (cCons (cK (.ty "str")) cNil))) (cFn (biIsa T) (cCons (cVar 1) (cCons (cK (.ty "str")) cNil)))) (cBin eqU (cVar 0) (cVar 1)))) sNx))))
def P_law_done (T : Tab) (call : FKey → List U → MH → Out U) : S1 := (sSeq (sAsg (cK .non) (gName 2)) (sSeq (sTry T (sSeq (sAsg (cCallK 2 0 (fun as _ m => call ("next_state", none) as m) (cCons (cVar 0) (cCons (cVar 1) cNil)) cNil) (gName 2)) sNx) [⟨"NoStep", none, (sSeq (sAsg (cK .non) (gName 2)) sNx)⟩]) (sSeq (sRet (cVar 2)) sNx)))
def P_law_amount (T : Tab) (call : FKey → List U → MH → Out U) : S1 := (sSeq (sAsg (cCallK 2 0 (fun as _ m => call ("_law_draw", none) as m) (cCons (cVar 0) (cCons (cK (.int 5)) cNil)) cNil) (gName 2)) (sSeq (sRet (cFn biMax (cCons (cK (.int 1)) (cCons (cBin idxU (cFn mkFl (cCons (cK (.int 1)) (cCons (cVar 1) (cCons (cBin addU (cVar 1) (cK (.int 1))) (cCons (cBin subU (cVar 1) (cK (.int 1))) (cCons (cCallK 1 0 (fun as _ m => call ("_law_count", none) as m) (cCons (cVar 0) cNil) cNil) cNil)))))) (cVar 2)) cNil)))) sNx))
def P_law_steps6 (T : Tab) (call : FKey → List U → MH → Out U) : S1 := (sSeq (sAsg (cFn mkLst (cCons (cFn mkTup (cCons (cK (.str "pass")) cNil)) cNil)) (gName 2)) (sSeq (sFor (cIt (cFn mkFl (cCons (cK (.str "left")) (cCons (cK (.str "right")) cNil)))) (gName 3) (sSeq (sAsg (cFn biMin (cCons (cIf (cIsBl (cBin eqU (cVar 3) (cK (.str "left")))) (cBin idxU (cVar 1) (cK (.int 2))) (cBin idxU (cVar 1) (cK (.int 3)))) (cCons (cBin subU (cBin powU (cK (.int 10)) (cK (.int 15))) (cK (.int 2))) cNil))) (gName 4)) (sSeq (sDrop (cMeth T "append" 1 [] (cVar 2) (cCons (cFn mkTup (cCons (cK (.str "pay")) (cCons (cVar 3) (cCons (cCallK 2 0 (fun as _ m => call ("_law_amount", none) as m) (cCons (cVar 0) (cCons (cVar 4) cNil)) cNil) cNil)))) cNil) cNil)) (sSeq (sDrop (cMeth T "append" 1 [] (cVar 2) (cCons (cFn mkTup (cCons (cK (.str "lock")) (cCons (cVar 3) (cCons (cCallK 2 0 (fun as _ m => call ("_law_amount", none) as m) (cCons (cVar 0) (cCons (cVar 4) cNil)) cNil) (cCons (cCallK 1 0 (fun as _ m => call ("_law_count", none) as m) (cCons (cVar 0) cNil) cNil) (cCons (cCallK 1 0 (fun as _ m => call ("_law_count", none) as m) (cCons (cVar 0) cNil) cNil) cNil)))))) cNil) cNil)) sNx)))) (sSeq (sRet (cVar 2)) sNx)))
def P_law_great6 (T : Tab) (call : FKey → List U → MH → Out U) : S1 := (sSeq (sAsg (cFn biTuple (cCons (cLc false (cRng1 (cCons (cBin addU (cK (.int 2)) (cCallK 2 0 (fun as _ m => call ("_law_draw", none) as m) (cCons (cVar 0) (cCons (cK (.int 28)) cNil)) cNil)) cNil)) (gName 4) cYes (cFn mkTup (cCons (cBin addU (cVar 4) (cK (.int 1))) (cCons (cK (.str "left")) (cCons (cBin subU (cBin powU (cK (.int 10)) (cK (.int 15))) (cK (.int 1))) (cCons (cCallK 1 0 (fun as _ m => call ("seal_of", none) as m) (cCons (cK (.int 3)) cNil) cNil) (cCons (cK (.int 0)) cNil)))))) [4]) cNil)) (gName 1)) (sSeq (sAsg (cFn mkTup (cCons (cK (.int 0)) (cCons (cK (.int 40)) (cCons (cBin subU (cBin powU (cK (.int 10)) (cK (.int 15))) (cK (.int 1))) (cCons (cBin subU (cBin powU (cK (.int 10)) (cK (.int 15))) (cK (.int 1))) (cCons (cVar 1) cNil)))))) (gName 2)) (sSeq (sFor (cIt (cSlice (cVar 1) none (some (cUn negU (cK (.int 1)))))) (gName 3) (sSeq (sAsg (cCallK 2 0 (fun as _ m => call ("next_state", none) as m) (cCons (cVar 2) (cCons (cFn mkTup (cCons (cK (.str "drop")) (cCons (cBin idxU (cVar 3) (cK (.int 0))) cNil))) cNil)) cNil) (gName 2)) sNx)) (sSeq (sRet (cVar 2)) sNx))))
end Mi
/-! Qs: the law's own reckoning of the next state: pays, locks, passes. -/
namespace Mi
open PySem PySem.Spec PyProof.Rows L2
set_option linter.unusedVariables false
set_option linter.unusedSimpArgs false
set_option maxRecDepth 10000
set_option exponentiation.threshold 2000
section
variable {T : Tab} {call : CallT} {m m0 : MH} {Q : U → MH → Prop} {t : Env1} {b g N p : Nat} {x : Ex} {r : Out U}
/-- what stood stands -/
def Ext0 (m m' : MH) : Prop := m.length ≤ m'.length ∧ ∀ i, i < m.length → m'[i]? = m[i]?
theorem Ext0.refl (m : MH) : Ext0 m m := ⟨Nat.le_refl _, fun _ _ => rfl⟩
theorem Ext0.push (m : MH) (o : MO) : Ext0 m (m ++ [o]) := ⟨by rw [List.length_append]; omega, fun i hi => List.getElem?_append_left hi⟩
theorem Ext0.trans {m m1 m2 : MH} (a : Ext0 m m1) (c : Ext0 m1 m2) : Ext0 m m2 := ⟨Nat.le_trans a.1 c.1, fun i hi => (c.2 i (Nat.lt_of_lt_of_le hi a.1)).trans (a.2 i hi)⟩
theorem Ext0.set {m m1 : MH} (a : Ext0 m m1) (hp : m.length ≤ p) (o : MO) : Ext0 m (m1.set p o) := ⟨by rw [List.length_set]; exact a.1, fun i hi => by rw [List.getElem?_set_ne (by omega)]; exact a.2 i hi⟩
theorem bag_ext {m m' : MH} (h : Bag m b g N) (e : Ext0 m m') : Bag m' b g N := by
  obtain ⟨gs, ls, n, s, h, hn⟩ := h
  exact ⟨gs, ls, n, s, ⟨by rw [e.2 _ (get_lt h.hb)]; exact h.hb, by rw [e.2 _ (get_lt h.hg)]; exact h.hg, h.ne, h.len, h.l0, h.lb, h.n0, h.s0, h.s1⟩, hn⟩
def dcO (c d : Int) : MO := .dic false [(.str "left", .int c), (.str "right", .int d)]
def doO : MO := .dic false [(.str "left", .str "right"), (.str "right", .str "left")]
theorem mk_dc {c d : Int} : okP (mkDict true [.str "left", .int c, .str "right", .int d] m) Q ↔ Q (.ref m.length) (m ++ [dcO c d]) := by
  have e : mkDict true [.str "left", .int c, .str "right", .int d] m = some (.ref m.length, m ++ [dcO c d]) := by kernel_rfl
  rw [e]
  exact Iff.rfl
theorem mk_do : okP (mkDict true [.str "left", .str "right", .str "right", .str "left"] m) Q ↔ Q (.ref m.length) (m ++ [doO]) := by
  have e : mkDict true [.str "left", .str "right", .str "right", .str "left"] m = some (.ref m.length, m ++ [doO]) := by kernel_rfl
  rw [e]
  exact Iff.rfl
@[simp] theorem ok_cDict {hp : Bool} {l : List (E1 × E1)} : okO (cDict hp l t m) Q ↔ okO (cFlat l t m) fun us m1 => okP (mkDict hp us m1) Q := by
  unfold cDict
  cases cFlat l t m with
  | ok us m1 =>
    show okO (ofO (mkDict hp us m1)) Q ↔ okP (mkDict hp us m1) Q
    exact okO_ofO
  | _ => exact Iff.rfl
theorem look_dc {c d : Int} {s : Bool} : lookK (.inr (sdS s)) [(.str "left", .int c), (.str "right", .int d)] = some (.int (shI s c d)) := by cases s <;> kernel_rfl
theorem ix_dc {c d : Int} {s : Bool} (h : m[p]? = some (dcO c d)) : okP (idxU (.ref p) (.str (sdS s)) m) Q ↔ Q (.int (shI s c d)) m := by
  have e : idxU (.ref p) (.str (sdS s)) m = some (.int (shI s c d), m) := by
    unfold idxU seqL dicAt dcO at *
    simp only [h]
    show ((keyU (.str (sdS s))).bind fun q => lookK q [(U.str "left", U.int c), (.str "right", .int d)]).map _ = _
    show (lookK (.inr (sdS s)) [(U.str "left", U.int c), (.str "right", .int d)]).map _ = _
    rw [look_dc]
    rfl
  rw [e]
  exact Iff.rfl
theorem look_do {s : Bool} : lookK (.inr (sdS s)) [(.str "left", .str "right"), (.str "right", .str "left")] = some (.str (sdS !s)) := by cases s <;> kernel_rfl
theorem ix_do {s : Bool} (h : m[p]? = some doO) : okP (idxU (.ref p) (.str (sdS s)) m) Q ↔ Q (.str (sdS !s)) m := by
  have e : idxU (.ref p) (.str (sdS s)) m = some (.str (sdS !s), m) := by
    unfold idxU seqL dicAt doO at *
    simp only [h]
    show (lookK (.inr (sdS s)) [(U.str "left", U.str "right"), (.str "right", .str "left")]).map _ = _
    rw [look_do]
    rfl
  rw [e]
  exact Iff.rfl
def pc : Bool → Int → Int → Int
  | true, x, _ => x
  | false, _, c => c
def pd : Bool → Int → Int → Int
  | true, _, d => d
  | false, x, _ => x
theorem put_dc {c d x : Int} {s : Bool} : MO.dic false (putU (.inr (sdS s)) (.str (sdS s)) (.int x) [(.str "left", .int c), (.str "right", .int d)]) = dcO (pc s x c) (pd s x d) := by cases s <;> kernel_rfl
theorem set_dc {c d x : Int} {s : Bool} (h : m[p]? = some (dcO c d)) : setU (.ref p) (.str (sdS s)) (.int x) m = some (m.set p (dcO (pc s x c) (pd s x d))) := by
  unfold setU dcO at *
  simp only [h]
  show (if lineOk 3 = true then some (m.set p (.dic false (putU (.inr (sdS s)) (.str (sdS s)) (.int x) [(.str "left", .int c), (.str "right", .int d)]))) else none) = _
  rw [if_pos (by rfl), put_dc]
  rfl
theorem shI_put (s : Bool) (x c d : Int) : shI s (pc s x c) (pd s x d) = x := by cases s <;> rfl
theorem shI_oth (s : Bool) (x c d : Int) : shI (!s) (pc s x c) (pd s x d) = shI (!s) c d := by cases s <;> rfl
def optU : Option U → U
  | some u => u
  | none => .non
theorem w_1 : decide (("pay" : Str) = "lock") = false := by kernel_rfl
theorem w_2 : decide (("pay" : Str) = "fold") = false := by kernel_rfl
theorem w_3 : decide (("pay" : Str) = "drop") = false := by kernel_rfl
theorem w_4 : decide (("lock" : Str) = "fold") = false := by kernel_rfl
theorem w_5 : decide (("lock" : Str) = "drop") = false := by kernel_rfl
theorem w_6 : decide (("pass" : Str) = "fold") = false := by kernel_rfl
theorem w_7 : decide (("pass" : Str) = "drop") = false := by kernel_rfl
/-- the last part: the length, then the tuple -/
def tail6 : S1 := (sSeq (sIf (cIsBl (cBin cmpG (cFn biLen (cCons (cVar 8) cNil)) (cK (.int 30)))) (sSeq (sRet (cK .non)) sNx) sNx) (sSeq (sRet (cFn mkTup (cCons (cVar 4) (cCons (cBin addU (cVar 5) (cK (.int 1))) (cCons (cBin idxU (cVar 2) (cK (.str "left"))) (cCons (cBin idxU (cVar 2) (cK (.str "right"))) (cCons (cVar 8) cNil))))))) sNx))
theorem tail6_ok {x0 x1 x3 x6 x7 x9 x10 x11 : Option U} {a n c d : Int} {ls : List U} {R : U → MH → Prop} (hp : m[p]? = some (dcO c d)) (h : R (optU (if 30 < ls.length then none else some (stU a (n + 1) c d ls))) m) :
    okS (tail6 [x0, x1, some (.ref p), x3, some (.int a), some (.int n), x6, x7, some (.tup ls), x9, x10, x11] m) (fun _ _ => False) R := by
  have iL : ∀ {Q : U → MH → Prop}, okP (idxU (.ref p) (.str "left") m) Q ↔ Q (.int c) m := ix_dc (s := true) hp
  have iR : ∀ {Q : U → MH → Prop}, okP (idxU (.ref p) (.str "right") m) Q ↔ Q (.int d) m := ix_dc (s := false) hp
  unfold tail6
  simp only [ok_sSeq, ok_sIf, ok_cIsBl, ok_cBin, ok_cFn, ok_cCons, ok_cVarS, ok_cVar0, ok_cNil, ok_cK, ok_lenT, ok_cmpG, ok_blOf, ok_sRet, ok_sNx, iL, iR, ok_add]
  by_cases h2 : 30 < ls.length
  · rw [if_pos h2] at h
    exact ⟨fun _ => h, fun z => absurd (show (30 : Int) < ls.length by omega) (of_decide_eq_false z)⟩
  · rw [if_neg h2] at h
    refine ⟨fun z => absurd (show 30 < ls.length by have := of_decide_eq_true z; omega) h2, fun _ => ?_⟩
    rw [ok_mkTup rfl]
    exact h
def LNextC (call : CallT) (P : Sp → Prop) : Prop := ∀ m a n c d ls sp, stateB (stU a n c d ls) = true → SpOk sp → P sp → okO (call ("_law_next", none) [stU a n c d ls, sp.u] m) fun v m' => v = optU (nextV a n c d ls sp) ∧ Ext0 m m'
def plp : Sp → Prop
  | .dro _ => False
  | .fol _ _ => False
  | _ => True
theorem lnext6_ok {a n c d : Int} {ls : List U} {sp : Sp} (hs : stateB (stU a n c d ls) = true) (ho : SpOk sp) (hq : plp sp) :
    okS (P_law_next6 T call [some (stU a n c d ls), some sp.u, none, none, none, none, none, none, none, none, none, none] m) (fun _ _ => False) fun v m' => v = optU (nextV a n c d ls sp) ∧ Ext0 m m' := by
  obtain ⟨a', n', c', d', ls', e, a0, n0, c0, d0, hl, hk, hr, he⟩ := state_all hs
  have e' : a = a' ∧ n = n' ∧ c = c' ∧ d = d' ∧ ls = ls' := by cases e; exact ⟨rfl, rfl, rfl, rfl, rfl⟩
  obtain ⟨rfl, rfl, rfl, rfl, rfl⟩ := e'
  have un : ∀ {P : Env1 → MH → Prop}, okP (gTup [(gName 4), (gName 5), (gName 6), (gName 7), (gName 8)] (stU a n c d ls) [some (stU a n c d ls), some sp.u, none, none, none, none, none, none, none, none, none, none] m) P ↔ P [some (stU a n c d ls), some sp.u, none, none, some (.int a), some (.int n), some (.int c), some (.int d), some (.tup ls), none, none, none] m := Iff.rfl
  unfold P_law_next6
  rw [ok_sSeq]
  simp only [ok_sAsg, ok_cVar0, un]
  rw [ok_sSeq]
  simp only [ok_sAsg, ok_cDict, cFlat, ok_cCons, ok_cNil, ok_cK, ok_cVarS, ok_cVar0, mk_dc, ok_gName, List.set_cons_succ, List.set_cons_zero]
  rw [ok_sSeq]
  simp only [ok_sAsg, ok_cDict, cFlat, ok_cCons, ok_cNil, ok_cK, mk_do, ok_gName, List.set_cons_succ, List.set_cons_zero]
  have hlen : (m ++ [dcO c d]).length = m.length + 1 := by simp
  rw [hlen]
  have ex2 : Ext0 m ((m ++ [dcO c d]) ++ [doO]) := (Ext0.push m _).trans (Ext0.push _ _)
  have e1 : ((m ++ [dcO c d]) ++ [doO])[m.length]? = some (dcO c d) := by
    rw [List.getElem?_append_left (by simp), List.getElem?_append_right (Nat.le_refl _), Nat.sub_self]
    rfl
  have e2 : ((m ++ [dcO c d]) ++ [doO])[m.length + 1]? = some doO := by
    rw [List.getElem?_append_right (by simp)]
    simp
  generalize (m ++ [dcO c d]) ++ [doO] = m2 at ex2 e1 e2 ⊢
  cases sp with
  | dro k => exact hq.elim
  | fol k x => exact hq.elim
  | pas =>
    have j0 : ∀ {Q : U → MH → Prop}, okP (idxU Sp.pas.u (.int 0) m2) Q ↔ Q (.str "pass") m2 := ok_idxT rfl
    rw [ok_sSeq]
    simp only [ok_sIf, ok_cOr, ok_cIsBl, ok_cBin, ok_cVarS, ok_cVar0, ok_cK, j0, ok_eqS, ok_blOf, w_pp, w_pl, ok_sNx]
    refine ⟨fun z => (nomatch z), fun _ => ⟨fun z => (nomatch z), fun _ => ?_⟩⟩
    rw [ok_sSeq]
    simp only [ok_sIf, ok_cIsBl, ok_cBin, ok_cVarS, ok_cVar0, ok_cK, j0, ok_eqS, ok_blOf, w_pp, ok_sNx]
    refine ⟨fun z => (nomatch z), fun _ => ?_⟩
    rw [ok_sSeq]
    simp only [ok_sIf, ok_cIsBl, ok_cBin, ok_cVarS, ok_cVar0, ok_cK, j0, ok_eqS, ok_blOf, w_pl, ok_sNx]
    refine ⟨fun z => (nomatch z), fun _ => ?_⟩
    rw [ok_sSeq]
    simp only [ok_sIf, ok_cOr, ok_cIsBl, ok_cBin, ok_cVarS, ok_cVar0, ok_cK, j0, ok_eqS, ok_blOf, w_6, w_7, ok_sNx]
    refine ⟨fun z => (nomatch z), fun _ => ⟨fun z => (nomatch z), fun _ => ?_⟩⟩
    refine tail6_ok e1 ⟨?_, ex2⟩
    have ev : nextV a n c d ls .pas = if 30 < ls.length then none else some (stU a (n + 1) c d ls) := by
      show movedV a n c d true 0 ls = _
      unfold movedV
      rw [if_neg (by show ¬ (c + 0 < 0); omega)]
      show (if 30 < ls.length then none else some (stU a (n + 1) (c + 0) d ls)) = _
      rw [Int.add_zero]
    rw [ev]
  | pay s amt =>
    have j0 : ∀ {m2 : MH} {Q : U → MH → Prop}, okP (idxU (Sp.pay s amt).u (.int 0) m2) Q ↔ Q (.str "pay") m2 := ok_idxT rfl
    have j1 : ∀ {m2 : MH} {Q : U → MH → Prop}, okP (idxU (Sp.pay s amt).u (.int 1) m2) Q ↔ Q (.str (sdS s)) m2 := ok_idxT rfl
    have j2 : ∀ {m2 : MH} {Q : U → MH → Prop}, okP (idxU (Sp.pay s amt).u (.int 2) m2) Q ↔ Q (.int amt) m2 := ok_idxT rfl
    rw [ok_sSeq]
    simp only [ok_sIf, ok_cOr, ok_cIsBl, ok_cBin, ok_cVarS, ok_cVar0, ok_cK, j0, ok_eqS, ok_blOf, decide_true]
    refine ⟨fun _ => ⟨fun _ => ?_, fun z => (nomatch z)⟩, fun z => (nomatch z)⟩
    rw [ok_sSeq]
    simp only [ok_sAsg, ok_cBin, ok_cVarS, ok_cVar0, ok_cK, j1, j2, ix_dc e1, ok_sub, ok_gSubU]
    refine ⟨_, set_dc e1, ?_⟩
    have e3 := get_set (o' := dcO (pc s (shI s c d - amt) c) (pd s (shI s c d - amt) d)) e1
    have e4 : (m2.set m.length (dcO (pc s (shI s c d - amt) c) (pd s (shI s c d - amt) d)))[m.length + 1]? = some doO := by rw [List.getElem?_set_ne (by omega)]; exact e2
    have ex3 := ex2.set (Nat.le_refl _) (dcO (pc s (shI s c d - amt) c) (pd s (shI s c d - amt) d))
    generalize m2.set m.length (dcO (pc s (shI s c d - amt) c) (pd s (shI s c d - amt) d)) = m3 at e3 e4 ex3 ⊢
    simp only [ok_sSeq, ok_sIf, ok_cIsBl, ok_cBin, ok_cVarS, ok_cVar0, ok_cK, j1, ix_dc e3, shI_put, ok_cmpI, ok_blOf, ok_sRet, ok_sNx]
    refine ⟨fun hx => ?_, fun hx => ?_⟩
    · have hx' : shI s c d - amt < 0 := of_decide_eq_true hx
      refine ⟨?_, ex3⟩
      show U.non = optU (paidV a n c d s amt ls)
      unfold paidV
      rw [if_pos (show shI s c d + (0 - amt) < 0 by omega)]
      rfl
    have hx' : ¬ (shI s c d - amt < 0) := of_decide_eq_false hx
    simp only [ok_sSeq, ok_sIf, ok_cIsBl, ok_cBin, ok_cVarS, ok_cVar0, ok_cK, j0, ok_eqS, ok_blOf, decide_true, ok_sAsg, j1, j2, ix_do e4, ix_dc e3, ok_add, ok_gSubU, ok_sNx]
    refine ⟨fun _ => ⟨_, set_dc e3, ?_⟩, fun z => (nomatch z)⟩
    rw [shI_oth]
    have e5 := get_set (o' := dcO (pc (!s) (shI (!s) c d + amt) (pc s (shI s c d - amt) c)) (pd (!s) (shI (!s) c d + amt) (pd s (shI s c d - amt) d))) e3
    have ex5 := ex3.set (Nat.le_refl _) (dcO (pc (!s) (shI (!s) c d + amt) (pc s (shI s c d - amt) c)) (pd (!s) (shI (!s) c d + amt) (pd s (shI s c d - amt) d)))
    generalize m3.set m.length (dcO (pc (!s) (shI (!s) c d + amt) (pc s (shI s c d - amt) c)) (pd (!s) (shI (!s) c d + amt) (pd s (shI s c d - amt) d))) = m5 at e5 ex5 ⊢
    simp only [ok_cBin, ok_cVarS, ok_cVar0, ok_cK, j0, ok_eqS, ok_blOf, w_1]
    refine ⟨fun z => (nomatch z), fun _ => ?_⟩
    simp only [ok_cBin, ok_cVarS, ok_cVar0, ok_cK, j0, ok_eqS, ok_blOf, w_2, w_3, ok_cOr, ok_cIsBl]
    refine ⟨fun z => (nomatch z), fun _ => ⟨fun z => (nomatch z), fun _ => ?_⟩⟩
    have tl := tail6_ok (R := fun v m' => v = optU (nextV a n c d ls (.pay s amt)) ∧ Ext0 m m') (x0 := some (stU a n c d ls)) (x1 := some (Sp.pay s amt).u) (x3 := some (.ref (m.length + 1))) (x6 := some (.int c)) (x7 := some (.int d)) (x9 := none) (x10 := none) (x11 := none) (a := a) (n := n) (ls := ls) e5 ⟨?_, ex5⟩
    · unfold tail6 at tl
      simp only [ok_sSeq, ok_sIf, ok_cIsBl, ok_cBin, ok_cVarS, ok_cVar0, ok_cK, ok_sRet, ok_sNx] at tl
      exact tl
    · show _ = optU (paidV a n c d s amt ls)
      unfold paidV
      rw [if_neg (show ¬ (shI s c d + (0 - amt) < 0) by omega)]
      by_cases h2 : 30 < ls.length
      · rw [if_pos h2, if_pos h2]
      · rw [if_neg h2, if_neg h2]
        cases s with
        | true =>
          show stU a (n + 1) (c - amt) (d + amt) ls = stU a (n + 1) (c + (0 - amt)) (d + amt) ls
          rw [show c - amt = c + (0 - amt) by omega]
        | false =>
          show stU a (n + 1) (c + amt) (d - amt) ls = stU a (n + 1) (c + amt) (d + (0 - amt)) ls
          rw [show d - amt = d + (0 - amt) by omega]
  | lok s amt sl la =>
    have j0 : ∀ {m2 : MH} {Q : U → MH → Prop}, okP (idxU (Sp.lok s amt sl la).u (.int 0) m2) Q ↔ Q (.str "lock") m2 := ok_idxT rfl
    have j1 : ∀ {m2 : MH} {Q : U → MH → Prop}, okP (idxU (Sp.lok s amt sl la).u (.int 1) m2) Q ↔ Q (.str (sdS s)) m2 := ok_idxT rfl
    have j2 : ∀ {m2 : MH} {Q : U → MH → Prop}, okP (idxU (Sp.lok s amt sl la).u (.int 2) m2) Q ↔ Q (.int amt) m2 := ok_idxT rfl
    have ct : cutU [.str "lock", .str (sdS s), .int amt, .int sl, .int la] (some 1) none = [.str (sdS s), .int amt, .int sl, .int la] := cut_tail _ _
    have us : (Sp.lok s amt sl la).u = .tup [.str "lock", .str (sdS s), .int amt, .int sl, .int la] := rfl
    rw [ok_sSeq]
    simp only [ok_sIf, ok_cOr, ok_cIsBl, ok_cBin, ok_cVarS, ok_cVar0, ok_cK, j0, ok_eqS, ok_blOf, decide_true, w_lp]
    refine ⟨fun z => (nomatch z), fun _ => ⟨fun _ => ?_, fun z => (nomatch z)⟩⟩
    rw [ok_sSeq]
    simp only [ok_sAsg, ok_cBin, ok_cVarS, ok_cVar0, ok_cK, j1, j2, ix_dc e1, ok_sub, ok_gSubU]
    refine ⟨_, set_dc e1, ?_⟩
    have e3 := get_set (o' := dcO (pc s (shI s c d - amt) c) (pd s (shI s c d - amt) d)) e1
    have ex3 := ex2.set (Nat.le_refl _) (dcO (pc s (shI s c d - amt) c) (pd s (shI s c d - amt) d))
    generalize m2.set m.length (dcO (pc s (shI s c d - amt) c) (pd s (shI s c d - amt) d)) = m3 at e3 ex3 ⊢
    simp only [ok_sSeq, ok_sIf, ok_cIsBl, ok_cBin, ok_cVarS, ok_cVar0, ok_cK, j1, ix_dc e3, shI_put, ok_cmpI, ok_blOf, ok_sRet, ok_sNx]
    have e0 : nextV a n c d ls (.lok s amt sl la) = movedV a n c d s (0 - amt) (ls ++ [lkU (n + 1) s amt sl la]) := rfl
    rw [e0]
    unfold movedV
    refine ⟨fun hx => ?_, fun hx => ?_⟩
    · have hx' : shI s c d - amt < 0 := of_decide_eq_true hx
      rw [if_pos (show shI s c d + (0 - amt) < 0 by omega)]
      exact ⟨rfl, ex3⟩
    have hx' : ¬ (shI s c d - amt < 0) := of_decide_eq_false hx
    rw [if_neg (show ¬ (shI s c d + (0 - amt) < 0) by omega)]
    simp only [ok_cBin, ok_cVarS, ok_cVar0, ok_cK, j0, ok_eqS, ok_blOf, w_lp]
    refine ⟨fun z => (nomatch z), fun _ => ?_⟩
    simp only [ok_cBin, ok_cVarS, ok_cVar0, ok_cK, j0, ok_eqS, ok_blOf, decide_true]
    refine ⟨fun _ => ?_, fun z => (nomatch z)⟩
    simp only [ok_sAsg, ok_cBin, ok_cVarS, ok_cVar0, ok_cK, ok_cFn, ok_cCons, ok_cNil, ok_add, ok_mkTup (us := [U.int (n + 1)]) rfl, ok_cSlice, ok_cPart_none, ok_cPart_some, okI_int]
    rw [us, ok_slcT, ct, ok_addT (by rfl), ok_mkTup (by rfl), ok_addT (line_of (by simp; omega))]
    simp only [ok_gName, List.set_cons_succ, List.set_cons_zero]
    rw [← us]
    simp only [ok_cBin, ok_cVarS, ok_cVar0, ok_cK, j0, ok_eqS, ok_blOf, w_4, w_5, ok_cOr, ok_cIsBl]
    refine ⟨fun z => (nomatch z), fun _ => ⟨fun z => (nomatch z), fun _ => ?_⟩⟩
    have tl := tail6_ok (R := fun v m' => v = optU (if 30 < (ls ++ [lkU (n + 1) s amt sl la]).length then none else some (mvU a (n + 1) c d (ls ++ [lkU (n + 1) s amt sl la]) (0 - amt) s)) ∧ Ext0 m m') (x0 := some (stU a n c d ls)) (x1 := some (Sp.lok s amt sl la).u) (x3 := some (.ref (m.length + 1))) (x6 := some (.int c)) (x7 := some (.int d)) (x9 := none) (x10 := none) (x11 := none) (a := a) (n := n) (ls := ls ++ [lkU (n + 1) s amt sl la]) e3 ⟨?_, ex3⟩
    · unfold tail6 at tl
      simp only [ok_sSeq, ok_sIf, ok_cIsBl, ok_cBin, ok_cVarS, ok_cVar0, ok_cK, ok_sRet, ok_sNx, ok_cFn, ok_cCons, ok_cNil] at tl
      exact tl
    · by_cases h2 : 30 < (ls ++ [lkU (n + 1) s amt sl la]).length
      · rw [if_pos h2, if_pos h2]
      · rw [if_neg h2, if_neg h2]
        cases s with
        | true =>
          show stU a (n + 1) (c - amt) d _ = stU a (n + 1) (c + (0 - amt)) d _
          rw [show c - amt = c + (0 - amt) by omega]
        | false =>
          show stU a (n + 1) c (d - amt) _ = stU a (n + 1) c (d + (0 - amt)) _
          rw [show d - amt = d + (0 - amt) by omega]
end
end Mi
/-! Qt: what is done, looked at, drawn by the laws of steps. -/
namespace Mi
open PySem PySem.Spec PyProof.Rows L2
set_option linter.unusedVariables false
set_option linter.unusedSimpArgs false
set_option maxRecDepth 10000
set_option exponentiation.threshold 2000
section
variable {T : Tab} {call : CallT} {m m0 : MH} {Q : U → MH → Prop} {t : Env1} {b g N p : Nat} {x : Ex} {r : Out U}
theorem ok_isaN {u : U} {c0 : U} {cs : List U} {b : Bool} (h : isaN T u m (c0 :: cs) = some b) : okP (biIsa T [u, .tup (c0 :: cs)] m) Q ↔ Q (.bl b) m := by
  have e : biIsa T [u, .tup (c0 :: cs)] m = some (.bl b, m) := by
    show (isaN T u m (c0 :: cs)).map _ = _
    rw [h]
    rfl
  rw [e]
  exact Iff.rfl
theorem okS_nx {N : Env1 → MH → Prop} {R : U → MH → Prop} (h : N t m) : okS (.nx t m) N R := h
def LDoneK (call : CallT) : Prop := ∀ m a n c d ls sp, stateB (stU a n c d ls) = true → SpOk sp → call ("_law_done", none) [stU a n c d ls, sp.u] m = .ok (optU (nextV a n c d ls sp)) m
theorem done_end (hN : NextK call) (hT : T.sub "NoStep" "NoStep" = some true) {a n c d : Int} {ls : List U} {sp : Sp} (hs : stateB (stU a n c d ls) = true) (ho : SpOk sp) :
    endO (P_law_done T call [some (stU a n c d ls), some sp.u, none] m) = .ok (optU (nextV a n c d ls sp)) m := by
  have hn := hN m a n c d ls sp hs ho
  refine end_ok ?_
  unfold P_law_done
  rw [ok_sSeq]
  simp only [ok_sAsg, ok_cK, ok_gName, List.set_cons_succ, List.set_cons_zero]
  rw [ok_sSeq]
  cases hv : nextV a n c d ls sp with
  | some u =>
    rw [hv] at hn
    have hn' : call ("next_state", none) [stU a n c d ls, sp.u] m = .ok u m := hn
    have eb : (sSeq (sAsg (cCallK 2 0 (fun as _ m => call ("next_state", none) as m) (cCons (cVar 0) (cCons (cVar 1) cNil)) cNil) (gName 2)) sNx) [some (stU a n c d ls), some sp.u, some .non] m = .nx [some (stU a n c d ls), some sp.u, some u] m := by
      have ec : cCallK 2 0 (fun as _ m => call ("next_state", none) as m) (cCons (cVar 0) (cCons (cVar 1) cNil)) cNil [some (stU a n c d ls), some sp.u, some .non] m = .ok u m := call_is (by
        simp only [ok_cCons, ok_cVarS, ok_cVar0, ok_cNil]
        exact ⟨rfl, hn'⟩)
      unfold sSeq sAsg sE
      rw [ec]
      rfl
    unfold sTry
    rw [eb]
    refine okS_nx ?_
    simp only [ok_sSeq, ok_sRet, ok_cVarS, ok_cVar0]
    exact ⟨by first | rfl | trivial, by first | rfl | trivial⟩
  | none =>
    rw [hv] at hn
    have hn' : call ("next_state", none) [stU a n c d ls, sp.u] m = .err noStep m := hn
    have eb : (sSeq (sAsg (cCallK 2 0 (fun as _ m => call ("next_state", none) as m) (cCons (cVar 0) (cCons (cVar 1) cNil)) cNil) (gName 2)) sNx) [some (stU a n c d ls), some sp.u, some .non] m = .err noStep [some (stU a n c d ls), some sp.u, some .non] m := by
      have ec : cCallK 2 0 (fun as _ m => call ("next_state", none) as m) (cCons (cVar 0) (cCons (cVar 1) cNil)) cNil [some (stU a n c d ls), some sp.u, some .non] m = .err noStep m := call_is (by
        simp only [ok_cCons, ok_cVarS, ok_cVar0, ok_cNil]
        exact ⟨rfl, hn'⟩)
      unfold sSeq sAsg sE
      rw [ec]
    unfold sTry
    rw [eb]
    dsimp only
    unfold handle
    dsimp only
    have es : T.sub noStep.cls "NoStep" = some true := hT
    rw [es]
    dsimp only
    rw [if_pos (show noStep.fs.isEmpty = true from rfl)]
    have eu : unSlot none ((sSeq (sAsg (cK U.non) (gName 2)) sNx) [some (stU a n c d ls), some sp.u, some U.non] m) = .nx [some (stU a n c d ls), some sp.u, some U.non] m := rfl
    rw [eu]
    refine okS_nx ?_
    simp only [ok_sSeq, ok_sRet, ok_cVarS, ok_cVar0]
    exact ⟨by first | rfl | trivial, by first | rfl | trivial⟩
/-! ### the same -/
def smeB : Nat → U → Bool
  | _, .non => true
  | _, .int _ => true
  | _, .str _ => true
  | d + 1, .tup us => decide (us.length ≤ 1000) && us.all (smeB d)
  | _, _ => false
def SameC (d : Nat) (call : CallT) : Prop := ∀ m u, smeB d u = true → call ("_law_same", none) [u, u] m = .ok (.bl true) m
theorem isa_li (i : Int) : isaN T (.int i) m [.ty "list", .ty "tuple"] = some false := by kernel_rfl
theorem isa_ls (z : Str) : isaN T (.str z) m [.ty "list", .ty "tuple"] = some false := by kernel_rfl
theorem isa_lt (us : List U) : isaN T (.tup us) m [.ty "list", .ty "tuple"] = some true := by kernel_rfl
theorem ok_isaB {u : U} {a : String} {b0 : Bool} {n : String} (h : tyU u m = some a) (hn : tys.contains n = true) (e : isT a n = b0) : okP (biIsa T [u, .ty n] m) Q ↔ Q (.bl b0) m := by rw [ok_isa h hn, e]
theorem same_end {d : Nat} (hS : ∀ e, d = e + 1 → SameC e call) {u : U} (h : smeB d u = true) : endO (P_law_same T call [some u, some u, none] m) = .ok (.bl true) m := by
  refine rt_end ?_
  unfold P_law_same
  have isn : ∀ {u : U} {Q : U → MH → Prop}, okP (isU u .non m) Q ↔ Q (.bl (isNon u)) m := Iff.rfl
  cases u with
  | non =>
    refine rt_take ?_
    simp only [ok_cIsBl, ok_cBin, ok_cVarS, ok_cVar0, ok_cK, isn, ok_blOf]
    refine ⟨rfl, rt_seq1 (rt_ret (ok_eq ?_))⟩
    simp only [ok_cBin, ok_cVar0, ok_cK, isn]
    exact ⟨rfl, trivial⟩
  | int i =>
    have b1 : ∀ {Q : U → MH → Prop}, okP (biIsa T [.int i, .ty "bool"] m) Q ↔ Q (.bl false) m := ok_isaB (a := "int") rfl tysB (by decide)
    have b2 : ∀ {Q : U → MH → Prop}, okP (biIsa T [.int i, .ty "int"] m) Q ↔ Q (.bl true) m := ok_isaB (a := "int") rfl tysI (by decide)
    have b3 : ∀ {Q : U → MH → Prop}, okP (biIsa T [.int i, .ty "str"] m) Q ↔ Q (.bl false) m := ok_isaB (a := "int") rfl tysS (by decide)
    refine rt_skip ?_
    simp only [ok_cIsBl, ok_cBin, ok_cVarS, ok_cVar0, ok_cK, isn, ok_blOf]
    refine ⟨rfl, rt_skip ?_⟩
    simp only [ok_cTruth, ok_cFn, ok_cCons, ok_cVarS, ok_cVar0, ok_cK, ok_cNil, ok_mkTup (us := [U.ty "list", U.ty "tuple"]) rfl, ok_isaN (isa_li i), okT_bl]
    refine ⟨trivial, rt_skip ?_⟩
    simp only [ok_cOr, ok_cIsBl, ok_cBin, ok_cFn, ok_cCons, ok_cVarS, ok_cVar0, ok_cK, ok_cNil, b1, b2, ok_neB, ok_blOf, decide_true]
    refine ⟨fun z => (nomatch z), fun _ => ⟨rfl, rt_seq1 (rt_ret (ok_eq ?_))⟩⟩
    simp only [ok_cAndV, ok_cBin, ok_cFn, ok_cCons, ok_cVarS, ok_cVar0, ok_cK, ok_cNil, b3, ok_eqB, okT_bl, decide_true, ok_eqI]
    exact ⟨fun _ => ⟨trivial, trivial⟩, fun z => (nomatch z)⟩
  | str z =>
    have b1 : ∀ {Q : U → MH → Prop}, okP (biIsa T [.str z, .ty "bool"] m) Q ↔ Q (.bl false) m := ok_isaB (a := "str") rfl tysB (by decide)
    have b2 : ∀ {Q : U → MH → Prop}, okP (biIsa T [.str z, .ty "int"] m) Q ↔ Q (.bl false) m := ok_isaB (a := "str") rfl tysI (by decide)
    have b3 : ∀ {Q : U → MH → Prop}, okP (biIsa T [.str z, .ty "str"] m) Q ↔ Q (.bl true) m := ok_isaB (a := "str") rfl tysS (by decide)
    refine rt_skip ?_
    simp only [ok_cIsBl, ok_cBin, ok_cVarS, ok_cVar0, ok_cK, isn, ok_blOf]
    refine ⟨rfl, rt_skip ?_⟩
    simp only [ok_cTruth, ok_cFn, ok_cCons, ok_cVarS, ok_cVar0, ok_cK, ok_cNil, ok_mkTup (us := [U.ty "list", U.ty "tuple"]) rfl, ok_isaN (isa_ls z), okT_bl]
    refine ⟨trivial, rt_skip ?_⟩
    simp only [ok_cOr, ok_cIsBl, ok_cBin, ok_cFn, ok_cCons, ok_cVarS, ok_cVar0, ok_cK, ok_cNil, b1, b2, ok_neB, ok_blOf, decide_true]
    refine ⟨fun z => (nomatch z), fun _ => ⟨rfl, rt_seq1 (rt_ret (ok_eq ?_))⟩⟩
    simp only [ok_cAndV, ok_cBin, ok_cFn, ok_cCons, ok_cVarS, ok_cVar0, ok_cK, ok_cNil, b3, ok_eqB, okT_bl, decide_true, ok_eqS]
    exact ⟨fun _ => ⟨trivial, trivial⟩, fun z => (nomatch z)⟩
  | tup us =>
    cases d with
    | zero => exact nomatch (show false = true from h)
    | succ d =>
      have h' : (decide (us.length ≤ 1000) && us.all (smeB d)) = true := h
      rw [Bool.and_eq_true, decide_eq_true_eq, List.all_eq_true] at h'
      obtain ⟨hl, ha⟩ := h'
      have hS' := hS d rfl
      have b1 : ∀ {Q : U → MH → Prop}, okP (biIsa T [.tup us, .ty "list"] m) Q ↔ Q (.bl false) m := ok_isaB (a := "tuple") rfl tysL (by decide)
      refine rt_skip ?_
      simp only [ok_cIsBl, ok_cBin, ok_cVarS, ok_cVar0, ok_cK, isn, ok_blOf]
      refine ⟨rfl, rt_take ?_⟩
      simp only [ok_cTruth, ok_cFn, ok_cCons, ok_cVarS, ok_cVar0, ok_cK, ok_cNil, ok_mkTup (us := [U.ty "list", U.ty "tuple"]) rfl, ok_isaN (isa_lt us), okT_bl]
      refine ⟨trivial, rt_skip ?_⟩
      simp only [ok_cOr, ok_cNot, ok_cTruth, ok_cIsBl, ok_cBin, ok_cFn, ok_cCons, ok_cVarS, ok_cVar0, ok_cK, ok_cNil, ok_mkTup (us := [U.ty "list", U.ty "tuple"]) rfl, ok_isaN (isa_lt us), okT_bl, b1, ok_neB, ok_blOf, decide_true]
      refine ⟨fun z => (nomatch z), fun _ => ⟨rfl, rt_seq1 (rt_ret (ok_eq ?_))⟩⟩
      simp only [ok_cAndV, ok_cBin, ok_cFn, ok_cCons, ok_cVarS, ok_cVar0, ok_cK, ok_cNil, ok_lenT, ok_eqI, okT_bl, decide_true, ok_cLc, ok_cRng1, ok_rng1]
      have eL : ((us.length : Int)).toNat = us.length := Int.toNat_natCast _
      refine ⟨fun _ => ⟨by unfold rngBd; simp only [Bool.and_eq_true, decide_eq_true_eq]; omega, ?_⟩, fun z => (nomatch z)⟩
      rw [eL]
      refine ⟨line_of (by show (rangeU 0 us.length).length ≤ _; rw [rangeU_len]; omega), lc_pure (us := rangeU 0 us.length) (f := fun _ => true) (h := fun _ => .bl true) ?_ ?_⟩
      · intro w hw
        obtain ⟨i, hi, hwi⟩ := List.getElem_of_mem hw
        have hw2 : (rangeU 0 us.length)[i]? = some w := by rw [List.getElem?_eq_getElem hi, hwi]
        obtain ⟨rfl, hi2⟩ := rng_get hw2
        have gi : us[i]? = some us[i] := List.getElem?_eq_getElem hi2
        have z0 : (0 : Int) + (i : Nat) = (i : Nat) := Int.zero_add _
        rw [z0]
        simp only [wipeU, List.foldl, List.set_cons_succ, List.set_cons_zero, ok_gName, ok_cYes, ok_cCallK, ok_cCons, ok_cBin, ok_cVarS, ok_cVar0, ok_cNil, ok_ixT gi, hS' m us[i] (ha _ (List.getElem_mem hi2)), okO_ok]
        exact ⟨trivial, fun _ => ⟨rfl, rfl, trivial, trivial⟩, fun z => (nomatch z)⟩
      simp only [flP]
      have em : ((rangeU 0 us.length).filter fun _ => true).map (fun _ => U.bl true) = (List.replicate us.length true).map U.bl := by
        rw [List.filter_eq_self.mpr (fun _ _ => rfl), List.map_replicate, List.map_const', rangeU_len]
      rw [ok_bls em]
      refine ⟨congrArg U.bl ?_, rfl⟩
      rw [List.all_replicate]
      simp
  | _ => cases d <;> exact nomatch (show false = true from h)
theorem sme_lk {k amt sl la : Int} {s : Bool} {d : Nat} : smeB (d + 1) (lkU k s amt sl la) = true := by cases d <;> rfl
theorem sme_st {a n c d : Int} {ls : List U} (hk : ∀ l ∈ ls, lockB l = true) (hl : ls.length ≤ 31) : smeB 3 (stU a n c d ls) = true := by
  show (true && (true && (true && (true && (true && ((decide (ls.length ≤ 1000) && ls.all (smeB 1)) && true)))))) = true
  rw [decide_eq_true (show ls.length ≤ 1000 by omega), show ls.all (smeB 1) = true from List.all_eq_true.mpr fun l hl => by obtain ⟨i, s, amt, sl, la, rfl, _⟩ := lock_sd (hk l hl); exact sme_lk]
  rfl
end
end Mi
/-! Qu: steps and great states that are drawn. -/
namespace Mi
open PySem PySem.Spec PyProof.Rows L2
set_option linter.unusedVariables false
set_option linter.unusedSimpArgs false
set_option maxRecDepth 10000
set_option exponentiation.threshold 2000
section
variable {T : Tab} {call : CallT} {m m0 : MH} {Q : U → MH → Prop} {t : Env1} {b g N p : Nat} {x : Ex} {r : Out U}
def AmtC (call : CallT) : Prop := ∀ (m : MH) (b g N : Nat) (x : Int), Bag m b g N → N + 20 < 10 ^ 9 → 0 ≤ x → x ≤ 10 ^ 15 - 2 → okO (call ("_law_amount", none) [.ref b, .int x] m) fun v m' => ∃ k, v = .int k ∧ 1 ≤ k ∧ k < 10 ^ 15 ∧ Bag m' b g (N + 3) ∧ Fr b g m m'
theorem amt_ok (hd : DrawC call) (hc : CountM (10 ^ 15) call) {x : Int} (h : Bag m b g N) (hN : N + 20 < 10 ^ 9) (x0 : 0 ≤ x) (x1 : x ≤ 10 ^ 15 - 2) :
    okS (P_law_amount T call [some (.ref b), some (.int x), none] m) (fun _ _ => False) fun v m' => ∃ k, v = .int k ∧ 1 ≤ k ∧ k < 10 ^ 15 ∧ Bag m' b g (N + 3) ∧ Fr b g m m' := by
  unfold P_law_amount
  simp only [ok_sSeq, ok_sAsg, ok_cCallK, ok_cCons, ok_cVar0, ok_cK, ok_cNil]
  refine ⟨rfl, rfl, okO_mono (hd m b g N 5 h (by omega) (by decide) (by decide)) ?_⟩
  rintro v m1 ⟨i, rfl, i0, i1, h1, f1⟩
  simp only [ok_gName, List.set_cons_succ, List.set_cons_zero, ok_sRet, ok_cFn, ok_cCons, ok_cVar0, ok_cVarS, ok_cK, ok_cNil, ok_cBin, ok_add, ok_sub, ok_cCallK]
  refine ⟨rfl, rfl, okO_mono (hc m1 b g _ h1 (by omega)) ?_⟩
  rintro v m2 ⟨k, rfl, k0, k1, h2, f2⟩
  rw [ok_mkFl rfl]
  refine ok_ixAny i0 (by simpa using i1) fun u hu => ?_
  obtain ⟨y, rfl, y1⟩ : ∃ y : Int, u = .int y ∧ y < 10 ^ 15 := by
    simp only [List.mem_cons, List.not_mem_nil, or_false] at hu
    rcases hu with rfl | rfl | rfl | rfl | rfl
    · exact ⟨_, rfl, by decide⟩
    · exact ⟨_, rfl, by omega⟩
    · exact ⟨_, rfl, by omega⟩
    · exact ⟨_, rfl, by omega⟩
    · exact ⟨_, rfl, k1⟩
  rw [ok_biMax]
  exact ⟨_, rfl, by split <;> omega, by split <;> omega, h2, f1.trans f2⟩
def spGood (sp : Sp) : Prop := SpOk sp ∧ plp sp ∧ StepOf (10 ^ 40) sp.u
theorem asc_sd (s : Bool) : ascB (sdS s) = true ∧ (sdS s).length ≤ 5 := by cases s <;> exact ⟨by kernel_rfl, by decide⟩
theorem good_pas : spGood .pas := ⟨trivial, trivial, parts_ok (us := [.str "pass"]) (by simp) fun u hu => .inr ⟨"pass", List.mem_singleton.mp hu, by kernel_rfl, by decide⟩⟩
theorem good_pay {s : Bool} {amt : Int} (h1 : 1 ≤ amt) (h2 : amt < 10 ^ 40) : spGood (.pay s amt) := ⟨h1, trivial, parts_ok (us := [.str "pay", .str (sdS s), .int amt]) (by simp) fun u hu => by
  simp only [List.mem_cons, List.not_mem_nil, or_false] at hu
  rcases hu with rfl | rfl | rfl
  · exact .inr ⟨_, rfl, by kernel_rfl, by decide⟩
  · exact .inr ⟨_, rfl, asc_sd s⟩
  · exact .inl ⟨_, rfl, by omega, h2⟩⟩
theorem good_lok {s : Bool} {amt sl la : Int} (h1 : 1 ≤ amt) (h2 : amt < 10 ^ 40) (s1 : 0 ≤ sl) (s2 : sl < 10 ^ 40) (l1 : 0 ≤ la) (l2 : la < 10 ^ 40) : spGood (.lok s amt sl la) := ⟨⟨h1, s1, l1⟩, trivial, parts_ok (us := [.str "lock", .str (sdS s), .int amt, .int sl, .int la]) (by simp) fun u hu => by
  simp only [List.mem_cons, List.not_mem_nil, or_false] at hu
  rcases hu with rfl | rfl | rfl | rfl | rfl
  · exact .inr ⟨_, rfl, by kernel_rfl, by decide⟩
  · exact .inr ⟨_, rfl, asc_sd s⟩
  · exact .inl ⟨_, rfl, by omega, h2⟩
  · exact .inl ⟨_, rfl, s1, s2⟩
  · exact .inl ⟨_, rfl, l1, l2⟩⟩
def Steps6C (call : CallT) : Prop := ∀ (m : MH) (b g N : Nat) (a n c d : Int) (ls : List U), Bag m b g N → N + 100 < 10 ^ 9 → 0 ≤ c → 0 ≤ d → okO (call ("_law_steps", none) [.ref b, stU a n c d ls] m) fun v m' => ∃ sps : List Sp, v = .ref m.length ∧ m'[m.length]? = some (.lst (sps.map Sp.u)) ∧ sps.length ≤ 10 ∧ (∀ sp ∈ sps, spGood sp) ∧ Bag m' b g (N + 30) ∧ Fg b g m m'
theorem steps6_ok (hc : CountM (10 ^ 15) call) (hA : AmtC call) {a n c d : Int} {ls : List U} (h : Bag m b g N) (hN : N + 100 < 10 ^ 9) (c0 : 0 ≤ c) (d0 : 0 ≤ d) :
    okS (P_law_steps6 T call [some (.ref b), some (stU a n c d ls), none, none, none] m) (fun _ _ => False) fun v m' => ∃ sps : List Sp, v = .ref m.length ∧ m'[m.length]? = some (.lst (sps.map Sp.u)) ∧ sps.length ≤ 10 ∧ (∀ sp ∈ sps, spGood sp) ∧ Bag m' b g (N + 30) ∧ Fg b g m m' := by
  obtain ⟨lb, lg⟩ := bag_lt h
  have pe : powOk 10 15 = true := rfl
  unfold P_law_steps6
  simp only [ok_sSeq, ok_sAsg, ok_cFn, ok_cCons, ok_cK, ok_cNil, ok_mkTup (us := [U.str "pass"]) rfl, ok_mkLst (us := [U.tup [U.str "pass"]]) rfl, ok_gName, List.set_cons_succ, List.set_cons_zero, ok_sFor, ok_cIt, ok_mkFl (us := [U.str "left", U.str "right"]) rfl, ok_itOf_fl]
  refine ok_loop (us := [U.str (sdS true), U.str (sdS false)]) (fun i t m' => ∃ (sps : List Sp) (x3 x4 : Option U), t = [some (.ref b), some (stU a n c d ls), some (.ref m.length), x3, x4] ∧ m'[m.length]? = some (.lst (sps.map Sp.u)) ∧ sps.length = 1 + 2 * i ∧ (∀ sp ∈ sps, spGood sp) ∧ Bag m' b g (N + 15 * i) ∧ Fg b g m m')
    ⟨[.pas], none, none, rfl, ?_, rfl, fun sp hsp => List.mem_singleton.mp hsp ▸ good_pas, bag_push h _, (Fg.refl b g m).push _⟩ ?_ ?_
  · rw [List.getElem?_append_right (Nat.le_refl _), Nat.sub_self]
    rfl
  · rintro i u t m1 hu ⟨sps, x3, x4, rfl, e1, l1, g1, h1, f1⟩
    have hi : i < 2 := (List.getElem?_eq_some_iff.mp hu).1
    obtain ⟨s, rfl⟩ : ∃ s, u = .str (sdS s) := by
      have hm := List.mem_of_getElem? hu
      simp only [List.mem_cons, List.not_mem_nil, or_false] at hm
      rcases hm with rfl | rfl
      · exact ⟨true, rfl⟩
      · exact ⟨false, rfl⟩
    have i2 : ∀ {m : MH} {Q : U → MH → Prop}, okP (idxU (stU a n c d ls) (.int 2) m) Q ↔ Q (.int c) m := ok_idxT rfl
    have i3 : ∀ {m : MH} {Q : U → MH → Prop}, okP (idxU (stU a n c d ls) (.int 3) m) Q ↔ Q (.int d) m := ok_idxT rfl
    have lim : ∀ v : Int, 0 ≤ v → 0 ≤ (if 10 ^ (Int.toNat 15) - 2 < v then (10 : Int) ^ (Int.toNat 15) - 2 else v) ∧ (if 10 ^ (Int.toNat 15) - 2 < v then (10 : Int) ^ (Int.toNat 15) - 2 else v) ≤ 10 ^ 15 - 2 := fun v v0 => by
      have e15 : (10 : Int) ^ (Int.toNat 15) = 1000000000000000 := rfl
      rw [e15]
      split <;> omega
    have body : ∀ x : Int, 0 ≤ x → x ≤ 10 ^ 15 - 2 → okS ((sSeq (sDrop (cMeth T "append" 1 [] (cVar 2) (cCons (cFn mkTup (cCons (cK (.str "pay")) (cCons (cVar 3) (cCons (cCallK 2 0 (fun as _ m => call ("_law_amount", none) as m) (cCons (cVar 0) (cCons (cVar 4) cNil)) cNil) cNil)))) cNil) cNil)) (sSeq (sDrop (cMeth T "append" 1 [] (cVar 2) (cCons (cFn mkTup (cCons (cK (.str "lock")) (cCons (cVar 3) (cCons (cCallK 2 0 (fun as _ m => call ("_law_amount", none) as m) (cCons (cVar 0) (cCons (cVar 4) cNil)) cNil) (cCons (cCallK 1 0 (fun as _ m => call ("_law_count", none) as m) (cCons (cVar 0) cNil) cNil) (cCons (cCallK 1 0 (fun as _ m => call ("_law_count", none) as m) (cCons (cVar 0) cNil) cNil) cNil)))))) cNil) cNil)) sNx)) [some (.ref b), some (stU a n c d ls), some (.ref m.length), some (.str (sdS s)), some (.int x)] m1)
        (fun t m' => ∃ (sps : List Sp) (x3 x4 : Option U), t = [some (.ref b), some (stU a n c d ls), some (.ref m.length), x3, x4] ∧ m'[m.length]? = some (.lst (sps.map Sp.u)) ∧ sps.length = 1 + 2 * (i + 1) ∧ (∀ sp ∈ sps, spGood sp) ∧ Bag m' b g (N + 15 * (i + 1)) ∧ Fg b g m m') (fun v m' => ∃ sps : List Sp, v = .ref m.length ∧ m'[m.length]? = some (.lst (sps.map Sp.u)) ∧ sps.length ≤ 10 ∧ (∀ sp ∈ sps, spGood sp) ∧ Bag m' b g (N + 30) ∧ Fg b g m m') := by
      intro x x0 x1
      rw [ok_sSeq, ok_sDrop]
      refine ok_meth (n := 1) (kind := "list") (phi := meAppend) rfl ?_
      simp only [ok_cVarS, ok_cVar0, ok_cCons, ok_cNil, ok_cFn, ok_cK, ok_cCallK]
      refine ⟨recv_lst e1, rfl, rfl, okO_mono (hA m1 b g _ x h1 (by omega) x0 x1) ?_⟩
      rintro v m2 ⟨k, rfl, k0, k1, h2, f2⟩
      have e2 : m2[m.length]? = some (.lst (sps.map Sp.u)) := by rw [f2.2 m.length (by omega) (by omega)]; exact e1
      rw [ok_mkTup rfl]
      refine ⟨rfl, ?_⟩
      rw [ok_append e2 (line_of (by rw [List.length_map]; omega))]
      have e3 : (m2.set m.length (.lst (sps.map Sp.u ++ [(Sp.pay s k).u])))[m.length]? = some (.lst ((sps ++ [Sp.pay s k]).map Sp.u)) := by
        rw [get_set e2, List.map_append]
        rfl
      have h3 : Bag (m2.set m.length (.lst (sps.map Sp.u ++ [(Sp.pay s k).u]))) b g (N + 15 * i + 3) := bag_set h2 (by omega) (by omega) _
      have f3 : Fg b g m (m2.set m.length (.lst (sps.map Sp.u ++ [(Sp.pay s k).u]))) := (f1.trans f2.fg).set (Nat.le_refl _) _
      have eu : U.tup [.str "pay", .str (sdS s), .int k] = (Sp.pay s k).u := rfl
      rw [eu]
      generalize m2.set m.length (.lst (sps.map Sp.u ++ [(Sp.pay s k).u])) = m3 at e3 h3 f3 ⊢
      rw [ok_sSeq, ok_sDrop]
      refine ok_meth (n := 1) (kind := "list") (phi := meAppend) rfl ?_
      simp only [ok_cVarS, ok_cVar0, ok_cCons, ok_cNil, ok_cFn, ok_cK, ok_cCallK]
      refine ⟨recv_lst e3, rfl, rfl, okO_mono (hA m3 b g _ x h3 (by omega) x0 x1) ?_⟩
      rintro v m4 ⟨k2, rfl, k20, k21, h4, f4⟩
      refine ⟨rfl, rfl, okO_mono (hc m4 b g _ h4 (by omega)) ?_⟩
      rintro v m5 ⟨k3, rfl, k30, k31, h5, f5⟩
      refine ⟨rfl, rfl, okO_mono (hc m5 b g _ h5 (by omega)) ?_⟩
      rintro v m6 ⟨k4, rfl, k40, k41, h6, f6⟩
      have f36 := (f4.trans f5).trans f6
      have e6 : m6[m.length]? = some (.lst ((sps ++ [Sp.pay s k]).map Sp.u)) := by rw [f36.2 m.length (by omega) (by omega)]; exact e3
      rw [ok_mkTup rfl]
      refine ⟨rfl, ?_⟩
      rw [ok_append e6 (line_of (by rw [List.length_map, List.length_append]; simp; omega))]
      simp only [ok_sNx]
      refine ⟨(sps ++ [Sp.pay s k]) ++ [Sp.lok s k2 k3 k4], _, _, rfl, ?_, ?_, ?_, (bag_set h6 (by omega) (by omega) _).up (by omega), (f3.trans f36.fg).set (Nat.le_refl _) _⟩
      · rw [get_set e6, List.map_append (l₂ := [Sp.lok s k2 k3 k4])]
        rfl
      · rw [List.length_append, List.length_append, l1]
        simp
        omega
      · intro sp hsp
        rcases List.mem_append.mp hsp with hsp | hsp
        · rcases List.mem_append.mp hsp with hsp | hsp
          · exact g1 sp hsp
          · rw [List.mem_singleton.mp hsp]
            exact good_pay k0 (by omega)
        · rw [List.mem_singleton.mp hsp]
          exact good_lok k20 (by omega) k30 (by omega) k40 (by omega)
    simp only [ok_gName, List.set_cons_succ, List.set_cons_zero]
    rw [ok_sSeq]
    simp only [ok_sAsg, ok_cFn, ok_cCons, ok_cNil, ok_cIf, ok_cIsBl, ok_cBin, ok_cVarS, ok_cVar0, ok_cK, ok_eqS, ok_blOf, i2, i3, ok_pow pe, ok_sub, ok_biMin, ok_gName, List.set_cons_succ, List.set_cons_zero]
    refine ⟨fun _ => ?_, fun _ => ?_⟩
    · exact body _ (lim c c0).1 (lim c c0).2
    · exact body _ (lim d d0).1 (lim d d0).2
  · rintro t m1 ⟨sps, x3, x4, rfl, e1, l1, g1, h1, f1⟩
    simp only [ok_sRet, ok_cVarS, ok_cVar0]
    exact ⟨sps, by first | rfl | trivial, e1, by rw [l1]; decide, g1, h1.up (by simp), f1⟩
end
end Mi
/-! Qv: a state of great coins, made by drops. -/
namespace Mi
open PySem PySem.Spec PyProof.Rows L2
set_option linter.unusedVariables false
set_option linter.unusedSimpArgs false
set_option maxRecDepth 10000
set_option exponentiation.threshold 2000
section
variable {T : Tab} {call : CallT} {m m0 : MH} {Q : U → MH → Prop} {t : Env1} {b g N p : Nat} {x : Ex} {r : Out U}
theorem rise_head {l : U} {ls : List U} (h : ((l :: ls).map idOf).Pairwise (· < ·)) : (l :: ls).find? (hasId (idOf l)) = some l ∧ (l :: ls).filter (fun x => !hasId (idOf l) x) = ls := by
  rw [List.map_cons, List.pairwise_cons] at h
  have h0 : hasId (idOf l) l = true := decide_eq_true rfl
  refine ⟨by rw [List.find?_cons, h0], ?_⟩
  rw [List.filter_cons, h0]
  show ls.filter _ = ls
  refine List.filter_eq_self.mpr fun x hx => ?_
  have := h.1 (idOf x) (List.mem_map.mpr ⟨x, hx, rfl⟩)
  have : hasId (idOf l) x = false := decide_eq_false (by omega)
  rw [this]
  rfl
abbrev gA : Int := 999999999999999
theorem gA_pos (i : Nat) : 0 ≤ gA + gA * (i : Int) := by
  show 0 ≤ (999999999999999 : Int) + 999999999999999 * (i : Int)
  omega
theorem gA_lt {i : Nat} (h : (i : Int) ≤ 29) : gA + gA * (i : Int) < 10 ^ 40 := by
  show (999999999999999 : Int) + 999999999999999 * (i : Int) < 10 ^ 40
  omega
theorem gA_next (i : Nat) : gA + gA * (i : Int) + gA = gA + gA * ((i + 1 : Nat) : Int) := by
  show (999999999999999 : Int) + 999999999999999 * (i : Int) + 999999999999999 = 999999999999999 + 999999999999999 * ((i + 1 : Nat) : Int)
  omega
theorem gA_nn (i : Nat) : ¬ (gA + gA * (i : Int) + gA < 0) := by
  show ¬ ((999999999999999 : Int) + 999999999999999 * (i : Int) + 999999999999999 < 0)
  omega
def gl (u : U) : U := lkU (intOf u + 1) true gA (3 * 3 + 17) 0
def gL (q : Nat) : List U := (rangeU 0 q).map gl
theorem gL_len (q : Nat) : (gL q).length = q := by unfold gL; rw [List.length_map, rangeU_len]
theorem gL_get {q i : Nat} (h : i < q) : (gL q)[i]? = some (lkU ((i : Int) + 1) true gA (3 * 3 + 17) 0) := by
  unfold gL
  rw [List.getElem?_map, rangeU_get 0 q i h]
  show some (lkU ((0 + (i : Nat)) + 1) true gA (3 * 3 + 17) 0) = _
  rw [Int.zero_add]
theorem gL_mem {q : Nat} {l : U} (h : l ∈ gL q) : ∃ i : Nat, i < q ∧ l = lkU ((i : Int) + 1) true gA (3 * 3 + 17) 0 := by
  obtain ⟨i, hi, e⟩ := List.getElem_of_mem h
  have hq : i < q := by rw [gL_len] at hi; exact hi
  have := gL_get hq
  rw [List.getElem?_eq_getElem hi] at this
  exact ⟨i, hq, by rw [← e]; exact Option.some.inj this⟩
theorem gL_lock {q : Nat} {l : U} (h : l ∈ gL q) : lockB l = true := by
  obtain ⟨i, hi, rfl⟩ := gL_mem h
  exact lock_mk (by omega) (.inl rfl) (by decide) (by decide) (by decide)
theorem gL_rise (q : Nat) : ((gL q).map idOf).Pairwise (· < ·) := by
  rw [List.pairwise_iff_getElem]
  intro i j hi hj hij
  rw [List.length_map, gL_len] at hi hj
  have e1 : ((gL q).map idOf)[i]? = some ((i : Int) + 1) := by rw [List.getElem?_map, gL_get hi]; rfl
  have e2 : ((gL q).map idOf)[j]? = some ((j : Int) + 1) := by rw [List.getElem?_map, gL_get hj]; rfl
  rw [List.getElem?_eq_getElem (by rw [List.length_map, gL_len]; exact hi)] at e1
  rw [List.getElem?_eq_getElem (by rw [List.length_map, gL_len]; exact hj)] at e2
  rw [Option.some.inj e1, Option.some.inj e2]
  omega
theorem gL_state {q i : Nat} (hq : q ≤ 29) (hi : i ≤ q) : stateOf 30 (10 ^ 40) (stU 0 (40 + (i : Int)) (gA + gA * (i : Int)) gA ((gL q).drop i)) := by
  have hi2 : (i : Int) ≤ 29 := by omega
  refine ⟨0, 40 + (i : Int), gA + gA * (i : Int), gA, (gL q).drop i, rfl, by decide, by decide, by omega, by omega, gA_pos i, gA_lt hi2, by decide, by decide, by rw [List.length_drop, gL_len]; omega, ⟨?_, ?_⟩⟩
  · rw [List.map_drop]
    exact (gL_rise q).sublist (List.drop_sublist _ _)
  · intro l hl
    obtain ⟨j, hj, rfl⟩ := gL_mem (List.mem_of_mem_drop hl)
    exact ⟨(j : Int) + 1, by omega, by omega, "left", gA, 3 * 3 + 17, 0, rfl, .inl rfl, by decide, by decide, by decide, by decide, by decide, by decide⟩
def GreatC (call : CallT) : Prop := ∀ (m : MH) (b g N : Nat), Bag m b g N → N + 20 < 10 ^ 9 → okO (call ("_law_great", none) [.ref b] m) fun v m' => stateOf 30 (10 ^ 40) v ∧ Bag m' b g (N + 1) ∧ Fg b g m m'
theorem great6_ok (hd : DrawC call) (hS : SealK call) (hN : NextK call) (h : Bag m b g N) (hN2 : N + 20 < 10 ^ 9) :
    okS (P_law_great6 T call [some (.ref b), none, none, none, none] m) (fun _ _ => False) fun v m' => stateOf 30 (10 ^ 40) v ∧ Bag m' b g (N + 1) ∧ Fg b g m m' := by
  have pe : powOk 10 15 = true := rfl
  have eA : (10 : Int) ^ (Int.toNat 15) - 1 = gA := rfl
  unfold P_law_great6
  rw [ok_sSeq]
  simp only [ok_sAsg, ok_cFn, ok_cCons, ok_cNil, ok_cLc, ok_cRng1, ok_cBin, ok_cK, ok_cCallK, ok_cVar0]
  refine ⟨rfl, rfl, okO_mono (hd m b g N 28 h (by omega) (by decide) (by decide)) ?_⟩
  rintro v m1 ⟨k, rfl, k0, k1, h1, f1⟩
  rw [ok_add, ok_rng1]
  obtain ⟨q, hq, hq2, hq3⟩ : ∃ q : Nat, (2 + k).toNat = q ∧ 2 ≤ q ∧ q ≤ 29 := ⟨_, rfl, by omega, by omega⟩
  rw [hq]
  refine ⟨by unfold rngBd; simp only [Bool.and_eq_true, decide_eq_true_eq]; omega, line_of (by show (rangeU 0 q).length ≤ _; rw [rangeU_len]; omega), lc_pure (us := rangeU 0 q) (f := fun _ => true) (h := gl) ?_ ?_⟩
  · intro u hu
    obtain ⟨i, hi, e⟩ := List.getElem_of_mem hu
    have hu2 : (rangeU 0 q)[i]? = some u := by rw [List.getElem?_eq_getElem hi, e]
    obtain ⟨rfl, hi2⟩ := rng_get hu2
    simp only [wipeU, List.foldl, List.set_cons_succ, List.set_cons_zero, ok_gName, ok_cYes, ok_cFn, ok_cCons, ok_cNil, ok_cBin, ok_cVarS, ok_cVar0, ok_cK, ok_add, ok_pow pe, ok_sub, ok_cCallK, hS m1 3 (by decide), okO_ok]
    rw [eA]
    refine ⟨trivial, fun _ => ⟨rfl, rfl, ?_⟩, fun z => (nomatch z)⟩
    rw [ok_mkTup rfl]
    exact ⟨rfl, rfl⟩
  have eL : ((rangeU 0 q).filter fun _ => true).map gl = gL q := by rw [List.filter_eq_self.mpr (fun _ _ => rfl)]; rfl
  rw [eL]
  simp only [flP]
  rw [ok_biTuF (line_of (by rw [gL_len]; omega))]
  simp only [ok_gName, List.set_cons_succ, List.set_cons_zero]
  rw [ok_sSeq]
  simp only [ok_sAsg, ok_cFn, ok_cCons, ok_cNil, ok_cBin, ok_cK, ok_cVarS, ok_cVar0, ok_pow pe, ok_sub]
  rw [eA, ok_mkTup rfl]
  simp only [ok_gName, List.set_cons_succ, List.set_cons_zero]
  have ec : cutU (gL q) none (some (-1)) = (gL q).take (q - 1) := by
    unfold cutU
    rw [gL_len]
    show ((gL q).drop 0).take ((if (-1 : Int) < 0 then (-1 + (q : Int)).toNat else min (-1 : Int).toNat q) - 0) = _
    rw [if_pos (by decide), show (-1 + (q : Int)).toNat = q - 1 by omega]
    rfl
  rw [ok_sSeq]
  simp only [ok_sFor, ok_cIt, ok_cSlice, ok_cPart_none, ok_cPart_some, ok_cUn, ok_cK, ok_neg, okI_int, ok_cVarS, ok_cVar0, ok_slcT, ec, ok_itOf_tup]
  have lt : ((gL q).take (q - 1)).length = q - 1 := by rw [List.length_take, gL_len]; omega
  refine ok_loop (us := (gL q).take (q - 1)) (fun i t m' => m' = m1 ∧ ∃ x3, t = [some (.ref b), some (.tup (gL q)), some (stU 0 (40 + (i : Int)) (gA + gA * (i : Int)) gA ((gL q).drop i)), x3, none]) ⟨rfl, none, rfl⟩ ?_ ?_
  · rintro i u t m2 hu ⟨rfl, x3, rfl⟩
    have hi : i < q - 1 := by
      have := (List.getElem?_eq_some_iff.mp hu).1
      rw [lt] at this
      exact this
    have hg : (gL q)[i]? = some u := by
      rw [List.getElem?_take_of_lt hi] at hu
      exact hu
    have hg2 := gL_get (q := q) (i := i) (by omega)
    rw [hg] at hg2
    obtain rfl := Option.some.inj hg2
    have ud : (gL q).drop i = lkU ((i : Int) + 1) true gA (3 * 3 + 17) 0 :: (gL q).drop (i + 1) := by
      have hl : i < (gL q).length := by rw [gL_len]; omega
      rw [List.drop_eq_getElem_cons hl]
      rw [List.getElem?_eq_getElem hl] at hg
      rw [Option.some.inj hg]
    have sB := (gL_state (q := q) (i := i) hq3 (by omega)).B (by decide)
    have nx := hN m2 _ _ _ _ _ (.dro ((i : Int) + 1)) sB (show 1 ≤ (i : Int) + 1 by omega)
    have rs : (((gL q).drop i).map idOf).Pairwise (· < ·) := by
      rw [List.map_drop]
      exact (gL_rise q).sublist (List.drop_sublist _ _)
    have ev : nextV 0 (40 + (i : Int)) (gA + gA * (i : Int)) gA ((gL q).drop i) (.dro ((i : Int) + 1)) = some (stU 0 (40 + ((i + 1 : Nat) : Int)) (gA + gA * ((i + 1 : Nat) : Int)) gA ((gL q).drop (i + 1))) := by
      rw [ud] at rs ⊢
      obtain ⟨q1, q2⟩ := rise_head rs
      have eid : idOf (lkU ((i : Int) + 1) true gA (3 * 3 + 17) 0) = (i : Int) + 1 := rfl
      rw [eid] at q1 q2
      show droV _ _ _ _ _ _ (List.find? _ _) = _
      rw [q1]
      show movedV _ _ _ _ (sideOf (lkU ((i : Int) + 1) true gA (3 * 3 + 17) 0)) gA _ = _
      rw [q2, show sideOf (lkU ((i : Int) + 1) true gA (3 * 3 + 17) 0) = true by kernel_rfl]
      unfold movedV
      rw [if_neg (show ¬ (shI true (gA + gA * (i : Int)) gA + gA < 0) from gA_nn i), if_neg (by rw [List.length_drop, gL_len]; omega)]
      show some (stU 0 (40 + (i : Int) + 1) (gA + gA * (i : Int) + gA) gA _) = _
      rw [show 40 + (i : Int) + 1 = 40 + ((i + 1 : Nat) : Int) by omega, gA_next i]
    rw [ev] at nx
    have nx' : call ("next_state", none) [stU 0 (40 + (i : Int)) (gA + gA * (i : Int)) gA ((gL q).drop i), (Sp.dro ((i : Int) + 1)).u] m2 = .ok (stU 0 (40 + ((i + 1 : Nat) : Int)) (gA + gA * ((i + 1 : Nat) : Int)) gA ((gL q).drop (i + 1))) m2 := nx
    have j0 : ∀ {Q : U → MH → Prop}, okP (idxU (lkU ((i : Int) + 1) true gA (3 * 3 + 17) 0) (.int 0) m2) Q ↔ Q (.int ((i : Int) + 1)) m2 := ok_idxT rfl
    simp only [ok_gName, List.set_cons_succ, List.set_cons_zero, ok_sSeq, ok_sAsg, ok_cCallK, ok_cCons, ok_cNil, ok_cVarS, ok_cVar0, ok_cFn, ok_cK, ok_cBin, j0]
    rw [ok_mkTup rfl]
    have eu : U.tup [.str "drop", .int ((i : Int) + 1)] = (Sp.dro ((i : Int) + 1)).u := rfl
    rw [eu, nx']
    simp only [okO_ok, ok_sNx]
    exact ⟨rfl, rfl, trivial, _, rfl⟩
  · rintro t m2 ⟨rfl, x3, rfl⟩
    rw [lt]
    simp only [ok_sSeq, ok_sRet, ok_cVarS, ok_cVar0]
    exact ⟨gL_state hq3 (by omega), h1, f1.fg⟩
end
end Mi
/-! Qw: what the laws of steps want besides. -/
namespace Mi
open PySem PySem.Spec PyProof.Rows L2
set_option linter.unusedVariables false
set_option linter.unusedSimpArgs false
set_option maxRecDepth 10000
set_option exponentiation.threshold 2000
def LNextP (call : CallT) : Prop := LNextC call plp
section
variable {T : Tab} {call : CallT} {m m0 : MH} {Q : U → MH → Prop} {t : Env1} {b g N p : Nat}
theorem ok_rev2R {us : List U} (h : m[p]? = some (.lst us)) : okP (rev2U (.ref p) m) Q ↔ Q (.fl us.reverse) m := by
  have e : rev2U (.ref p) m = some (.fl us.reverse, m) := by
    unfold rev2U revU seqL
    simp only [h, Option.map_some]
  rw [e]
  exact Iff.rfl
theorem ok_addRF {us ws : List U} (h : m[p]? = some (.lst us)) (hl : lineOk (us.length + ws.length) = true) : okP (addU (.ref p) (.fl ws) m) Q ↔ Q (.fl (us ++ ws)) m := by
  have e : addU (.ref p) (.fl ws) m = some (.fl (us ++ ws), m) := by
    unfold addU seqW
    simp only [h]
    rw [if_pos hl]
  rw [e]
  exact Iff.rfl
theorem sme_next {a n c d : Int} {ls : List U} {sp : Sp} (hs : stateB (stU a n c d ls) = true) (ho : SpOk sp) (hq : plp sp) : smeB 3 (optU (nextV a n c d ls sp)) = true := by
  obtain ⟨a', n', c', d', ls', e, a0, n0, c0, d0, hl, hk, hr, he⟩ := state_all hs
  have e' : a = a' ∧ n = n' ∧ c = c' ∧ d = d' ∧ ls = ls' := by cases e; exact ⟨rfl, rfl, rfl, rfl, rfl⟩
  obtain ⟨rfl, rfl, rfl, rfl, rfl⟩ := e'
  have mv : ∀ (s : Bool) (amt : Int) (ls' : List U), (∀ l ∈ ls', lockB l = true) → smeB 3 (optU (movedV a n c d s amt ls')) = true := fun s amt ls' hk' => by
    unfold movedV
    split
    · rfl
    · split
      · rfl
      · rename_i h2
        cases s with
        | true => exact sme_st hk' (by omega)
        | false => exact sme_st hk' (by omega)
  cases sp with
  | pay s amt =>
    show smeB 3 (optU (paidV a n c d s amt ls)) = true
    unfold paidV
    split
    · rfl
    · split
      · rfl
      · cases s with
        | true => exact sme_st hk (by omega)
        | false => exact sme_st hk (by omega)
  | lok s amt sl la =>
    refine mv s (0 - amt) _ fun l hl => ?_
    rcases List.mem_append.mp hl with hl | hl
    · exact hk l hl
    · rw [List.mem_singleton.mp hl]
      exact lock_mk (by omega) (sdS_or s) ho.1 ho.2.1 ho.2.2
  | pas => exact mv true 0 ls hk
  | dro k => exact hq.elim
  | fol k x => exact hq.elim
/-- repr of a list of a state and a step -/
theorem rep_pair {W : Nat} {u w : U} (hu : Th W 0 u) (hW : W ≤ 600000) (hw : StepOf (10 ^ 40) w) : repOk (.fl [u, w]) = true := by
  have h1 := hu.wt
  have h2 := hw.wt
  have h3 := hu.dp
  have h4 := hw.dp
  refine repOk_of (B := 10 ^ 41) (gdUs_iff.mpr fun v hv => ?_) (by decide +kernel) ?_ ?_
  · simp only [List.mem_cons, List.not_mem_nil, or_false] at hv
    rcases hv with rfl | rfl
    · exact hu.gd
    · exact hw.gd
  · show (wtU u + 2 + (wtU w + 2 + 0)) + 6 ≤ 16777216
    omega
  · show max (dpU u) (max (dpU w) 0) + 1 ≤ 60
    omega
end
end Mi
/-! Qx: the law's own reckoning of the next state: folds, drops. -/
namespace Mi
open PySem PySem.Spec PyProof.Rows L2
set_option linter.unusedVariables false
set_option linter.unusedSimpArgs false
set_option maxRecDepth 10000
set_option exponentiation.threshold 2000
section
variable {T : Tab} {call : CallT} {m m0 : MH} {Q : U → MH → Prop} {t : Env1} {b g N p p2 : Nat}
theorem find_filter {k : Int} : ∀ {ls : List U}, (ls.map idOf).Pairwise (· < ·) → (ls.find? (hasId k) = none ∧ ls.filter (hasId k) = []) ∨ ∃ l, ls.find? (hasId k) = some l ∧ ls.filter (hasId k) = [l]
  | [], _ => .inl ⟨rfl, rfl⟩
  | x :: r, h => by
    rw [List.map_cons, List.pairwise_cons] at h
    rw [List.find?_cons, List.filter_cons]
    cases e : hasId k x with
    | true =>
      refine .inr ⟨x, rfl, ?_⟩
      have ek : idOf x = k := of_decide_eq_true e
      have : r.filter (hasId k) = [] := List.filter_eq_nil_iff.mpr fun y hy hk => by
        have h1 := h.1 (idOf y) (List.mem_map.mpr ⟨y, hy, rfl⟩)
        have h2 : idOf y = k := of_decide_eq_true hk
        omega
      rw [this]
      rfl
    | false => exact find_filter h.2
theorem okD_lk {k amt sl la : Int} {s : Bool} : okD (lkU k s amt sl la) = true := by cases s <;> kernel_rfl
theorem eq_lk_ne {k k2 amt sl la amt2 sl2 la2 : Int} {s s2 : Bool} (h : k ≠ k2) : eqB (lkU k s amt sl la) (lkU k2 s2 amt2 sl2 la2) m = some false := by
  have e1 : PyData.eqv (toD (lkU k s amt sl la)) (toD (lkU k2 s2 amt2 sl2 la2)) = ((k == k2) && PyData.eqvAll (toDs [.str (sdS s), .int amt, .int sl, .int la]) (toDs [.str (sdS s2), .int amt2, .int sl2, .int la2])) := rfl
  have e2 : (k == k2) = false := by rw [beq_eq_false_iff_ne]; exact h
  unfold eqB
  show (if (okD (lkU k s amt sl la) && okD (lkU k2 s2 amt2 sl2 la2)) = true then some (PyData.eqv (toD (lkU k s amt sl la)) (toD (lkU k2 s2 amt2 sl2 la2))) else none) = _
  rw [okD_lk, okD_lk, if_pos (show (true && true) = true from rfl), e1, e2]
  rfl
theorem w_df : decide (("drop" : Str) = "fold") = false := by kernel_rfl
def foldBody (call : CallT) : S1 := (sSeq (sAsg (cLc false (cIt (cVar 8)) (gName 11) (cIsBl (cBin eqU (cBin idxU (cVar 11) (cK (.int 0))) (cBin idxU (cVar 1) (cK (.int 1))))) (cVar 11) [11]) (gName 9)) (sSeq (sIf (cOr (cIsBl (cBin eqU (cVar 9) (cFn mkFl cNil))) (cAnd (cIsBl (cBin eqU (cBin idxU (cVar 1) (cK (.int 0))) (cK (.str "fold")))) (cIsBl (cBin neU (cCallK 1 0 (fun as _ m => call ("seal_of", none) as m) (cCons (cBin idxU (cVar 1) (cK (.int 2))) cNil) cNil) (cBin idxU (cBin idxU (cVar 9) (cK (.int 0))) (cK (.int 3))))))) (sSeq (sRet (cK .non)) sNx) sNx) (sSeq (sAsg (cIf (cIsBl (cBin eqU (cBin idxU (cVar 1) (cK (.int 0))) (cK (.str "drop")))) (cBin idxU (cBin idxU (cVar 9) (cK (.int 0))) (cK (.int 1))) (cBin idxU (cVar 3) (cBin idxU (cBin idxU (cVar 9) (cK (.int 0))) (cK (.int 1))))) (gName 10)) (sSeq (sAsg (cBin addU (cBin idxU (cVar 2) (cVar 10)) (cBin idxU (cBin idxU (cVar 9) (cK (.int 0))) (cK (.int 2)))) (gSubU (cVar 2) (cVar 10))) (sSeq (sAsg (cFn biTuple (cCons (cLc false (cIt (cVar 8)) (gName 11) (cIsBl (cBin neU (cVar 11) (cBin idxU (cVar 9) (cK (.int 0))))) (cVar 11) [11]) cNil)) (gName 8)) sNx)))))
theorem dro_body {k : Int} {a n c d : Int} {ls : List U} {N : Env1 → MH → Prop} {R : U → MH → Prop} (hk : ∀ l ∈ ls, lockB l = true) (hr : (ls.map idOf).Pairwise (· < ·)) (hl : ls.length ≤ 30) (e1 : m[p]? = some (dcO c d)) (e2 : m[p2]? = some doO)
    (hn : ∀ (x9 x10 : Option U) (ls' : List U) (s : Bool) (amt : Int), (droV a n c d ls k (ls.find? (hasId k))) = movedV a n c d s amt ls' → 1 ≤ amt → N [some (stU a n c d ls), some (Sp.dro k).u, some (.ref p), some (.ref p2), some (.int a), some (.int n), some (.int c), some (.int d), some (.tup ls'), x9, x10, none] (m.set p (dcO (pc s (shI s c d + amt) c) (pd s (shI s c d + amt) d))))
    (hR : (droV a n c d ls k (ls.find? (hasId k))) = none → R .non m) :
    okS (foldBody call [some (stU a n c d ls), some (Sp.dro k).u, some (.ref p), some (.ref p2), some (.int a), some (.int n), some (.int c), some (.int d), some (.tup ls), none, none, none] m) N R := by
  have j0 : ∀ {m : MH} {Q : U → MH → Prop}, okP (idxU (Sp.dro k).u (.int 0) m) Q ↔ Q (.str "drop") m := ok_idxT rfl
  have j1 : ∀ {m : MH} {Q : U → MH → Prop}, okP (idxU (Sp.dro k).u (.int 1) m) Q ↔ Q (.int k) m := ok_idxT rfl
  have lo : lineOk (constIt ls).len = true := line_of (show ls.length ≤ 16777216 by omega)
  unfold foldBody
  rw [ok_sSeq]
  simp only [ok_sAsg, ok_cLc, ok_cIt, ok_cVarS, ok_cVar0, ok_itOf_tup]
  refine ⟨lo, lc_pure (us := ls) (f := hasId k) (h := id) ?_ ?_⟩
  · intro u hu
    obtain ⟨i, s, amt, sl, la, rfl, _⟩ := lock_sd (hk u hu)
    have l0 : ∀ {Q : U → MH → Prop}, okP (idxU (lkU i s amt sl la) (.int 0) m) Q ↔ Q (.int i) m := ok_idxT rfl
    simp only [wipeU, List.foldl, List.set_cons_succ, List.set_cons_zero, ok_gName, ok_cIsBl, ok_cBin, ok_cVarS, ok_cVar0, ok_cK, l0, j1, ok_eqI, ok_blOf]
    exact ⟨by first | rfl | trivial, fun _ => ⟨by first | rfl | trivial, by first | rfl | trivial⟩, fun _ => by first | rfl | trivial⟩
  rw [List.map_id]
  simp only [flP, ok_gName, List.set_cons_succ, List.set_cons_zero]
  rw [ok_sSeq]
  rcases find_filter (k := k) hr with ⟨f1, f2⟩ | ⟨l, f1, f2⟩
  · rw [f2]
    simp only [ok_sIf, ok_cOr, ok_cIsBl, ok_cBin, ok_cVarS, ok_cVar0, ok_cFn, ok_cNil, ok_mkFl (us := []) rfl, ok_emF, ok_blOf, ok_sSeq, ok_sRet, ok_cK]
    refine ⟨fun _ => ⟨fun _ => hR (by rw [f1]; rfl), fun z => (nomatch z)⟩, fun z => (nomatch z)⟩
  rw [f2]
  have lm : l ∈ ls := List.mem_of_find?_eq_some f1
  have hid : hasId k l = true := List.find?_some f1
  obtain ⟨i, s, amt, sl, la, rfl, q1, q2, q3, q4, q5, q6, q7, q8⟩ := lock_sd (hk l lm)
  have ik : i = k := by rw [← q8]; exact of_decide_eq_true hid
  have l1 : ∀ {m : MH} {Q : U → MH → Prop}, okP (idxU (lkU i s amt sl la) (.int 1) m) Q ↔ Q (.str (sdS s)) m := ok_idxT rfl
  have l2 : ∀ {m : MH} {Q : U → MH → Prop}, okP (idxU (lkU i s amt sl la) (.int 2) m) Q ↔ Q (.int amt) m := ok_idxT rfl
  have l3 : ∀ {m : MH} {Q : U → MH → Prop}, okP (idxU (lkU i s amt sl la) (.int 3) m) Q ↔ Q (.int sl) m := ok_idxT rfl
  have g0 : ∀ {m : MH} {Q : U → MH → Prop}, okP (idxU (.fl [lkU i s amt sl la]) (.int 0) m) Q ↔ Q (lkU i s amt sl la) m := ok_idxF rfl
  -- behind the two looks
  have rest : (droV a n c d ls k (ls.find? (hasId k))) = movedV a n c d s amt (ls.filter fun l => !hasId k l) → okS ((sSeq (sAsg (cIf (cIsBl (cBin eqU (cBin idxU (cVar 1) (cK (.int 0))) (cK (.str "drop")))) (cBin idxU (cBin idxU (cVar 9) (cK (.int 0))) (cK (.int 1))) (cBin idxU (cVar 3) (cBin idxU (cBin idxU (cVar 9) (cK (.int 0))) (cK (.int 1))))) (gName 10)) (sSeq (sAsg (cBin addU (cBin idxU (cVar 2) (cVar 10)) (cBin idxU (cBin idxU (cVar 9) (cK (.int 0))) (cK (.int 2)))) (gSubU (cVar 2) (cVar 10))) (sSeq (sAsg (cFn biTuple (cCons (cLc false (cIt (cVar 8)) (gName 11) (cIsBl (cBin neU (cVar 11) (cBin idxU (cVar 9) (cK (.int 0))))) (cVar 11) [11]) cNil)) (gName 8)) sNx))) [some (stU a n c d ls), some (Sp.dro k).u, some (.ref p), some (.ref p2), some (.int a), some (.int n), some (.int c), some (.int d), some (.tup ls), some (.fl [lkU i s amt sl la]), none, none] m) N R := by
    intro hv
    have tail : okS ((sSeq (sAsg (cBin addU (cBin idxU (cVar 2) (cVar 10)) (cBin idxU (cBin idxU (cVar 9) (cK (.int 0))) (cK (.int 2)))) (gSubU (cVar 2) (cVar 10))) (sSeq (sAsg (cFn biTuple (cCons (cLc false (cIt (cVar 8)) (gName 11) (cIsBl (cBin neU (cVar 11) (cBin idxU (cVar 9) (cK (.int 0))))) (cVar 11) [11]) cNil)) (gName 8)) sNx)) [some (stU a n c d ls), some (Sp.dro k).u, some (.ref p), some (.ref p2), some (.int a), some (.int n), some (.int c), some (.int d), some (.tup ls), some (.fl [lkU i s amt sl la]), some (.str (sdS s)), none] m) N R := by
      rw [ok_sSeq]
      simp only [ok_sAsg, ok_cBin, ok_cVarS, ok_cVar0, ok_cK, ix_dc e1, g0, l2, ok_add, ok_gSubU]
      refine ⟨_, set_dc e1, ?_⟩
      rw [ok_sSeq]
      simp only [ok_sAsg, ok_cFn, ok_cCons, ok_cNil, ok_cLc, ok_cIt, ok_cVarS, ok_cVar0, ok_itOf_tup]
      refine ⟨lo, lc_pure (us := ls) (f := fun l => !hasId k l) (h := id) ?_ ?_⟩
      · intro u hu
        obtain ⟨i', s', amt', sl', la', rfl, _, _, _, _, _, _, _, q8'⟩ := lock_sd (hk u hu)
        simp only [wipeU, List.foldl, List.set_cons_succ, List.set_cons_zero, ok_gName, ok_cIsBl, ok_cBin, ok_cVarS, ok_cVar0, ok_cK, g0]
        by_cases hi : i' = k
        · have hu2 : lkU i' s' amt' sl' la' ∈ ls.filter (hasId k) := List.mem_filter.mpr ⟨hu, decide_eq_true (by rw [q8']; exact hi)⟩
          rw [f2] at hu2
          have e := List.mem_singleton.mp hu2
          rw [e]
          have ne : okP (neU (lkU i s amt sl la) (lkU i s amt sl la) (m.set p (dcO (pc s (shI s c d + amt) c) (pd s (shI s c d + amt) d)))) = okP (some (U.bl false, m.set p (dcO (pc s (shI s c d + amt) c) (pd s (shI s c d + amt) d)))) := by
            have := eq_selfT (m := m.set p (dcO (pc s (shI s c d + amt) c) (pd s (shI s c d + amt) d))) (us := [.int i, .str (sdS s), .int amt, .int sl, .int la]) okD_lk
            unfold neU
            rw [show eqB (lkU i s amt sl la) (lkU i s amt sl la) (m.set p (dcO (pc s (shI s c d + amt) c) (pd s (shI s c d + amt) d))) = some true from this]
            rfl
          rw [ne, hid]
          exact ⟨by first | rfl | trivial, fun z => (nomatch z), fun _ => by first | rfl | trivial⟩
        · rw [ok_neOf (eq_lk_ne (by rw [ik]; exact hi))]
          have hh : hasId k (lkU i' s' amt' sl' la') = false := decide_eq_false (by rw [q8']; exact hi)
          rw [hh]
          exact ⟨by first | rfl | trivial, fun _ => ⟨by first | rfl | trivial, by first | rfl | trivial⟩, fun z => (nomatch z)⟩
      rw [List.map_id]
      simp only [flP]
      rw [ok_biTuF (line_of (Nat.le_trans (List.length_filter_le _ _) (by omega)))]
      simp only [ok_gName, List.set_cons_succ, List.set_cons_zero, ok_sNx]
      exact hn _ _ _ _ _ hv q2
    rw [ok_sSeq]
    simp only [ok_sAsg, ok_cIf, ok_cIsBl, ok_cBin, ok_cVarS, ok_cVar0, ok_cK, j0, ok_eqS, ok_blOf, decide_true, g0, l1, ok_gName, List.set_cons_succ, List.set_cons_zero]
    exact ⟨fun _ => tail, fun z => (nomatch z)⟩
  have ev : droV a n c d ls k (ls.find? (hasId k)) = movedV a n c d s amt (ls.filter fun l => !hasId k l) := by
    rw [f1]
    show movedV a n c d (sideOf (lkU i s amt sl la)) (amtOf (lkU i s amt sl la)) _ = _
    rw [q5, q6]
  simp only [ok_sIf, ok_cOr, ok_cAnd, ok_cIsBl, ok_cBin, ok_cVarS, ok_cVar0, ok_cFn, ok_cCons, ok_cNil, ok_mkFl (us := []) rfl, ok_emF, ok_blOf, ok_cK, j0, ok_eqS, w_df, ok_sNx]
  exact ⟨fun z => (nomatch z), fun _ => ⟨fun z => (nomatch z), fun _ => ⟨fun z => (nomatch z), fun _ => rest ev⟩⟩⟩
theorem fol_body {k x : Int} (hS : SealK call) (hx0 : 0 ≤ x) {a n c d : Int} {ls : List U} {N : Env1 → MH → Prop} {R : U → MH → Prop} (hk : ∀ l ∈ ls, lockB l = true) (hr : (ls.map idOf).Pairwise (· < ·)) (hl : ls.length ≤ 30) (e1 : m[p]? = some (dcO c d)) (e2 : m[p2]? = some doO)
    (hn : ∀ (x9 x10 : Option U) (ls' : List U) (s : Bool) (amt : Int), (folV a n c d ls k x (ls.find? (hasId k))) = movedV a n c d s amt ls' → 1 ≤ amt → N [some (stU a n c d ls), some (Sp.fol k x).u, some (.ref p), some (.ref p2), some (.int a), some (.int n), some (.int c), some (.int d), some (.tup ls'), x9, x10, none] (m.set p (dcO (pc s (shI s c d + amt) c) (pd s (shI s c d + amt) d))))
    (hR : (folV a n c d ls k x (ls.find? (hasId k))) = none → R .non m) :
    okS (foldBody call [some (stU a n c d ls), some (Sp.fol k x).u, some (.ref p), some (.ref p2), some (.int a), some (.int n), some (.int c), some (.int d), some (.tup ls), none, none, none] m) N R := by
  have j0 : ∀ {m : MH} {Q : U → MH → Prop}, okP (idxU (Sp.fol k x).u (.int 0) m) Q ↔ Q (.str "fold") m := ok_idxT rfl
  have j1 : ∀ {m : MH} {Q : U → MH → Prop}, okP (idxU (Sp.fol k x).u (.int 1) m) Q ↔ Q (.int k) m := ok_idxT rfl
  have j2 : ∀ {m : MH} {Q : U → MH → Prop}, okP (idxU (Sp.fol k x).u (.int 2) m) Q ↔ Q (.int x) m := ok_idxT rfl
  have lo : lineOk (constIt ls).len = true := line_of (show ls.length ≤ 16777216 by omega)
  unfold foldBody
  rw [ok_sSeq]
  simp only [ok_sAsg, ok_cLc, ok_cIt, ok_cVarS, ok_cVar0, ok_itOf_tup]
  refine ⟨lo, lc_pure (us := ls) (f := hasId k) (h := id) ?_ ?_⟩
  · intro u hu
    obtain ⟨i, s, amt, sl, la, rfl, _⟩ := lock_sd (hk u hu)
    have l0 : ∀ {Q : U → MH → Prop}, okP (idxU (lkU i s amt sl la) (.int 0) m) Q ↔ Q (.int i) m := ok_idxT rfl
    simp only [wipeU, List.foldl, List.set_cons_succ, List.set_cons_zero, ok_gName, ok_cIsBl, ok_cBin, ok_cVarS, ok_cVar0, ok_cK, l0, j1, ok_eqI, ok_blOf]
    exact ⟨by first | rfl | trivial, fun _ => ⟨by first | rfl | trivial, by first | rfl | trivial⟩, fun _ => by first | rfl | trivial⟩
  rw [List.map_id]
  simp only [flP, ok_gName, List.set_cons_succ, List.set_cons_zero]
  rw [ok_sSeq]
  rcases find_filter (k := k) hr with ⟨f1, f2⟩ | ⟨l, f1, f2⟩
  · rw [f2]
    simp only [ok_sIf, ok_cOr, ok_cIsBl, ok_cBin, ok_cVarS, ok_cVar0, ok_cFn, ok_cNil, ok_mkFl (us := []) rfl, ok_emF, ok_blOf, ok_sSeq, ok_sRet, ok_cK]
    refine ⟨fun _ => ⟨fun _ => hR (by rw [f1]; rfl), fun z => (nomatch z)⟩, fun z => (nomatch z)⟩
  rw [f2]
  have lm : l ∈ ls := List.mem_of_find?_eq_some f1
  have hid : hasId k l = true := List.find?_some f1
  obtain ⟨i, s, amt, sl, la, rfl, q1, q2, q3, q4, q5, q6, q7, q8⟩ := lock_sd (hk l lm)
  have ik : i = k := by rw [← q8]; exact of_decide_eq_true hid
  have l1 : ∀ {m : MH} {Q : U → MH → Prop}, okP (idxU (lkU i s amt sl la) (.int 1) m) Q ↔ Q (.str (sdS s)) m := ok_idxT rfl
  have l2 : ∀ {m : MH} {Q : U → MH → Prop}, okP (idxU (lkU i s amt sl la) (.int 2) m) Q ↔ Q (.int amt) m := ok_idxT rfl
  have l3 : ∀ {m : MH} {Q : U → MH → Prop}, okP (idxU (lkU i s amt sl la) (.int 3) m) Q ↔ Q (.int sl) m := ok_idxT rfl
  have g0 : ∀ {m : MH} {Q : U → MH → Prop}, okP (idxU (.fl [lkU i s amt sl la]) (.int 0) m) Q ↔ Q (lkU i s amt sl la) m := ok_idxF rfl
  -- behind the two looks
  have rest : (folV a n c d ls k x (ls.find? (hasId k))) = movedV a n c d (!s) amt (ls.filter fun l => !hasId k l) → okS ((sSeq (sAsg (cIf (cIsBl (cBin eqU (cBin idxU (cVar 1) (cK (.int 0))) (cK (.str "drop")))) (cBin idxU (cBin idxU (cVar 9) (cK (.int 0))) (cK (.int 1))) (cBin idxU (cVar 3) (cBin idxU (cBin idxU (cVar 9) (cK (.int 0))) (cK (.int 1))))) (gName 10)) (sSeq (sAsg (cBin addU (cBin idxU (cVar 2) (cVar 10)) (cBin idxU (cBin idxU (cVar 9) (cK (.int 0))) (cK (.int 2)))) (gSubU (cVar 2) (cVar 10))) (sSeq (sAsg (cFn biTuple (cCons (cLc false (cIt (cVar 8)) (gName 11) (cIsBl (cBin neU (cVar 11) (cBin idxU (cVar 9) (cK (.int 0))))) (cVar 11) [11]) cNil)) (gName 8)) sNx))) [some (stU a n c d ls), some (Sp.fol k x).u, some (.ref p), some (.ref p2), some (.int a), some (.int n), some (.int c), some (.int d), some (.tup ls), some (.fl [lkU i s amt sl la]), none, none] m) N R := by
    intro hv
    have tail : okS ((sSeq (sAsg (cBin addU (cBin idxU (cVar 2) (cVar 10)) (cBin idxU (cBin idxU (cVar 9) (cK (.int 0))) (cK (.int 2)))) (gSubU (cVar 2) (cVar 10))) (sSeq (sAsg (cFn biTuple (cCons (cLc false (cIt (cVar 8)) (gName 11) (cIsBl (cBin neU (cVar 11) (cBin idxU (cVar 9) (cK (.int 0))))) (cVar 11) [11]) cNil)) (gName 8)) sNx)) [some (stU a n c d ls), some (Sp.fol k x).u, some (.ref p), some (.ref p2), some (.int a), some (.int n), some (.int c), some (.int d), some (.tup ls), some (.fl [lkU i s amt sl la]), some (.str (sdS (!s))), none] m) N R := by
      rw [ok_sSeq]
      simp only [ok_sAsg, ok_cBin, ok_cVarS, ok_cVar0, ok_cK, ix_dc e1, g0, l2, ok_add, ok_gSubU]
      refine ⟨_, set_dc e1, ?_⟩
      rw [ok_sSeq]
      simp only [ok_sAsg, ok_cFn, ok_cCons, ok_cNil, ok_cLc, ok_cIt, ok_cVarS, ok_cVar0, ok_itOf_tup]
      refine ⟨lo, lc_pure (us := ls) (f := fun l => !hasId k l) (h := id) ?_ ?_⟩
      · intro u hu
        obtain ⟨i', s', amt', sl', la', rfl, _, _, _, _, _, _, _, q8'⟩ := lock_sd (hk u hu)
        simp only [wipeU, List.foldl, List.set_cons_succ, List.set_cons_zero, ok_gName, ok_cIsBl, ok_cBin, ok_cVarS, ok_cVar0, ok_cK, g0]
        by_cases hi : i' = k
        · have hu2 : lkU i' s' amt' sl' la' ∈ ls.filter (hasId k) := List.mem_filter.mpr ⟨hu, decide_eq_true (by rw [q8']; exact hi)⟩
          rw [f2] at hu2
          have e := List.mem_singleton.mp hu2
          rw [e]
          have ne : okP (neU (lkU i s amt sl la) (lkU i s amt sl la) (m.set p (dcO (pc (!s) (shI (!s) c d + amt) c) (pd (!s) (shI (!s) c d + amt) d)))) = okP (some (U.bl false, m.set p (dcO (pc (!s) (shI (!s) c d + amt) c) (pd (!s) (shI (!s) c d + amt) d)))) := by
            have := eq_selfT (m := m.set p (dcO (pc (!s) (shI (!s) c d + amt) c) (pd (!s) (shI (!s) c d + amt) d))) (us := [.int i, .str (sdS s), .int amt, .int sl, .int la]) okD_lk
            unfold neU
            rw [show eqB (lkU i s amt sl la) (lkU i s amt sl la) (m.set p (dcO (pc (!s) (shI (!s) c d + amt) c) (pd (!s) (shI (!s) c d + amt) d))) = some true from this]
            rfl
          rw [ne, hid]
          exact ⟨by first | rfl | trivial, fun z => (nomatch z), fun _ => by first | rfl | trivial⟩
        · rw [ok_neOf (eq_lk_ne (by rw [ik]; exact hi))]
          have hh : hasId k (lkU i' s' amt' sl' la') = false := decide_eq_false (by rw [q8']; exact hi)
          rw [hh]
          exact ⟨by first | rfl | trivial, fun _ => ⟨by first | rfl | trivial, by first | rfl | trivial⟩, fun z => (nomatch z)⟩
      rw [List.map_id]
      simp only [flP]
      rw [ok_biTuF (line_of (Nat.le_trans (List.length_filter_le _ _) (by omega)))]
      simp only [ok_gName, List.set_cons_succ, List.set_cons_zero, ok_sNx]
      exact hn _ _ _ _ _ hv q2
    rw [ok_sSeq]
    simp only [ok_sAsg, ok_cIf, ok_cIsBl, ok_cBin, ok_cVarS, ok_cVar0, ok_cK, j0, ok_eqS, ok_blOf, w_fd, g0, l1, ix_do e2, ok_gName, List.set_cons_succ, List.set_cons_zero]
    exact ⟨fun z => (nomatch z), fun _ => tail⟩
  have ev : folV a n c d ls k x (ls.find? (hasId k)) = if 3 * x + 17 = sl then movedV a n c d (!s) amt (ls.filter fun l => !hasId k l) else none := by
    rw [f1]
    show (if 3 * x + 17 = sealOf (lkU i s amt sl la) then movedV a n c d (!sideOf (lkU i s amt sl la)) (amtOf (lkU i s amt sl la)) _ else none) = _
    rw [q5, q6, q7]
  simp only [ok_sIf, ok_cOr, ok_cAnd, ok_cIsBl, ok_cBin, ok_cVarS, ok_cVar0, ok_cFn, ok_cCons, ok_cNil, ok_cCallK, ok_mkFl (us := []) rfl, ok_emF, ok_blOf, ok_cK, j0, j2, ok_eqS, decide_true, hS _ x hx0, okO_ok, g0, l3, ok_neI, ok_sNx]
  refine ⟨fun z => (nomatch z), fun _ => ⟨fun _ => ⟨rfl, rfl, ?_⟩, fun z => (nomatch z)⟩⟩
  by_cases hx : 3 * x + 17 = sl
  · rw [decide_eq_true hx]
    rw [if_pos hx] at ev
    exact ⟨fun z => (nomatch z), fun _ => rest ev⟩
  · rw [decide_eq_false hx]
    rw [if_neg hx] at ev
    refine ⟨fun _ => ?_, fun z => (nomatch z)⟩
    simp only [ok_sSeq, ok_sRet, ok_cK]
    exact hR ev
end
end Mi
/-! what defs do that several laws share, by own values. -/
namespace Mi
open PySem PySem.Spec PyProof.Rows L2
set_option linter.unusedVariables false
def P_law_sealed (T : Tab) (call : FKey → List U → MH → Out U) : S1 := (sSeq (sAsg (cFn mkLst cNil) (gName 3)) (sSeq (sFor (cIt (cBin idxU (cVar 1) (cK (.int 4)))) (gTup [(gName 4), (gName 5), (gName 6), (gName 7), (gName 8)]) (sSeq (sDrop (cMeth T "append" 1 [] (cVar 3) (cCons (cFn mkTup (cCons (cVar 4) (cCons (cVar 5) (cCons (cVar 6) (cCons (cCallK 1 0 (fun as _ m => call ("seal_of", none) as m) (cCons (cBin idxU (cVar 2) (cCallK 2 0 (fun as _ m => call ("_law_draw", none) as m) (cCons (cVar 0) (cCons (cFn biLen (cCons (cVar 2) cNil)) cNil)) cNil)) cNil) cNil) (cCons (cVar 8) cNil)))))) cNil) cNil)) sNx)) (sSeq (sRet (cBin addU (cSlice (cVar 1) none (some (cK (.int 4)))) (cFn mkTup (cCons (cFn biTuple (cCons (cVar 3) cNil)) cNil)))) sNx)))
def P_law_steps7 (T : Tab) (call : FKey → List U → MH → Out U) : S1 := (sSeq (sAsg (cFn mkLst cNil) (gName 3)) (sSeq (sFor (cIt (cBin addU (cSlice (cFn biList (cCons (cBin idxU (cVar 1) (cK (.int 4))) cNil)) none (some (cK (.int 8)))) (cSlice (cFn biList (cCons (cBin idxU (cVar 1) (cK (.int 4))) cNil)) (some (cUn negU (cK (.int 1)))) none))) (gName 4) (sSeq (sAsg (cFn biMax (cCons (cK (.int 1)) (cCons (cBin addU (cBin idxU (cVar 4) (cK (.int 0))) (cBin idxU (cFn mkFl (cCons (cK (.int 0)) (cCons (cK (.int 0)) (cCons (cK (.int 0)) (cCons (cK (.int 1)) (cCons (cUn negU (cK (.int 1))) cNil)))))) (cCallK 2 0 (fun as _ m => call ("_law_draw", none) as m) (cCons (cVar 0) (cCons (cK (.int 5)) cNil)) cNil))) cNil))) (gName 5)) (sSeq (sDrop (cMeth T "append" 1 [] (cVar 3) (cCons (cFn mkTup (cCons (cK (.str "drop")) (cCons (cVar 5) cNil))) cNil) cNil)) (sSeq (sDrop (cMeth T "append" 1 [] (cVar 3) (cCons (cFn mkTup (cCons (cK (.str "fold")) (cCons (cVar 5) (cCons (cBin idxU (cVar 2) (cCallK 2 0 (fun as _ m => call ("_law_draw", none) as m) (cCons (cVar 0) (cCons (cFn biLen (cCons (cVar 2) cNil)) cNil)) cNil)) cNil)))) cNil) cNil)) (sSeq (sFor (cIt (cVar 2)) (gName 6) (sSeq (sIf (cIsBl (cBin eqU (cCallK 1 0 (fun as _ m => call ("seal_of", none) as m) (cCons (cVar 6) cNil) cNil) (cBin idxU (cVar 4) (cK (.int 3))))) (sSeq (sDrop (cMeth T "append" 1 [] (cVar 3) (cCons (cFn mkTup (cCons (cK (.str "fold")) (cCons (cBin idxU (cVar 4) (cK (.int 0))) (cCons (cVar 6) cNil)))) cNil) cNil)) sNx) sNx) sNx)) sNx))))) (sSeq (sRet (cBin addU (cVar 3) (cFn mkFl (cCons (cFn mkTup (cCons (cK (.str "drop")) (cCons (cFn biMax (cCons (cK (.int 1)) (cCons (cCallK 1 0 (fun as _ m => call ("_law_count", none) as m) (cCons (cVar 0) cNil) cNil) cNil))) cNil))) (cCons (cFn mkTup (cCons (cK (.str "fold")) (cCons (cFn biMax (cCons (cK (.int 1)) (cCons (cCallK 1 0 (fun as _ m => call ("_law_count", none) as m) (cCons (cVar 0) cNil) cNil) cNil))) (cCons (cCallK 1 0 (fun as _ m => call ("_law_count", none) as m) (cCons (cVar 0) cNil) cNil) cNil)))) cNil))))) sNx)))
end Mi
/-! Qz: the law's next state by folds and drops; sealed states; steps on locks. -/
namespace Mi
open PySem PySem.Spec PyProof.Rows L2
set_option linter.unusedVariables false
set_option linter.unusedSimpArgs false
set_option maxRecDepth 10000
set_option exponentiation.threshold 2000
def plf : Sp → Prop
  | .dro _ => True
  | .fol _ _ => True
  | _ => False
def LNextF (call : CallT) : Prop := LNextC call plf
section
variable {T : Tab} {call : CallT} {m m0 : MH} {Q : U → MH → Prop} {t : Env1} {b g N p : Nat}
theorem moved_pos {a n c d amt : Int} {s : Bool} {ls : List U} (c0 : 0 ≤ c) (d0 : 0 ≤ d) (h : 1 ≤ amt) : optU (if 30 < ls.length then none else some (stU a (n + 1) (pc s (shI s c d + amt) c) (pd s (shI s c d + amt) d) ls)) = optU (movedV a n c d s amt ls) := by
  have h0 : ¬ (shI s c d + amt < 0) := by
    cases s
    · show ¬ (d + amt < 0); omega
    · show ¬ (c + amt < 0); omega
  unfold movedV
  rw [if_neg h0]
  cases s <;> rfl
theorem lnext6f_ok (hS : SealK call) {a n c d : Int} {ls : List U} {sp : Sp} (hs : stateB (stU a n c d ls) = true) (ho : SpOk sp) (hq : plf sp) :
    okS (P_law_next6 T call [some (stU a n c d ls), some sp.u, none, none, none, none, none, none, none, none, none, none] m) (fun _ _ => False) fun v m' => v = optU (nextV a n c d ls sp) ∧ Ext0 m m' := by
  obtain ⟨a', n', c', d', ls', e, a0, n0, c0, d0, hl, hk, hr, he⟩ := state_all hs
  have e' : a = a' ∧ n = n' ∧ c = c' ∧ d = d' ∧ ls = ls' := by cases e; exact ⟨rfl, rfl, rfl, rfl, rfl⟩
  obtain ⟨rfl, rfl, rfl, rfl, rfl⟩ := e'
  have un : ∀ {P : Env1 → MH → Prop}, okP (gTup [(gName 4), (gName 5), (gName 6), (gName 7), (gName 8)] (stU a n c d ls) [some (stU a n c d ls), some sp.u, none, none, none, none, none, none, none, none, none, none] m) P ↔ P [some (stU a n c d ls), some sp.u, none, none, some (.int a), some (.int n), some (.int c), some (.int d), some (.tup ls), none, none, none] m := Iff.rfl
  unfold P_law_next6
  rw [ok_sSeq]
  simp only [ok_sAsg, ok_cVar0, un]
  rw [ok_sSeq]
  simp only [ok_sAsg, ok_cDict, cFlat, ok_cCons, ok_cNil, ok_cK, ok_cVarS, ok_cVar0, mk_dc, ok_gName, List.set_cons_succ, List.set_cons_zero]
  rw [ok_sSeq]
  simp only [ok_sAsg, ok_cDict, cFlat, ok_cCons, ok_cNil, ok_cK, mk_do, ok_gName, List.set_cons_succ, List.set_cons_zero]
  have hlen : (m ++ [dcO c d]).length = m.length + 1 := by simp
  rw [hlen]
  have ex2 : Ext0 m ((m ++ [dcO c d]) ++ [doO]) := (Ext0.push m _).trans (Ext0.push _ _)
  have e1 : ((m ++ [dcO c d]) ++ [doO])[m.length]? = some (dcO c d) := by
    rw [List.getElem?_append_left (by simp), List.getElem?_append_right (Nat.le_refl _), Nat.sub_self]
    rfl
  have e2 : ((m ++ [dcO c d]) ++ [doO])[m.length + 1]? = some doO := by
    rw [List.getElem?_append_right (by simp)]
    simp
  generalize (m ++ [dcO c d]) ++ [doO] = m2 at ex2 e1 e2 ⊢
  have rs := (riseB_pw.mp hr).1
  cases sp with
  | pay s amt => exact hq.elim
  | lok s amt sl la => exact hq.elim
  | pas => exact hq.elim
  | dro k =>
    have j0 : ∀ {m2 : MH} {Q : U → MH → Prop}, okP (idxU (Sp.dro k).u (.int 0) m2) Q ↔ Q (.str "drop") m2 := ok_idxT rfl
    rw [ok_sSeq]
    simp only [ok_sIf, ok_cOr, ok_cIsBl, ok_cBin, ok_cVarS, ok_cVar0, ok_cK, j0, ok_eqS, ok_blOf, w_dp, w_dl, ok_sNx]
    refine ⟨fun z => (nomatch z), fun _ => ⟨fun z => (nomatch z), fun _ => ?_⟩⟩
    rw [ok_sSeq]
    simp only [ok_sIf, ok_cIsBl, ok_cBin, ok_cVarS, ok_cVar0, ok_cK, j0, ok_eqS, ok_blOf, w_dp, ok_sNx]
    refine ⟨fun z => (nomatch z), fun _ => ?_⟩
    rw [ok_sSeq]
    simp only [ok_sIf, ok_cIsBl, ok_cBin, ok_cVarS, ok_cVar0, ok_cK, j0, ok_eqS, ok_blOf, w_dl, ok_sNx]
    refine ⟨fun z => (nomatch z), fun _ => ?_⟩
    rw [ok_sSeq]
    simp only [ok_sIf, ok_cOr, ok_cIsBl, ok_cBin, ok_cVarS, ok_cVar0, ok_cK, j0, ok_eqS, ok_blOf, w_df, decide_true]
    refine ⟨fun z => (nomatch z), fun _ => ⟨fun _ => ?_, fun z => (nomatch z)⟩⟩
    refine dro_body (call := call) (k := k) hk rs hl e1 e2 (fun x9 x10 ls' s amt hv h1 => ?_) fun hv => ?_
    · exact tail6_ok (get_set e1) ⟨(moved_pos c0 d0 h1).trans (congrArg optU hv.symm), ex2.set (Nat.le_refl _) _⟩
    · exact ⟨(congrArg optU hv.symm), ex2⟩
  | fol k x =>
    have j0 : ∀ {m2 : MH} {Q : U → MH → Prop}, okP (idxU (Sp.fol k x).u (.int 0) m2) Q ↔ Q (.str "fold") m2 := ok_idxT rfl
    rw [ok_sSeq]
    simp only [ok_sIf, ok_cOr, ok_cIsBl, ok_cBin, ok_cVarS, ok_cVar0, ok_cK, j0, ok_eqS, ok_blOf, w_fp, w_fl, ok_sNx]
    refine ⟨fun z => (nomatch z), fun _ => ⟨fun z => (nomatch z), fun _ => ?_⟩⟩
    rw [ok_sSeq]
    simp only [ok_sIf, ok_cIsBl, ok_cBin, ok_cVarS, ok_cVar0, ok_cK, j0, ok_eqS, ok_blOf, w_fp, ok_sNx]
    refine ⟨fun z => (nomatch z), fun _ => ?_⟩
    rw [ok_sSeq]
    simp only [ok_sIf, ok_cIsBl, ok_cBin, ok_cVarS, ok_cVar0, ok_cK, j0, ok_eqS, ok_blOf, w_fl, ok_sNx]
    refine ⟨fun z => (nomatch z), fun _ => ?_⟩
    rw [ok_sSeq]
    simp only [ok_sIf, ok_cOr, ok_cIsBl, ok_cBin, ok_cVarS, ok_cVar0, ok_cK, j0, ok_eqS, ok_blOf, decide_true]
    refine ⟨fun _ => ⟨fun _ => ?_, fun z => (nomatch z)⟩, fun z => (nomatch z)⟩
    refine fol_body (call := call) (k := k) (x := x) hS ho.2 hk rs hl e1 e2 (fun x9 x10 ls' s amt hv h1 => ?_) fun hv => ?_
    · exact tail6_ok (get_set e1) ⟨(moved_pos c0 d0 h1).trans (congrArg optU hv.symm), ex2.set (Nat.le_refl _) _⟩
    · exact ⟨(congrArg optU hv.symm), ex2⟩
/-! ### sealed -/
def secs (ss : List Int) : Prop := ss ≠ [] ∧ ss.length ≤ 10 ∧ ∀ s ∈ ss, 0 ≤ s ∧ s < 10 ^ 15
theorem sec_any {ss : List Int} (h : secs ss) {i : Int} (i0 : 0 ≤ i) (i1 : i < (ss.map U.int).length) (q : ∀ s, 0 ≤ s → s < 10 ^ 15 → Q (.int s) m) : okP (idxU (.fl (ss.map U.int)) (.int i) m) Q :=
  ok_ixAny i0 i1 fun u hu => by
    obtain ⟨s, hs, rfl⟩ := List.mem_map.mp hu
    exact q s (h.2.2 s hs).1 (h.2.2 s hs).2
def SealedC (call : CallT) : Prop := ∀ (m : MH) (b g N : Nat) (st : U) (ss : List Int), Bag m b g N → N + 100 < 10 ^ 9 → stateOf 30 (10 ^ 40) st → secs ss → okO (call ("_law_sealed", none) [.ref b, st, .fl (ss.map U.int)] m) fun v m' => stateOf 30 (10 ^ 40) v ∧ Bag m' b g (N + 40) ∧ Fg b g m m'
theorem sealed_ok (hd : DrawC call) (hS : SealK call) {st : U} {ss : List Int} (h : Bag m b g N) (hN : N + 100 < 10 ^ 9) (hst : stateOf 30 (10 ^ 40) st) (hss : secs ss) :
    okS (P_law_sealed T call [some (.ref b), some st, some (.fl (ss.map U.int)), none, none, none, none, none, none] m) (fun _ _ => False) fun v m' => stateOf 30 (10 ^ 40) v ∧ Bag m' b g (N + 40) ∧ Fg b g m m' := by
  obtain ⟨a, n, c, d, ls, rfl, q2, q3, q4, q5, q6, q7, q8, q9, q10, q11⟩ := hst
  obtain ⟨lb, lg⟩ := bag_lt h
  have sl0 : 0 < ss.length := List.length_pos_iff.mpr hss.1
  have sl1 := hss.2.1
  have i4 : ∀ {m : MH} {Q : U → MH → Prop}, okP (idxU (.tup [.int a, .int n, .int c, .int d, .tup ls]) (.int 4) m) Q ↔ Q (.tup ls) m := ok_idxT rfl
  unfold P_law_sealed
  rw [ok_sSeq]
  simp only [ok_sAsg, ok_cFn, ok_cNil, ok_mkLst (us := []) rfl, ok_gName, List.set_cons_succ, List.set_cons_zero]
  rw [ok_sSeq]
  simp only [ok_sFor, ok_cIt, ok_cBin, ok_cVarS, ok_cVar0, ok_cK, i4, ok_itOf_tup]
  refine ok_loop (us := ls) (fun i t m' => ∃ (acc : List U) (x4 x5 x6 x7 x8 : Option U), t = [some (.ref b), some (.tup [.int a, .int n, .int c, .int d, .tup ls]), some (.fl (ss.map U.int)), some (.ref m.length), x4, x5, x6, x7, x8] ∧ m'[m.length]? = some (.lst acc) ∧ acc.length = i ∧ acc.map idOf = (ls.map idOf).take i ∧ (∀ l ∈ acc, ∃ k, 1 ≤ k ∧ k ≤ n ∧ lockOf (10 ^ 40) k l) ∧ Bag m' b g (N + i) ∧ Fg b g m m')
    ⟨[], none, none, none, none, none, rfl, ?_, rfl, rfl, fun l hl => (nomatch hl), bag_push h _, (Fg.refl b g m).push _⟩ ?_ ?_
  · rw [List.getElem?_append_right (Nat.le_refl _), Nat.sub_self]
    rfl
  · rintro i u t m1 hu ⟨acc, x4, x5, x6, x7, x8, rfl, e1, l1, p1, g1, h1, f1⟩
    have hi := (List.getElem?_eq_some_iff.mp hu).1
    obtain ⟨k, k1, k2, hk⟩ := q11.one u (List.mem_of_getElem? hu)
    have hid := hk.id
    obtain ⟨z, am, sl, la, rfl, hz, am0, am1, s0, s1, la0, la1⟩ := hk
    simp only [ok_gTup, ok_gAllS, ok_gAll0, ok_gName, List.set_cons_succ, List.set_cons_zero]
    refine ⟨rfl, ?_⟩
    rw [ok_sSeq, ok_sDrop]
    refine ok_meth (n := 1) (kind := "list") (phi := meAppend) rfl ?_
    simp only [ok_cVarS, ok_cVar0, ok_cCons, ok_cNil, ok_cFn, ok_cK, ok_cCallK, ok_cBin, ok_lenF]
    refine ⟨recv_lst e1, rfl, rfl, okO_mono (hd m1 b g _ _ h1 (by omega) (by rw [List.length_map]; omega) (by rw [List.length_map]; omega)) ?_⟩
    rintro v m2 ⟨j, rfl, j0, j1, h2, f2⟩
    have e2 : m2[m.length]? = some (.lst acc) := by rw [f2.2 m.length (by omega) (by omega)]; exact e1
    refine sec_any hss j0 j1 fun sc sc0 sc1 => ?_
    refine ⟨rfl, rfl, ?_⟩
    rw [hS m2 sc sc0]
    simp only [okO_ok]
    rw [ok_mkTup rfl]
    refine ⟨rfl, ?_⟩
    rw [ok_append e2 (line_of (by omega))]
    simp only [ok_sNx]
    refine ⟨_, _, _, _, _, _, rfl, get_set e2, ?_, ?_, ?_, (bag_set h2 (by omega) (by omega) _).up (by omega), (f1.trans f2.fg).set (Nat.le_refl _) _⟩
    · rw [List.length_append, l1]
      rfl
    · rw [List.map_append, p1, List.take_add_one, List.getElem?_map, hu]
      rfl
    · intro l hl
      rcases List.mem_append.mp hl with hl | hl
      · exact g1 l hl
      · rw [List.mem_singleton.mp hl]
        exact ⟨k, k1, k2, z, am, 3 * sc + 17, la, rfl, hz, am0, am1, by omega, by omega, la0, la1⟩
  · rintro t m1 ⟨acc, x4, x5, x6, x7, x8, rfl, e1, l1, p1, g1, h1, f1⟩
    have c4 : cutU [U.int a, .int n, .int c, .int d, .tup ls] none (some 4) = [.int a, .int n, .int c, .int d] := rfl
    have bt : okP (biTuple [.ref m.length] m1) (fun u m2 => u = .tup acc ∧ m2 = m1) := by
      have e : biTuple [.ref m.length] m1 = some (.tup acc, m1) := by
        show (seqL (.ref m.length) m1).bind (fun us => if lineOk us.length = true then some (U.tup us, m1) else none) = _
        unfold seqL
        simp only [e1, Option.bind_some]
        rw [if_pos (line_of (by omega))]
      rw [e]
      exact ⟨rfl, rfl⟩
    simp only [ok_sSeq, ok_sRet, ok_cBin, ok_cSlice, ok_cPart_none, ok_cPart_some, okI_int, ok_cVarS, ok_cVar0, ok_cK, ok_slcT, c4, ok_cFn, ok_cCons, ok_cNil]
    refine okP_mono bt ?_
    rintro u m2 ⟨rfl, rfl⟩
    rw [ok_mkTup rfl, ok_addT (by rfl)]
    rw [List.take_of_length_le (by rw [List.length_map]; omega)] at p1
    exact ⟨⟨a, n, c, d, acc, rfl, q2, q3, q4, q5, q6, q7, q8, q9, by omega, ⟨by rw [p1]; exact q11.rise, g1⟩⟩, h1.up (by omega), f1⟩
end
end Mi
/-! Ra: steps on locks, drawn. -/
namespace Mi
open PySem PySem.Spec PyProof.Rows L2
set_option linter.unusedVariables false
set_option linter.unusedSimpArgs false
set_option maxRecDepth 10000
set_option exponentiation.threshold 2000
section
variable {T : Tab} {call : CallT} {m m0 : MH} {Q : U → MH → Prop} {t : Env1} {b g N p : Nat}
theorem step_parts {us : List U} (hl : us.length ≤ 5) (h : ∀ u ∈ us, gdU (10 ^ 41) u = true ∧ wtU u ≤ 1921 ∧ dpU u ≤ 0) : StepOf (10 ^ 40) (.tup us) := by
  refine ⟨gdUs_iff.mpr fun u hu => (h u hu).1, ?_, ?_⟩
  · have w1 : wtUs us ≤ (1921 + 2) * us.length := wt_all fun u hu => (h u hu).2.1
    have w2 : (1921 + 2) * us.length ≤ (1921 + 2) * 5 := Nat.mul_le_mul_left _ hl
    show wtUs us + 6 ≤ 10000
    omega
  · have := dpUs_le.mpr fun u hu => (h u hu).2.2
    show dpUs us + 1 ≤ 1
    omega
def spGood7 (sp : Sp) : Prop := SpOk sp ∧ plf sp ∧ StepOf (10 ^ 40) sp.u
theorem int_part {k : Int} (h1 : 0 ≤ k) (h2 : k < 10 ^ 41) : gdU (10 ^ 41) (.int k) = true ∧ wtU (.int k) ≤ 1921 ∧ dpU (.int k) ≤ 0 := ⟨decide_eq_true (by omega), Nat.le_refl _, Nat.le_refl _⟩
theorem drop_part : gdU (10 ^ 41) (.str "drop") = true ∧ wtU (.str "drop") ≤ 1921 ∧ dpU (.str "drop") ≤ 0 := ⟨by kernel_rfl, by decide, Nat.le_refl _⟩
theorem fold_part : gdU (10 ^ 41) (.str "fold") = true ∧ wtU (.str "fold") ≤ 1921 ∧ dpU (.str "fold") ≤ 0 := ⟨by kernel_rfl, by decide, Nat.le_refl _⟩
theorem good_dro {k : Int} (h1 : 1 ≤ k) (h2 : k < 10 ^ 41) : spGood7 (.dro k) := ⟨h1, trivial, step_parts (us := [.str "drop", .int k]) (by simp) fun u hu => by
  simp only [List.mem_cons, List.not_mem_nil, or_false] at hu
  rcases hu with rfl | rfl
  · exact drop_part
  · exact int_part (by omega) h2⟩
theorem good_fol {k x : Int} (h1 : 1 ≤ k) (h2 : k < 10 ^ 41) (h3 : 0 ≤ x) (h4 : x < 10 ^ 15) : spGood7 (.fol k x) := ⟨⟨h1, h3⟩, trivial, step_parts (us := [.str "fold", .int k, .int x]) (by simp) fun u hu => by
  simp only [List.mem_cons, List.not_mem_nil, or_false] at hu
  rcases hu with rfl | rfl | rfl
  · exact fold_part
  · exact int_part (by omega) h2
  · exact int_part h3 (by omega)⟩
/-- a list of steps in the own heap -/
structure StL (m m' : MH) (b g N : Nat) (sps : List Sp) : Prop where
  at_ : m'[m.length]? = some (.lst (sps.map Sp.u))
  good : ∀ sp ∈ sps, spGood7 sp
  bag : Bag m' b g N
  fg : Fg b g m m'
theorem StL.app {m m' : MH} {sps : List Sp} {sp : Sp} (h : StL m m' b g N sps) (hb : b < m.length ∧ g < m.length) (hs : spGood7 sp) : StL m (m'.set m.length (.lst (sps.map Sp.u ++ [sp.u]))) b g N (sps ++ [sp]) :=
  ⟨by rw [get_set h.at_, List.map_append]; rfl, fun x hx => (List.mem_append.mp hx).elim (h.good x) fun e => List.mem_singleton.mp e ▸ hs, bag_set h.bag (by omega) (by omega) _, h.fg.set (Nat.le_refl _) _⟩
theorem StL.fr {m m' m2 : MH} {sps : List Sp} {N' : Nat} (h : StL m m' b g N sps) (hb : b < m.length ∧ g < m.length) (hB : Bag m2 b g N') (f : Fr b g m' m2) : StL m m2 b g N' sps :=
  ⟨by rw [f.2 m.length (by omega) (by omega)]; exact h.at_, h.good, hB, h.fg.trans f.fg⟩
def Steps7C (call : CallT) : Prop := ∀ (m : MH) (b g N : Nat) (st : U) (ss : List Int), Bag m b g N → N + 400 < 10 ^ 9 → stateOf 30 (10 ^ 40) st → secs ss → okO (call ("_law_steps", none) [.ref b, st, .fl (ss.map U.int)] m) fun v m' => ∃ sps : List Sp, v = .fl (sps.map Sp.u) ∧ sps.length ≤ 1000 ∧ (∀ sp ∈ sps, spGood7 sp) ∧ Bag m' b g (N + 200) ∧ Fg b g m m'
theorem steps7_ok (hd : DrawC call) (hc : CountM (10 ^ 15) call) (hS : SealK call) {st : U} {ss : List Int} (h : Bag m b g N) (hN : N + 400 < 10 ^ 9) (hst : stateOf 30 (10 ^ 40) st) (hss : secs ss) :
    okS (P_law_steps7 T call [some (.ref b), some st, some (.fl (ss.map U.int)), none, none, none, none] m) (fun _ _ => False) fun v m' => ∃ sps : List Sp, v = .fl (sps.map Sp.u) ∧ sps.length ≤ 1000 ∧ (∀ sp ∈ sps, spGood7 sp) ∧ Bag m' b g (N + 200) ∧ Fg b g m m' := by
  obtain ⟨a, n, c, d, ls, rfl, q2, q3, q4, q5, q6, q7, q8, q9, q10, q11⟩ := hst
  have hb := bag_lt h
  have sl0 : 0 < ss.length := List.length_pos_iff.mpr hss.1
  have sl1 := hss.2.1
  have i4 : ∀ {m : MH} {Q : U → MH → Prop}, okP (idxU (.tup [.int a, .int n, .int c, .int d, .tup ls]) (.int 4) m) Q ↔ Q (.tup ls) m := ok_idxT rfl
  unfold P_law_steps7
  rw [ok_sSeq]
  simp only [ok_sAsg, ok_cFn, ok_cNil, ok_mkLst (us := []) rfl, ok_gName, List.set_cons_succ, List.set_cons_zero]
  rw [ok_sSeq]
  simp only [ok_sFor, ok_cIt, ok_cBin, ok_cSlice, ok_cPart_none, ok_cPart_some, okI_int, ok_cFn, ok_cCons, ok_cNil, ok_cVarS, ok_cVar0, ok_cK, ok_cUn, ok_neg, i4]
  rw [biList_tup (by omega)]
  simp only [ok_slcF]
  rw [biList_tup (by omega)]
  simp only [ok_slcF]
  have w1 := cut_len ls none (some 8)
  have w2 := cut_len ls (some (-1)) none
  rw [ok_addF (line_of (by omega)), ok_itOf_fl]
  generalize hus : cutU ls none (some 8) ++ cutU ls (some (-1)) none = us
  have hin : ∀ u ∈ us, u ∈ ls := fun u hu => by
    rw [← hus] at hu
    rcases List.mem_append.mp hu with hu | hu
    · exact cut_mem hu
    · exact cut_mem hu
  have hul : us.length ≤ 60 := by rw [← hus, List.length_append]; omega
  refine ok_loop (us := us) (fun i t m' => ∃ (sps : List Sp) (x4 x5 x6 : Option U), t = [some (.ref b), some (.tup [.int a, .int n, .int c, .int d, .tup ls]), some (.fl (ss.map U.int)), some (.ref m.length), x4, x5, x6] ∧ sps.length ≤ 12 * i ∧ StL m m' b g (N + 2 * i) sps)
    ⟨[], none, none, none, rfl, Nat.le_refl _, ⟨?_, fun x hx => (nomatch hx), bag_push h _, (Fg.refl b g m).push _⟩⟩ ?_ ?_
  · rw [List.getElem?_append_right (Nat.le_refl _), Nat.sub_self]
    rfl
  · rintro i u t m1 hu ⟨sps, x4, x5, x6, rfl, l1, S1⟩
    have hi : i < us.length := (List.getElem?_eq_some_iff.mp hu).1
    obtain ⟨k, k1, k2, hk⟩ := q11.one u (hin u (List.mem_of_getElem? hu))
    obtain ⟨z, am, sl, la, rfl, hz, am0, am1, s0, s1, la0, la1⟩ := hk
    have j0 : ∀ {m : MH} {Q : U → MH → Prop}, okP (idxU (.tup [.int k, .str z, .int am, .int sl, .int la]) (.int 0) m) Q ↔ Q (.int k) m := ok_idxT rfl
    have j3 : ∀ {m : MH} {Q : U → MH → Prop}, okP (idxU (.tup [.int k, .str z, .int am, .int sl, .int la]) (.int 3) m) Q ↔ Q (.int sl) m := ok_idxT rfl
    simp only [ok_gName, List.set_cons_succ, List.set_cons_zero]
    rw [ok_sSeq]
    simp only [ok_sAsg, ok_cFn, ok_cCons, ok_cNil, ok_cBin, ok_cVarS, ok_cVar0, ok_cK, j0, ok_cUn, ok_neg, ok_cCallK]
    rw [ok_mkFl rfl]
    refine ⟨rfl, rfl, okO_mono (hd m1 b g _ 5 S1.bag (by omega) (by decide) (by decide)) ?_⟩
    rintro v m2 ⟨j, rfl, j00, j01, h2, f2⟩
    refine ok_ixAny j00 (by simpa using j01) fun e he => ?_
    obtain ⟨e, rfl, e0, e1⟩ : ∃ y : Int, e = .int y ∧ -1 ≤ y ∧ y ≤ 1 := by
      simp only [List.mem_cons, List.not_mem_nil, or_false] at he
      rcases he with rfl | rfl | rfl | rfl | rfl <;> exact ⟨_, rfl, by decide, by decide⟩
    have S2 := S1.fr hb h2 f2
    rw [ok_add, ok_biMax]
    generalize hx : (if k + e > 1 then k + e else 1) = x
    have x1 : 1 ≤ x := by rw [← hx]; split <;> omega
    have x2 : x < 10 ^ 41 := by rw [← hx]; split <;> omega
    simp only [ok_gName, List.set_cons_succ, List.set_cons_zero]
    rw [ok_sSeq, ok_sDrop]
    refine ok_meth (n := 1) (kind := "list") (phi := meAppend) rfl ?_
    simp only [ok_cVarS, ok_cVar0, ok_cCons, ok_cNil, ok_cFn, ok_cK]
    refine ⟨recv_lst S2.at_, ?_⟩
    rw [ok_mkTup rfl]
    refine ⟨rfl, ?_⟩
    rw [ok_append S2.at_ (line_of (by rw [List.length_map]; omega))]
    have S3 := S2.app hb (good_dro x1 x2)
    have eu : U.tup [.str "drop", .int x] = (Sp.dro x).u := rfl
    rw [eu]
    generalize m2.set m.length (.lst (sps.map Sp.u ++ [(Sp.dro x).u])) = m3 at S3 ⊢
    rw [ok_sSeq, ok_sDrop]
    refine ok_meth (n := 1) (kind := "list") (phi := meAppend) rfl ?_
    simp only [ok_cVarS, ok_cVar0, ok_cCons, ok_cNil, ok_cFn, ok_cK, ok_cBin, ok_cCallK, ok_lenF]
    refine ⟨recv_lst S3.at_, rfl, rfl, okO_mono (hd m3 b g _ _ S3.bag (by omega) (by rw [List.length_map]; omega) (by rw [List.length_map]; omega)) ?_⟩
    rintro v m4 ⟨j2, rfl, j20, j21, h4, f4⟩
    have S4 := S3.fr hb h4 f4
    refine sec_any hss j20 j21 fun sc sc0 sc1 => ?_
    rw [ok_mkTup rfl]
    refine ⟨rfl, ?_⟩
    rw [ok_append S4.at_ (line_of (by rw [List.length_map, List.length_append]; simp; omega))]
    have S5 := S4.app hb (good_fol x1 x2 sc0 sc1)
    have eu2 : U.tup [.str "fold", .int x, .int sc] = (Sp.fol x sc).u := rfl
    rw [eu2]
    generalize m4.set m.length (.lst ((sps ++ [Sp.dro x]).map Sp.u ++ [(Sp.fol x sc).u])) = m5 at S5 ⊢
    have l5 : ((sps ++ [Sp.dro x]) ++ [Sp.fol x sc]).length = sps.length + 2 := by simp
    generalize (sps ++ [Sp.dro x]) ++ [Sp.fol x sc] = sps5 at S5 l5
    rw [ok_sSeq]
    simp only [ok_sFor, ok_cIt, ok_cVarS, ok_cVar0, ok_itOf_fl]
    refine ok_loop (us := ss.map U.int) (fun q t m' => ∃ (sps : List Sp) (x6 : Option U), t = [some (.ref b), some (.tup [.int a, .int n, .int c, .int d, .tup ls]), some (.fl (ss.map U.int)), some (.ref m.length), some (.tup [.int k, .str z, .int am, .int sl, .int la]), some (.int x), x6] ∧ sps.length ≤ sps5.length + q ∧ StL m m' b g (N + 2 * i + 1 + 1) sps) ⟨sps5, x6, rfl, Nat.le_refl _, S5⟩ ?_ ?_
    · rintro q w t m6 hw ⟨sps6, y6, rfl, l6, S6⟩
      have hq : q < ss.length := by
        have := (List.getElem?_eq_some_iff.mp hw).1
        rw [List.length_map] at this
        exact this
      obtain ⟨s, rfl, hs⟩ := map_get hw
      have hs2 := hss.2.2 s (List.mem_of_getElem? hs)
      simp only [ok_gName, List.set_cons_succ, List.set_cons_zero]
      rw [ok_sSeq]
      simp only [ok_sIf, ok_cIsBl, ok_cBin, ok_cCallK, ok_cCons, ok_cNil, ok_cVarS, ok_cVar0, ok_cK, hS m6 s hs2.1, okO_ok, j3, ok_eqI, ok_blOf]
      refine ⟨rfl, rfl, fun _ => ?_, fun _ => ?_⟩
      · rw [ok_sSeq, ok_sDrop]
        refine ok_meth (n := 1) (kind := "list") (phi := meAppend) rfl ?_
        simp only [ok_cVarS, ok_cVar0, ok_cCons, ok_cNil, ok_cFn, ok_cK, ok_cBin, j0]
        refine ⟨recv_lst S6.at_, ?_⟩
        rw [ok_mkTup rfl]
        refine ⟨rfl, ?_⟩
        rw [ok_append S6.at_ (line_of (by rw [List.length_map]; omega))]
        simp only [ok_sNx]
        exact ⟨sps6 ++ [Sp.fol k s], _, rfl, by rw [List.length_append]; simp; omega, S6.app hb (good_fol k1 (by omega) hs2.1 hs2.2)⟩
      · simp only [ok_sNx]
        exact ⟨sps6, _, rfl, by omega, S6⟩
    · rintro t m6 ⟨sps6, y6, rfl, l6, S6⟩
      rw [List.length_map] at l6
      simp only [ok_sNx]
      exact ⟨sps6, _, _, _, rfl, by omega, ⟨S6.at_, S6.good, S6.bag.up (by omega), S6.fg⟩⟩
  · rintro t m1 ⟨sps, x4, x5, x6, rfl, l1, S1⟩
    rw [ok_sSeq]
    simp only [ok_sRet, ok_cBin, ok_cFn, ok_cCons, ok_cNil, ok_cVarS, ok_cVar0, ok_cK, ok_cCallK]
    refine ⟨rfl, rfl, okO_mono (hc m1 b g _ S1.bag (by omega)) ?_⟩
    rintro v m2 ⟨k, rfl, k0, k1, h2, f2⟩
    rw [ok_biMax, ok_mkTup rfl]
    refine ⟨rfl, rfl, okO_mono (hc m2 b g _ h2 (by omega)) ?_⟩
    rintro v m3 ⟨k3, rfl, k30, k31, h3, f3⟩
    rw [ok_biMax]
    refine ⟨rfl, rfl, okO_mono (hc m3 b g _ h3 (by omega)) ?_⟩
    rintro v m4 ⟨k4, rfl, k40, k41, h4, f4⟩
    have S4 := S1.fr hb h4 ((f2.trans f3).trans f4)
    rw [ok_mkTup rfl, ok_mkFl rfl, ok_addRF S4.at_ (line_of (by rw [List.length_map]; simp; omega))]
    generalize hx : (if k > 1 then k else 1) = x
    have x1 : 1 ≤ x := by rw [← hx]; split <;> omega
    have x2 : x < 10 ^ 41 := by rw [← hx]; split <;> omega
    generalize hy : (if k3 > 1 then k3 else 1) = y
    have y1 : 1 ≤ y := by rw [← hy]; split <;> omega
    have y2 : y < 10 ^ 41 := by rw [← hy]; split <;> omega
    refine ⟨sps ++ [Sp.dro x, Sp.fol y k4], ?_, ?_, ?_, S4.bag.up (by omega), S4.fg⟩
    · rw [List.map_append]
      rfl
    · rw [List.length_append]
      simp
      omega
    · intro sp hsp
      rcases List.mem_append.mp hsp with hsp | hsp
      · exact S4.good sp hsp
      · simp only [List.mem_cons, List.not_mem_nil, or_false] at hsp
        rcases hsp with rfl | rfl
        · exact good_dro x1 x2
        · exact good_fol y1 y2 k40 k41
theorem sme_next7 {a n c d : Int} {ls : List U} {sp : Sp} (hs : stateB (stU a n c d ls) = true) (hq : plf sp) : smeB 3 (optU (nextV a n c d ls sp)) = true := by
  obtain ⟨a', n', c', d', ls', e, a0, n0, c0, d0, hl, hk, hr, he⟩ := state_all hs
  have e' : ls = ls' := by cases e; rfl
  subst e'
  have mv : ∀ (s : Bool) (amt : Int) (k : Int), smeB 3 (optU (movedV a n c d s amt (ls.filter fun l => !hasId k l))) = true := fun s amt k => by
    have hk' : ∀ l ∈ ls.filter (fun l => !hasId k l), lockB l = true := fun l hl => hk l (List.mem_filter.mp hl).1
    have hl' : (ls.filter fun l => !hasId k l).length ≤ 30 := Nat.le_trans (List.length_filter_le _ _) hl
    unfold movedV
    split
    · rfl
    · split
      · rfl
      · cases s with
        | true => exact sme_st hk' (by omega)
        | false => exact sme_st hk' (by omega)
  cases sp with
  | pay s amt => exact hq.elim
  | lok s amt sl la => exact hq.elim
  | pas => exact hq.elim
  | dro k =>
    show smeB 3 (optU (droV a n c d ls k (ls.find? (hasId k)))) = true
    cases ls.find? (hasId k) with
    | none => rfl
    | some l => exact mv _ _ k
  | fol k x =>
    show smeB 3 (optU (folV a n c d ls k x (ls.find? (hasId k)))) = true
    cases ls.find? (hasId k) with
    | none => rfl
    | some l =>
      show smeB 3 (optU (if 3 * x + 17 = sealOf l then movedV a n c d (!sideOf l) (amtOf l) (ls.filter fun l => !hasId k l) else none)) = true
      split
      · exact mv _ _ k
      · rfl
end
end Mi
/-! what defs do that several laws share, by own values. -/
namespace Mi
open PySem PySem.Spec PyProof.Rows L2
set_option linter.unusedVariables false
def P_law_well (T : Tab) (call : FKey → List U → MH → Out U) : S1 := (sSeq (sAsg (cLc true (cIt (cSlice (cVar 0) none (some (cK (.int 63))))) (gName 5) (cIsBl (cBin (cmpI geI) (cFn biAbs (cCons (cVar 5) cNil)) (cBin powU (cK (.int 10)) (cK (.int 18))))) (cBin modU (cFn biAbs (cCons (cVar 5) cNil)) (cBin mulU (cBin powU (cK (.int 10)) (cK (.int 60))) (cBin powU (cK (.int 10)) (cK (.int 60))))) [5]) (gName 1)) (sSeq (sAsg (cLc false (cIt (cSlice (cVar 0) none (some (cK (.int 63))))) (gName 5) (cIsBl (cBin (cmpI ltI) (cFn biAbs (cCons (cVar 5) cNil)) (cBin powU (cK (.int 10)) (cK (.int 18))))) (cBin modU (cVar 5) (cK (.int 2147483563))) [5]) (gName 2)) (sSeq (sAsg (cBin addU (cK (.int 7)) (cFn biLen (cCons (cVar 2) cNil))) (gName 3)) (sSeq (sFor (cIt (cVar 2)) (gName 4) (sSeq (sAsg (cBin modU (cBin addU (cBin addU (cBin mulU (cVar 3) (cK (.int 40014))) (cBin mulU (cVar 4) (cK (.int 3)))) (cK (.int 1))) (cK (.int 2147483563))) (gName 3)) sNx)) (sSeq (sRet (cFn mkLst (cCons (cVar 1) (cCons (cVar 2) (cCons (cVar 3) (cCons (cK (.int 0)) cNil)))))) sNx)))))
def P_law_take (T : Tab) (call : FKey → List U → MH → Out U) : S1 := (sSeq (sIf (cIsBl (cBin neU (cBin idxU (cVar 0) (cK (.int 0))) (cFn mkFl cNil))) (sSeq (sAsg (cBin idxU (cBin idxU (cVar 0) (cK (.int 0))) (cK (.int 0))) (gName 3)) (sSeq (sAsg (cBin fdivU (cVar 3) (cVar 1)) (gSubU (cBin idxU (cVar 0) (cK (.int 0))) (cK (.int 0)))) (sSeq (sIf (cIsBl (cBin (cmpI ltI) (cVar 3) (cVar 1))) (sSeq (sDrop (cMeth T "pop" 1 [] (cBin idxU (cVar 0) (cK (.int 0))) (cCons (cK (.int 0)) cNil) cNil)) sNx) sNx) (sSeq (sRet (cBin modU (cVar 3) (cVar 1))) sNx)))) sNx) (sSeq (sAsg (cBin addU (cBin idxU (cVar 0) (cK (.int 3))) (cK (.int 1))) (gSubU (cVar 0) (cK (.int 3)))) (sSeq (sAsg (cK (.int 1)) (gName 2)) (sSeq (sIf (cIsBl (cBin neU (cBin idxU (cVar 0) (cK (.int 1))) (cFn mkFl cNil))) (sSeq (sAsg (cBin addU (cBin idxU (cBin idxU (cVar 0) (cK (.int 1))) (cBin modU (cBin idxU (cVar 0) (cK (.int 3))) (cFn biLen (cCons (cBin idxU (cVar 0) (cK (.int 1))) cNil)))) (cK (.int 1))) (gName 2)) sNx) sNx) (sSeq (sAsg (cBin modU (cBin powU (cBin addU (cBin idxU (cVar 0) (cK (.int 2))) (cBin mulU (cVar 2) (cBin addU (cBin mulU (cBin idxU (cVar 0) (cK (.int 3))) (cK (.int 3163))) (cK (.int 1))))) (cK (.int 5))) (cK (.int 2147483563))) (gName 3)) (sSeq (sAsg (cBin modU (cBin addU (cBin addU (cBin mulU (cBin idxU (cVar 0) (cK (.int 2))) (cK (.int 40692))) (cVar 3)) (cBin idxU (cVar 0) (cK (.int 3)))) (cK (.int 2147483563))) (gSubU (cVar 0) (cK (.int 2)))) (sSeq (sRet (cBin modU (cBin fdivU (cVar 3) (cK (.int 8))) (cVar 1))) sNx)))))))
end Mi
/-! Rc: the drawing of family B (k11-k22, k31-k38, ..): a well, takes from it. -/
namespace Mi
open PySem PySem.Spec PyProof.Rows L2
set_option linter.unusedVariables false
set_option linter.unusedSimpArgs false
set_option maxRecDepth 10000
set_option exponentiation.threshold 2000
def wM : Int := 2147483563
structure WellG (m : MH) (b g : Nat) (gs ss : List Int) (s n : Int) : Prop where
  hb : m[b]? = some (.lst [.ref g, .fl (ss.map U.int), .int s, .int n])
  hg : m[g]? = some (.lst (gs.map U.int))
  ne : b ≠ g
  len : gs.length ≤ 63
  lenS : ss.length ≤ 63
  gb : ∀ x ∈ gs, 0 ≤ x
  sb : ∀ x ∈ ss, 0 ≤ x ∧ x < wM
  n0 : 0 ≤ n
  s0 : 0 ≤ s
  s1 : s < wM
def Well (m : MH) (b g : Nat) (N : Nat) : Prop := ∃ gs ss s n, WellG m b g gs ss s n ∧ n ≤ (N : Int)
theorem Well.up {m : MH} {b g N N' : Nat} (h : Well m b g N) (hN : N ≤ N') : Well m b g N' := by
  obtain ⟨gs, ss, s, n, h1, h2⟩ := h
  exact ⟨gs, ss, s, n, h1, by omega⟩
section
variable {T : Tab} {call : CallT} {m : MH} {b g : Nat} {gs ss : List Int} {s n : Int}
theorem WellG.at0 (h : WellG m b g gs ss s n) {Q : U → MH → Prop} : okP (idxU (.ref b) (.int 0) m) Q ↔ Q (.ref g) m := ok_idxL h.hb rfl
theorem WellG.at1 (h : WellG m b g gs ss s n) {Q : U → MH → Prop} : okP (idxU (.ref b) (.int 1) m) Q ↔ Q (.fl (ss.map U.int)) m := ok_idxL h.hb rfl
theorem WellG.at2 (h : WellG m b g gs ss s n) {Q : U → MH → Prop} : okP (idxU (.ref b) (.int 2) m) Q ↔ Q (.int s) m := ok_idxL h.hb rfl
theorem WellG.at3 (h : WellG m b g gs ss s n) {Q : U → MH → Prop} : okP (idxU (.ref b) (.int 3) m) Q ↔ Q (.int n) m := ok_idxL h.hb rfl
theorem WellG.atG {x : Int} (h : WellG m b g (x :: gs) ss s n) {Q : U → MH → Prop} : okP (idxU (.ref g) (.int 0) m) Q ↔ Q (.int x) m := ok_idxL h.hg atI_0
theorem WellG.setG (h : WellG m b g gs ss s n) {gs' : List Int} (hl : gs'.length ≤ 63) (hb : ∀ x ∈ gs', 0 ≤ x) : WellG (m.set g (.lst (gs'.map U.int))) b g gs' ss s n :=
  ⟨by rw [List.getElem?_set_ne (Ne.symm h.ne)]; exact h.hb, get_set h.hg, h.ne, hl, h.lenS, hb, h.sb, h.n0, h.s0, h.s1⟩
theorem WellG.setB (h : WellG m b g gs ss s n) {s' n' : Int} (h1 : 0 ≤ n') (h2 : 0 ≤ s') (h3 : s' < wM) : WellG (m.set b (.lst [.ref g, .fl (ss.map U.int), .int s', .int n'])) b g gs ss s' n' :=
  ⟨get_set h.hb, by rw [List.getElem?_set_ne h.ne]; exact h.hg, h.ne, h.len, h.lenS, h.gb, h.sb, h1, h2, h3⟩
def TakeC (call : CallT) : Prop := ∀ (m : MH) (b g N : Nat) (k : Int), Well m b g N → N < 10 ^ 9 → 0 < k → k < 2 ^ 200 → okO (call ("_law_take", none) [.ref b, .int k] m) fun v m' => ∃ i, v = .int i ∧ 0 ≤ i ∧ i < k ∧ Well m' b g (N + 1) ∧ Fr b g m m'
theorem take_ok {N : Nat} {k : Int} (h : Well m b g N) (hN : N < 10 ^ 9) (hk : 0 < k) (hk2 : k < 2 ^ 200) :
    okS (P_law_take T call [some (.ref b), some (.int k), none, none] m) (fun _ _ => False) fun v m' => ∃ i, v = .int i ∧ 0 ≤ i ∧ i < k ∧ Well m' b g (N + 1) ∧ Fr b g m m' := by
  obtain ⟨gs, ss, s, n, h, hn⟩ := h
  have dk : divOk k = true := by
    unfold divOk
    rw [Bool.and_eq_true, decide_eq_true_eq, decide_eq_true_eq]
    exact ⟨hk, nat_lt 200 1000 (by omega) hk2 (by decide)⟩
  have dk8 : divOk 8 = true := rfl
  unfold P_law_take
  rw [ok_sSeq]
  simp only [ok_sIf, ok_cIsBl, ok_cBin, ok_cVar0, ok_cK, h.at0, ok_cFn, ok_cNil, ok_mkFl (us := []) rfl, ok_neOf (eq_nil_ref h.hg), ok_blOf]
  cases gs with
  | cons x gs =>
    refine ⟨fun _ => ?_, fun z => (nomatch z)⟩
    have x0 := h.gb x List.mem_cons_self
    rw [ok_sSeq]
    simp only [ok_sAsg, ok_cBin, ok_cVar0, ok_cVarS, ok_cK, h.at0, h.atG, ok_gName, List.set_cons_succ, List.set_cons_zero]
    rw [ok_sSeq]
    simp only [ok_sAsg, ok_cBin, ok_cVar0, ok_cVarS, ok_cK, h.at0, ok_div dk, ok_gSubU]
    refine ok_setL h.hg (j := 0) (ixN_nat (Int.le_refl _) (by rw [List.length_map, List.length_cons]; omega)) ?_
    have h2 := h.setG (gs' := (x / k) :: gs) (by have := h.len; simpa using this) (fun y hy => by
      rcases List.mem_cons.mp hy with rfl | hy
      · exact Int.ediv_nonneg x0 (by omega)
      · exact h.gb y (List.mem_cons_of_mem _ hy))
    have es : ((x :: gs).map U.int).set 0 (.int (x / k)) = ((x / k) :: gs).map U.int := rfl
    rw [es]
    have f2 : Fr b g m (m.set g (.lst (((x / k) :: gs).map U.int))) := Fr.setG
    generalize m.set g (.lst (((x / k) :: gs).map U.int)) = m2 at h2 f2 ⊢
    have fin : ∀ m3, Well m3 b g N → Fr b g m m3 → okS (sSeq (sRet (cBin modU (cVar 3) (cVar 1))) sNx [some (.ref b), some (.int k), none, some (.int x)] m3) (fun _ _ => False) fun v m' => ∃ i, v = .int i ∧ 0 ≤ i ∧ i < k ∧ Well m' b g (N + 1) ∧ Fr b g m m' := fun m3 h3 f3 => by
      simp only [ok_sSeq, ok_sRet, ok_cBin, ok_cVarS, ok_cVar0, ok_mod hk]
      exact ⟨x % k, rfl, Int.emod_nonneg _ (by omega), Int.emod_lt_of_pos _ hk, h3.up (by omega), f3⟩
    rw [ok_sSeq]
    simp only [ok_sIf, ok_cIsBl, ok_cBin, ok_cVar0, ok_cVarS, ok_cmpI, ok_blOf]
    refine ⟨fun _ => ?_, fun _ => ?_⟩
    · rw [ok_sSeq, ok_sDrop]
      refine ok_meth (n := 1) (kind := "list") (phi := mePop) rfl ?_
      simp only [ok_cBin, ok_cVar0, ok_cK, h2.at0, ok_cCons, ok_cNil]
      refine ⟨recv_lst h2.hg, rfl, ?_⟩
      rw [ok_pop0 (u := .int (x / k)) (us := gs.map U.int) h2.hg]
      simp only [ok_sNx]
      exact okS_mono (fin _ ⟨gs, ss, s, n, h2.setG (by have := h.len; simp at this; omega) fun y hy => h.gb y (List.mem_cons_of_mem _ hy), hn⟩ (f2.trans Fr.setG)) (fun _ _ z => z.elim) fun _ _ z => z
    · simp only [ok_sNx]
      exact okS_mono (fin _ ⟨_, _, _, _, h2, hn⟩ f2) (fun _ _ z => z.elim) fun _ _ z => z
  | nil =>
    refine ⟨fun z => (nomatch z), fun _ => ?_⟩
    have n0 := h.n0
    have s0 := h.s0
    have s1 := h.s1
    unfold wM at s1
    have hN' : (N : Int) < 10 ^ 9 := by exact_mod_cast hN
    simp only [ok_sNx]
    rw [ok_sSeq]
    simp only [ok_sAsg, ok_cBin, ok_cVar0, ok_cVarS, ok_cK, h.at3, ok_add, ok_gSubU]
    refine ok_setL h.hb (j := 3) rfl ?_
    have h2 := h.setB (s' := s) (n' := n + 1) (by omega) s0 h.s1
    have es : ([U.ref g, .fl (ss.map U.int), .int s, .int n] : List U).set 3 (.int (n + 1)) = [.ref g, .fl (ss.map U.int), .int s, .int (n + 1)] := rfl
    rw [es]
    have f2 : Fr b g m (m.set b (.lst [.ref g, .fl (ss.map U.int), .int s, .int (n + 1)])) := Fr.setB
    generalize m.set b (.lst [.ref g, .fl (ss.map U.int), .int s, .int (n + 1)]) = m2 at h2 f2 ⊢
    rw [ok_sSeq]
    simp only [ok_sAsg, ok_cK, ok_gName, List.set_cons_succ, List.set_cons_zero]
    -- from the cell on
    have rest : ∀ y : Int, 0 ≤ y → y ≤ 2147483563 → okS (sSeq (sAsg (cBin modU (cBin powU (cBin addU (cBin idxU (cVar 0) (cK (.int 2))) (cBin mulU (cVar 2) (cBin addU (cBin mulU (cBin idxU (cVar 0) (cK (.int 3))) (cK (.int 3163))) (cK (.int 1))))) (cK (.int 5))) (cK (.int 2147483563))) (gName 3)) (sSeq (sAsg (cBin modU (cBin addU (cBin addU (cBin mulU (cBin idxU (cVar 0) (cK (.int 2))) (cK (.int 40692))) (cVar 3)) (cBin idxU (cVar 0) (cK (.int 3)))) (cK (.int 2147483563))) (gSubU (cVar 0) (cK (.int 2)))) (sSeq (sRet (cBin modU (cBin fdivU (cVar 3) (cK (.int 8))) (cVar 1))) sNx)) [some (.ref b), some (.int k), some (.int y), none] m2) (fun _ _ => False) fun v m' => ∃ i, v = .int i ∧ 0 ≤ i ∧ i < k ∧ Well m' b g (N + 1) ∧ Fr b g m m' := by
      intro y y0 y1
      have m1 : mulOk (n + 1) 3163 = true := by
        unfold mulOk
        rw [Bool.or_eq_true, Bool.or_eq_true]
        exact .inl (.inr rfl)
      have m2' : mulOk y ((n + 1) * 3163 + 1) = true := by
        unfold mulOk
        rw [Bool.or_eq_true, Bool.or_eq_true, decide_eq_true_eq, decide_eq_true_eq]
        exact .inl (.inl (by omega))
      have m3 : mulOk s 40692 = true := by
        unfold mulOk
        rw [Bool.or_eq_true, Bool.or_eq_true]
        exact .inl (.inr rfl)
      have p0 : 0 ≤ y * ((n + 1) * 3163 + 1) := Int.mul_nonneg y0 (by omega)
      have p1 : y * ((n + 1) * 3163 + 1) ≤ 2147483563 * (4000 * 10 ^ 9) := Int.mul_le_mul y1 (by omega) (by omega) (by omega)
      have pok : powOk (s + y * ((n + 1) * 3163 + 1)) 5 = true := by
        unfold powOk
        have e1 : (decide (0 ≤ (5 : Int)) && decide ((5 : Int) ≤ 100)) = true := rfl
        rw [e1, Bool.true_and, decide_eq_true_eq]
        exact nat_lt 100 1000 (by omega) (by omega) (by decide)
      rw [ok_sSeq]
      simp only [ok_sAsg, ok_cBin, ok_cVar0, ok_cVarS, ok_cK, h2.at2, h2.at3, ok_mul m1, ok_add, ok_mul m2', ok_pow pok, ok_mod (show (0 : Int) < 2147483563 by decide), ok_gName, List.set_cons_succ, List.set_cons_zero]
      generalize (s + y * ((n + 1) * 3163 + 1)) ^ (Int.toNat 5) % 2147483563 = z
      rw [ok_sSeq]
      simp only [ok_sAsg, ok_cBin, ok_cVar0, ok_cVarS, ok_cK, h2.at2, h2.at3, ok_mul m3, ok_add, ok_mod (show (0 : Int) < 2147483563 by decide), ok_gSubU]
      refine ok_setL h2.hb (j := 2) rfl ?_
      have h3 := h2.setB (s' := (s * 40692 + z + (n + 1)) % 2147483563) (n' := n + 1) (by omega) (Int.emod_nonneg _ (by decide)) (Int.emod_lt_of_pos _ (by decide))
      have es : ([U.ref g, .fl (ss.map U.int), .int s, .int (n + 1)] : List U).set 2 (.int ((s * 40692 + z + (n + 1)) % 2147483563)) = [.ref g, .fl (ss.map U.int), .int ((s * 40692 + z + (n + 1)) % 2147483563), .int (n + 1)] := rfl
      rw [es]
      simp only [ok_sSeq, ok_sRet, ok_cBin, ok_cVar0, ok_cVarS, ok_cK, ok_div dk8, ok_mod hk]
      exact ⟨_, rfl, Int.emod_nonneg _ (by omega), Int.emod_lt_of_pos _ hk, ⟨_, _, _, _, h3, by omega⟩, f2.trans Fr.setB⟩
    rw [ok_sSeq]
    simp only [ok_sIf, ok_cIsBl, ok_cBin, ok_cVar0, ok_cK, h2.at1, ok_cFn, ok_cNil, ok_mkFl (us := []) rfl, ok_neOf (eq_ints_nil _), ok_blOf]
    cases hss : ss with
    | nil =>
      subst hss
      refine ⟨fun z => (nomatch z), fun _ => ?_⟩
      simp only [ok_sNx]
      exact rest 1 (by decide) (by decide)
    | cons y0 yr =>
      rw [← hss]
      have hne : decide (ss = []) = false := decide_eq_false (by rw [hss]; simp)
      rw [hne]
      refine ⟨fun _ => ?_, fun z => (nomatch z)⟩
      have hl : 0 < (ss.map U.int).length := by rw [List.length_map, hss]; simp
      have hl' : (0 : Int) < ((ss.map U.int).length : Int) := by omega
      have i0 : 0 ≤ (n + 1) % ((ss.map U.int).length : Int) := Int.emod_nonneg _ (by omega)
      have i1 : (n + 1) % ((ss.map U.int).length : Int) < ((ss.map U.int).length : Int) := Int.emod_lt_of_pos _ hl'
      obtain ⟨y, ey, hy⟩ : ∃ y, atI (ss.map U.int) ((n + 1) % ((ss.map U.int).length : Int)) = some (.int y) ∧ y ∈ ss := by
        rw [atI_nat i0 i1, List.getElem?_map]
        have : ((n + 1) % ((ss.map U.int).length : Int)).toNat < ss.length := by
          rw [List.length_map] at i1 i0 ⊢
          omega
        rw [List.getElem?_eq_getElem this]
        exact ⟨_, rfl, List.getElem_mem _⟩
      obtain ⟨y0', y1'⟩ := h.sb y hy
      unfold wM at y1'
      rw [ok_sSeq]
      simp only [ok_sAsg, ok_cBin, ok_cVar0, ok_cVarS, ok_cK, h2.at1, h2.at3, ok_cFn, ok_cCons, ok_cNil, ok_lenF, ok_mod hl', ok_idxF ey, ok_add, ok_gName, List.set_cons_succ, List.set_cons_zero, ok_sNx]
      exact rest (y + 1) (by omega) (by omega)
end
end Mi
/-! Rd: a well is made. -/
namespace Mi
open PySem PySem.Spec PyProof.Rows L2
set_option linter.unusedVariables false
set_option linter.unusedSimpArgs false
set_option maxRecDepth 10000
set_option exponentiation.threshold 2000
section
variable {T : Tab} {call : CallT} {m : MH} {b g : Nat}
@[simp] theorem ok_biAbs (i : Int) {Q : U → MH → Prop} : okP (biAbs [.int i] m) Q ↔ Q (.int (if i < 0 then -i else i)) m := Iff.rfl
def WellC (call : CallT) : Prop := ∀ (ns : List Int), ns.length ≤ 63 → ∀ m, okO (call ("_law_well", none) [.cl (ns.map U.int)] m) fun v m' => v = .ref (m.length + 1) ∧ Well m' (m.length + 1) m.length 0 ∧ m'.length = m.length + 2 ∧ ∀ i, i < m.length → m'[i]? = m[i]?
theorem well_ok {ns : List Int} (hl : ns.length ≤ 63) : okS (P_law_well T call [some (.cl (ns.map U.int)), none, none, none, none, none] m) (fun _ _ => False) fun v m' => v = .ref (m.length + 1) ∧ Well m' (m.length + 1) m.length 0 ∧ m'.length = m.length + 2 ∧ ∀ i, i < m.length → m'[i]? = m[i]? := by
  obtain ⟨ks, ek, hk⟩ := cut_ints ns none (some 63)
  have hk63 : ks.length ≤ 63 := Nat.le_trans hk hl
  have pe : powOk 10 18 = true := rfl
  have pe6 : powOk 10 60 = true := by kernel_rfl
  have mo6 : mulOk ((10 : Int) ^ (Int.toNat 60)) ((10 : Int) ^ (Int.toNat 60)) = true := by kernel_rfl
  have h120 : (0 : Int) < (10 : Int) ^ (Int.toNat 60) * (10 : Int) ^ (Int.toNat 60) := by decide +kernel
  have hlk : lineOk (constIt (ks.map U.int)).len = true := by
    show lineOk (ks.map U.int).length = true
    rw [List.length_map]
    exact line_le hk63 (by decide)
  unfold P_law_well
  rw [ok_sSeq]
  simp only [ok_sAsg, ok_cLc, ok_cIt, ok_cSlice, ok_cVar0, ok_cPart_none, ok_cPart_some, ok_cK, okI_int, ok_slcC, ek, ok_itOf_fl, hlk, true_and]
  refine ok_lc (fun i acc m1 => m1 = m ∧ ∃ gs : List Int, acc = gs.map U.int ∧ gs.length ≤ i ∧ ∀ x ∈ gs, 0 ≤ x) ⟨rfl, [], rfl, Nat.le_refl _, fun x hx => (nomatch hx)⟩ ?_ ?_
  · rintro i u acc m1 hu ⟨rfl, gs, rfl, hg, gb⟩
    obtain ⟨x, rfl, hx⟩ := map_get hu
    simp only [ok_gName, wipeU, List.foldl, List.set_cons_succ, List.set_cons_zero, ok_cIsBl, ok_cBin, ok_cFn, ok_cCons, ok_cNil, ok_cVarS, ok_cVar0, ok_cK, ok_biAbs, ok_pow pe, ok_pow pe6, ok_mul mo6, ok_cmpI, ok_blOf, ok_mod h120]
    refine ⟨fun _ => ⟨trivial, gs ++ [_], by rw [List.map_append]; rfl, by rw [List.length_append]; exact Nat.succ_le_succ hg, fun y hy => ?_⟩, fun _ => ⟨trivial, gs, rfl, by omega, gb⟩⟩
    rcases List.mem_append.mp hy with hy | hy
    · exact gb y hy
    · rw [List.mem_singleton.mp hy]
      exact Int.emod_nonneg _ (Int.ne_of_gt h120)
  rintro acc m1 ⟨rfl, gs, rfl, hg, gb⟩
  rw [List.length_map] at hg
  have hg63 : gs.length ≤ 63 := Nat.le_trans hg hk63
  simp only [flP, ok_gName, List.set_cons_succ, List.set_cons_zero]
  rw [ok_sSeq]
  simp only [ok_sAsg, ok_cLc, ok_cIt, ok_cSlice, ok_cVar0, ok_cPart_none, ok_cPart_some, ok_cK, okI_int, ok_slcC, ek, ok_itOf_fl, hlk, true_and]
  refine ok_lc (fun i acc m2 => m2 = m1 ++ [.lst (gs.map U.int)] ∧ ∃ ls : List Int, acc = ls.map U.int ∧ ls.length ≤ i ∧ ∀ x ∈ ls, 0 ≤ x ∧ x < wM) ⟨rfl, [], rfl, Nat.le_refl _, fun _ h => (nomatch h)⟩ ?_ ?_
  · rintro i u acc m2 hu ⟨rfl, ls, rfl, hls, hb⟩
    obtain ⟨x, rfl, hx⟩ := map_get hu
    simp only [ok_gName, wipeU, List.foldl, List.set_cons_succ, List.set_cons_zero, ok_cIsBl, ok_cBin, ok_cFn, ok_cCons, ok_cNil, ok_cVarS, ok_cVar0, ok_cK, ok_biAbs, ok_pow pe, ok_cmpI, ok_blOf, ok_mod (show (0 : Int) < 2147483563 by decide)]
    refine ⟨fun _ => ⟨trivial, ls ++ [x % 2147483563], by rw [List.map_append]; rfl, by rw [List.length_append]; exact Nat.succ_le_succ hls, fun y hy => ?_⟩, fun _ => ⟨trivial, ls, rfl, by omega, hb⟩⟩
    rcases List.mem_append.mp hy with hy | hy
    · exact hb y hy
    · rw [List.mem_singleton.mp hy]
      exact ⟨Int.emod_nonneg _ (by decide), Int.emod_lt_of_pos _ (by decide)⟩
  rintro acc m2 ⟨rfl, ls, rfl, hls, hb⟩
  rw [List.length_map] at hls
  have hls63 : ls.length ≤ 63 := Nat.le_trans hls hk63
  simp only [flP, ok_gName, List.set_cons_succ, List.set_cons_zero]
  rw [ok_sSeq]
  simp only [ok_sAsg, ok_cBin, ok_cFn, ok_cCons, ok_cNil, ok_cVarS, ok_cVar0, ok_cK, ok_lenF, ok_add, ok_gName, List.set_cons_succ, List.set_cons_zero]
  rw [ok_sSeq]
  simp only [ok_sFor, ok_cIt, ok_cVarS, ok_cVar0, ok_itOf_fl]
  refine ok_loop (us := ls.map U.int) (fun i t m2 => m2 = m1 ++ [.lst (gs.map U.int)] ∧ ∃ s c, t = [some (.cl (ns.map U.int)), some (.ref m1.length), some (.fl (ls.map U.int)), some (.int s), c, none] ∧ 0 ≤ s ∧ s < wM) ⟨rfl, _, none, rfl, by omega, by rw [List.length_map]; unfold wM; omega⟩ ?_ ?_
  · rintro i u t m2 hu ⟨rfl, s, c, rfl, s0, s1⟩
    obtain ⟨x, rfl, hx⟩ := map_get hu
    have mo1 : mulOk s 40014 = true := by
      unfold mulOk
      rw [Bool.or_eq_true, Bool.or_eq_true]
      exact .inl (.inr rfl)
    have mo2 : mulOk x 3 = true := by
      unfold mulOk
      rw [Bool.or_eq_true, Bool.or_eq_true]
      exact .inl (.inr rfl)
    simp only [ok_gName, List.set_cons_succ, List.set_cons_zero, ok_sSeq, ok_sAsg, ok_cBin, ok_cVarS, ok_cVar0, ok_cK, ok_mul mo1, ok_mul mo2, ok_add, ok_mod (show (0 : Int) < 2147483563 by decide), ok_sNx]
    exact ⟨trivial, _, _, rfl, Int.emod_nonneg _ (by decide), Int.emod_lt_of_pos _ (by decide)⟩
  rintro t m2 ⟨rfl, s, c, rfl, s0, s1⟩
  simp only [ok_sSeq, ok_sRet, ok_cFn, ok_cCons, ok_cVarS, ok_cVar0, ok_cK, ok_cNil]
  rw [ok_mkLst rfl]
  have e1 : (m1 ++ [MO.lst (gs.map U.int)]).length = m1.length + 1 := by rw [List.length_append]; rfl
  rw [e1]
  refine ⟨rfl, ⟨gs, ls, s, 0, ⟨?_, ?_, by omega, hg63, hls63, gb, hb, Int.le_refl _, s0, s1⟩, Int.le_refl _⟩, by rw [List.length_append, e1]; rfl, fun i hi => ?_⟩
  · rw [List.getElem?_append_right (by rw [e1]; exact Nat.le_refl _), e1, Nat.sub_self]
    rfl
  · rw [List.getElem?_append_left (by rw [e1]; exact Nat.lt_succ_self _), List.getElem?_append_right (Nat.le_refl _), Nat.sub_self]
    rfl
  · rw [List.getElem?_append_left (by rw [e1]; omega), List.getElem?_append_left hi]
end
end Mi
/-! law_k31_fees_reckoned: data, head, what each def does, by own values. -/
namespace K31
open PySem PySem.Spec PyProof.Rows L2 Mi
set_option linter.unusedVariables false
set_option maxRecDepth 100000
set_option Elab.async false
abbrev OL : PySem.W.OpenLaw := PySem.Challenge.rw_coinlanes_k31_fees_reckoned
abbrev R : PySem.W.OpenRow := PySem.W.OpenLaw.row OL
def top (i : Nat) : Stmt := R.prog.main.body.getD i (.Pass ⟨0, 0, 0, 0⟩)
def d_is_count : De := ⟨⟨("is_count", none), "is_count", "is_count", defArgs (top 15), defBody (top 15), defScope (top 15), [], []⟩, ["thing"], ["thing"]⟩
def d_is_fee : De := ⟨⟨("is_fee", none), "is_fee", "is_fee", defArgs (top 18), defBody (top 18), defScope (top 18), [], []⟩, ["thing"], ["thing"]⟩
def d_taken_by : De := ⟨⟨("taken_by", none), "taken_by", "taken_by", defArgs (top 19), defBody (top 19), defScope (top 19), [], []⟩, ["fee", "amount"], ["fee", "amount", "flat", "share"]⟩
def d_fee_for : De := ⟨⟨("fee_for", none), "fee_for", "fee_for", defArgs (top 20), defBody (top 20), defScope (top 20), [], []⟩, ["fee", "amount"], ["fee", "amount"]⟩
def d_law_well : De := ⟨⟨("_law_well", none), "_law_well", "_law_well", defArgs (top 22), defBody (top 22), defScope (top 22), [], []⟩, ["_law_script"], ["_law_script", "_law_great", "_law_small", "_law_stir", "_law_number", "_law_cell"]⟩
def d_law_take : De := ⟨⟨("_law_take", none), "_law_take", "_law_take", defArgs (top 23), defBody (top 23), defScope (top 23), [], []⟩, ["_law_well_here", "_law_many"], ["_law_well_here", "_law_many", "_law_cell", "_law_number"]⟩
def d_law_odd : De := ⟨⟨("_law_odd", none), "_law_odd", "_law_odd", defArgs (top 24), defBody (top 24), defScope (top 24), [], []⟩, ["_law_well_here", "_law_thing"], ["_law_well_here", "_law_thing", "_law_some"]⟩
def d_law_count : De := ⟨⟨("_law_count", none), "_law_count", "_law_count", defArgs (top 25), defBody (top 25), defScope (top 25), [], []⟩, ["_law_thing"], ["_law_thing"]⟩
def d_law_is_toll : De := ⟨⟨("_law_is_toll", none), "_law_is_toll", "_law_is_toll", defArgs (top 26), defBody (top 26), defScope (top 26), [], []⟩, ["_law_thing"], ["_law_thing"]⟩
def d_law_asked : De := ⟨⟨("_law_asked", none), "_law_asked", "_law_asked", defArgs (top 27), defBody (top 27), defScope (top 27), [], []⟩, ["_law_toll", "_law_many"], ["_law_toll", "_law_many", "_law_told", "_law_caught", "e", "_law_found", "_law_odd_here"]⟩
def d_law_right : De := ⟨⟨("_law_right", none), "_law_right", "_law_right", defArgs (top 28), defBody (top 28), defScope (top 28), [], []⟩, ["_law_well_here"], ["_law_well_here", "_law_number", "_law_share", "_law_toll", "_law_many", "_law_bad", "_law_due", "_law_found"]⟩
def d_law : De := ⟨⟨("law", none), "law", "law", defArgs (top 29), defBody (top 29), defScope (top 29), [], []⟩, ["_law_script"], ["_law_script", "_law_well_here", "_law_k"]⟩
def ld : LD where
  es := [d_is_count, d_is_fee, d_taken_by, d_fee_for, d_law_well, d_law_take, d_law_odd, d_law_count, d_law_is_toll, d_law_asked, d_law_right, d_law]
  con := [("WHOLE", (.int 1000))]
  free := ["ValueError", "abs", "bool", "int", "isinstance", "len", "min", "range", "tuple"]
  glo := ["CoinError", "NoName", "NoSecret", "NoNumber", "NoCoins", "NoState", "NoPaper", "NoHand", "NoLane", "NotSigned", "Settled", "Old", "NoFees"]
  exc := ["NoCoins", "NoFees"]
  sub := [("NoCoins", [("CoinError", true)]), ("NoFees", [("CoinError", true)])]
  isa := [("NoCoins", [("NoCoins", true), ("NoFees", false), ("NoHand", false), ("NoLane", false), ("NoName", false), ("NoNumber", false), ("NoPaper", false), ("NoSecret", false), ("NoState", false), ("NotSigned", false), ("Old", false), ("Settled", false)], [("ValueError", true)]), ("NoFees", [("NoCoins", false), ("NoFees", true), ("NoHand", false), ("NoLane", false), ("NoName", false), ("NoNumber", false), ("NoPaper", false), ("NoSecret", false), ("NoState", false), ("NotSigned", false), ("Old", false), ("Settled", false)], [("ValueError", true)])]
  heaps := [(48, 17), (53, 11)]
  fuel := 70
abbrev tb (call : FKey → List U → MH → Out U) : Tab := ld.sta.tab call
/-! ### each def stands and binds as it should -/
theorem ok_is_count : d_is_count.Ok := ⟨⟨rfl, rfl, rfl, by decide +kernel, rfl, by decide +kernel, by decide +kernel⟩, fun _ _ _ _ _ _ _ us hl => match us, hl with | [_], _ => rfl⟩
theorem ok_is_fee : d_is_fee.Ok := ⟨⟨rfl, rfl, rfl, by decide +kernel, rfl, by decide +kernel, by decide +kernel⟩, fun _ _ _ _ _ _ _ us hl => match us, hl with | [_], _ => rfl⟩
theorem ok_taken_by : d_taken_by.Ok := ⟨⟨rfl, rfl, rfl, by decide +kernel, rfl, by decide +kernel, by decide +kernel⟩, fun _ _ _ _ _ _ _ us hl => match us, hl with | [_, _], _ => rfl⟩
theorem ok_fee_for : d_fee_for.Ok := ⟨⟨rfl, rfl, rfl, by decide +kernel, rfl, by decide +kernel, by decide +kernel⟩, fun _ _ _ _ _ _ _ us hl => match us, hl with | [_, _], _ => rfl⟩
theorem ok_law_well : d_law_well.Ok := ⟨⟨rfl, rfl, rfl, by decide +kernel, rfl, by decide +kernel, by decide +kernel⟩, fun _ _ _ _ _ _ _ us hl => match us, hl with | [_], _ => rfl⟩
theorem ok_law_take : d_law_take.Ok := ⟨⟨rfl, rfl, rfl, by decide +kernel, rfl, by decide +kernel, by decide +kernel⟩, fun _ _ _ _ _ _ _ us hl => match us, hl with | [_, _], _ => rfl⟩
theorem ok_law_odd : d_law_odd.Ok := ⟨⟨rfl, rfl, rfl, by decide +kernel, rfl, by decide +kernel, by decide +kernel⟩, fun _ _ _ _ _ _ _ us hl => match us, hl with | [_, _], _ => rfl⟩
theorem ok_law_count : d_law_count.Ok := ⟨⟨rfl, rfl, rfl, by decide +kernel, rfl, by decide +kernel, by decide +kernel⟩, fun _ _ _ _ _ _ _ us hl => match us, hl with | [_], _ => rfl⟩
theorem ok_law_is_toll : d_law_is_toll.Ok := ⟨⟨rfl, rfl, rfl, by decide +kernel, rfl, by decide +kernel, by decide +kernel⟩, fun _ _ _ _ _ _ _ us hl => match us, hl with | [_], _ => rfl⟩
theorem ok_law_asked : d_law_asked.Ok := ⟨⟨rfl, rfl, rfl, by decide +kernel, rfl, by decide +kernel, by decide +kernel⟩, fun _ _ _ _ _ _ _ us hl => match us, hl with | [_, _], _ => rfl⟩
theorem ok_law_right : d_law_right.Ok := ⟨⟨rfl, rfl, rfl, by decide +kernel, rfl, by decide +kernel, by decide +kernel⟩, fun _ _ _ _ _ _ _ us hl => match us, hl with | [_], _ => rfl⟩
theorem ok_law : d_law.Ok := ⟨⟨rfl, rfl, rfl, by decide +kernel, rfl, by decide +kernel, by decide +kernel⟩, fun _ _ _ _ _ _ _ us hl => match us, hl with | [_], _ => rfl⟩
theorem ok_all : ∀ e ∈ ld.es, e.Ok := by
  intro e he
  have h : e ∈ [d_is_count, d_is_fee, d_taken_by, d_fee_for, d_law_well, d_law_take, d_law_odd, d_law_count, d_law_is_toll, d_law_asked, d_law_right, d_law] := he
  simp only [List.mem_cons, List.not_mem_nil, or_false] at h
  rcases h with rfl | rfl | rfl | rfl | rfl | rfl | rfl | rfl | rfl | rfl | rfl | rfl
  · exact ok_is_count
  · exact ok_is_fee
  · exact ok_taken_by
  · exact ok_fee_for
  · exact ok_law_well
  · exact ok_law_take
  · exact ok_law_odd
  · exact ok_law_count
  · exact ok_law_is_toll
  · exact ok_law_asked
  · exact ok_law_right
  · exact ok_law
/-! ### what each def does -/
def c_is_count (T : Tab) (call : FKey → List U → MH → Out U) : S1 := (sSeq (sRet (cAndV (cFn (biIsa T) (cCons (cVar 0) (cCons (cK (.ty "int")) cNil))) (cAndV (cNotV (cFn (biIsa T) (cCons (cVar 0) (cCons (cK (.ty "bool")) cNil)))) (cBin (cmpI geI) (cVar 0) (cK (.int 0)))))) sNx)
theorem e_is_count (call : FKey → List U → MH → Out U) : bodyU (tb call) d_is_count = c_is_count (tb call) call := by kernel_rfl
def c_is_fee (T : Tab) (call : FKey → List U → MH → Out U) : S1 := (sSeq (sIf (cOr (cNot (cTruth (cFn (biIsa T) (cCons (cVar 0) (cCons (cK (.ty "tuple")) cNil))))) (cIsBl (cBin neU (cFn biLen (cCons (cVar 0) cNil)) (cK (.int 2))))) (sSeq (sRet (cK (.bl false))) sNx) sNx) (sSeq (sRet (cAndV (cCallK 1 0 (fun as _ m => call ("is_count", none) as m) (cCons (cBin idxU (cVar 0) (cK (.int 0))) cNil) cNil) (cAndV (cCallK 1 0 (fun as _ m => call ("is_count", none) as m) (cCons (cBin idxU (cVar 0) (cK (.int 1))) cNil) cNil) (cBin (cmpI leI) (cBin idxU (cVar 0) (cK (.int 1))) (cK (.int 1000)))))) sNx))
theorem e_is_fee (call : FKey → List U → MH → Out U) : bodyU (tb call) d_is_fee = c_is_fee (tb call) call := by kernel_rfl
def c_taken_by (T : Tab) (call : FKey → List U → MH → Out U) : S1 := (sSeq (sAsg (cVar 0) (gTup [(gName 2), (gName 3)])) (sSeq (sRet (cBin addU (cVar 2) (cBin fdivU (cBin mulU (cVar 1) (cVar 3)) (cK (.int 1000))))) sNx))
theorem e_taken_by (call : FKey → List U → MH → Out U) : bodyU (tb call) d_taken_by = c_taken_by (tb call) call := by kernel_rfl
def c_fee_for (T : Tab) (call : FKey → List U → MH → Out U) : S1 := (sSeq (sIf (cNot (cTruth (cCallK 1 0 (fun as _ m => call ("is_fee", none) as m) (cCons (cVar 0) cNil) cNil))) (sSeq (sRaise "NoFees") sNx) sNx) (sSeq (sIf (cNot (cTruth (cCallK 1 0 (fun as _ m => call ("is_count", none) as m) (cCons (cVar 1) cNil) cNil))) (sSeq (sRaise "NoCoins") sNx) sNx) (sSeq (sRet (cCallK 2 0 (fun as _ m => call ("taken_by", none) as m) (cCons (cVar 0) (cCons (cVar 1) cNil)) cNil)) sNx)))
theorem e_fee_for (call : FKey → List U → MH → Out U) : bodyU (tb call) d_fee_for = c_fee_for (tb call) call := by kernel_rfl
theorem e_law_well (call : FKey → List U → MH → Out U) : bodyU (tb call) d_law_well = P_law_well (tb call) call := by kernel_rfl
theorem e_law_take (call : FKey → List U → MH → Out U) : bodyU (tb call) d_law_take = P_law_take (tb call) call := by kernel_rfl
def c_law_odd (T : Tab) (call : FKey → List U → MH → Out U) : S1 := (sSeq (sAsg (cFn mkFl (cCons (cK .non) (cCons (cK (.bl true)) (cCons (cK (.bl false)) (cCons (cUn negU (cK (.int 1))) (cCons (cK (.str "")) (cCons (cK (.str "5")) (cCons (cFn mkTup cNil) (cCons (cFn mkFl cNil) (cCons cDic0 (cCons (cFn mkTup (cCons (cVar 1) cNil)) (cCons (cFn mkFl (cCons (cVar 1) (cCons (cVar 1) cNil))) (cCons (cFn mkTup (cCons (cVar 1) (cCons (cVar 1) (cCons (cVar 1) cNil)))) (cCons (cK (.int 1001)) (cCons (cK (.str "me")) cNil))))))))))))))) (gName 2)) (sSeq (sRet (cBin idxU (cVar 2) (cCallK 2 0 (fun as _ m => call ("_law_take", none) as m) (cCons (cVar 0) (cCons (cK (.int 14)) cNil)) cNil))) sNx))
theorem e_law_odd (call : FKey → List U → MH → Out U) : bodyU (tb call) d_law_odd = c_law_odd (tb call) call := by kernel_rfl
def c_law_count (T : Tab) (call : FKey → List U → MH → Out U) : S1 := (sSeq (sRet (cAndV (cFn (biIsa T) (cCons (cVar 0) (cCons (cK (.ty "int")) cNil))) (cAndV (cNotV (cFn (biIsa T) (cCons (cVar 0) (cCons (cK (.ty "bool")) cNil)))) (cBin (cmpI geI) (cVar 0) (cK (.int 0)))))) sNx)
theorem e_law_count (call : FKey → List U → MH → Out U) : bodyU (tb call) d_law_count = c_law_count (tb call) call := by kernel_rfl
def c_law_is_toll (T : Tab) (call : FKey → List U → MH → Out U) : S1 := (sSeq (sIf (cOr (cNot (cTruth (cFn (biIsa T) (cCons (cVar 0) (cCons (cK (.ty "tuple")) cNil))))) (cIsBl (cBin neU (cFn biLen (cCons (cVar 0) cNil)) (cK (.int 2))))) (sSeq (sRet (cK (.bl false))) sNx) sNx) (sSeq (sRet (cAndV (cCallK 1 0 (fun as _ m => call ("_law_count", none) as m) (cCons (cBin idxU (cVar 0) (cK (.int 0))) cNil) cNil) (cAndV (cCallK 1 0 (fun as _ m => call ("_law_count", none) as m) (cCons (cBin idxU (cVar 0) (cK (.int 1))) cNil) cNil) (cBin (cmpI ltI) (cBin idxU (cVar 0) (cK (.int 1))) (cK (.int 1001)))))) sNx))
theorem e_law_is_toll (call : FKey → List U → MH → Out U) : bodyU (tb call) d_law_is_toll = c_law_is_toll (tb call) call := by kernel_rfl
def c_law_asked (T : Tab) (call : FKey → List U → MH → Out U) : S1 := (sSeq (sAsg (cK .non) (gName 2)) (sSeq (sAsg (cK .non) (gName 3)) (sSeq (sTry T (sSeq (sAsg (cCallK 2 0 (fun as _ m => call ("fee_for", none) as m) (cCons (cVar 0) (cCons (cVar 1) cNil)) cNil) (gName 2)) sNx) [⟨"CoinError", (some 4), (sSeq (sAsg (cVar 4) (gName 3)) sNx)⟩]) (sSeq (sIf (cIsBl (cBin isU (cVar 3) (cK .non))) (sSeq (sRet (cFn mkTup (cCons (cK (.str "")) (cCons (cVar 2) cNil)))) sNx) sNx) (sSeq (sAsg (cFn mkFl (cCons (cFn (biIsa T) (cCons (cVar 3) (cCons (cK (.glo "NoFees")) cNil))) (cCons (cFn (biIsa T) (cCons (cVar 3) (cCons (cK (.glo "NoCoins")) cNil))) cNil))) (gName 5)) (sSeq (sAsg (cFn (biIsa T) (cCons (cVar 3) (cCons (cFn mkTup (cCons (cK (.glo "NoHand")) (cCons (cK (.glo "NoLane")) (cCons (cK (.glo "NoName")) (cCons (cK (.glo "NoNumber")) (cCons (cK (.glo "NoPaper")) (cCons (cK (.glo "NoSecret")) (cCons (cK (.glo "NoState")) (cCons (cK (.glo "NotSigned")) (cCons (cK (.glo "Old")) (cCons (cK (.glo "Settled")) cNil))))))))))) cNil))) (gName 6)) (sSeq (sIf (cOr (cTruth (cVar 6)) (cOr (cIsBl (cBin neU (cMeth T "count" 1 [] (cVar 5) (cCons (cK (.bl true)) cNil) cNil) (cK (.int 1)))) (cNot (cTruth (cFn (biIsa T) (cCons (cVar 3) (cCons (cK (.ty "ValueError")) cNil))))))) (sSeq (sRet (cFn mkTup (cCons (cK (.str "odd")) (cCons (cK .non) cNil)))) sNx) sNx) (sSeq (sRet (cFn mkTup (cCons (cBin idxU (cFn mkFl (cCons (cK (.str "NoFees")) (cCons (cK (.str "NoCoins")) cNil))) (cMeth T "index" 1 [] (cVar 5) (cCons (cK (.bl true)) cNil) cNil)) (cCons (cVar 2) cNil)))) sNx))))))))
theorem e_law_asked (call : FKey → List U → MH → Out U) : bodyU (tb call) d_law_asked = c_law_asked (tb call) call := by kernel_rfl
def c_law_right (T : Tab) (call : FKey → List U → MH → Out U) : S1 := (sSeq (sAsg (cCallK 2 0 (fun as _ m => call ("_law_take", none) as m) (cCons (cVar 0) (cCons (cBin idxU (cFn mkFl (cCons (cK (.int 2)) (cCons (cK (.int 100)) (cCons (cBin powU (cK (.int 10)) (cK (.int 14))) cNil)))) (cCallK 2 0 (fun as _ m => call ("_law_take", none) as m) (cCons (cVar 0) (cCons (cK (.int 3)) cNil)) cNil)) cNil)) cNil) (gName 1)) (sSeq (sAsg (cBin idxU (cFn mkFl (cCons (cK (.int 0)) (cCons (cK (.int 1)) (cCons (cK (.int 10)) (cCons (cK (.int 999)) (cCons (cK (.int 1000)) (cCons (cCallK 2 0 (fun as _ m => call ("_law_take", none) as m) (cCons (cVar 0) (cCons (cK (.int 1001)) cNil)) cNil) cNil))))))) (cCallK 2 0 (fun as _ m => call ("_law_take", none) as m) (cCons (cVar 0) (cCons (cK (.int 6)) cNil)) cNil)) (gName 2)) (sSeq (sAsg (cFn mkTup (cCons (cVar 1) (cCons (cVar 2) cNil))) (gName 3)) (sSeq (sAsg (cCallK 2 0 (fun as _ m => call ("_law_take", none) as m) (cCons (cVar 0) (cCons (cBin idxU (cFn mkFl (cCons (cK (.int 2)) (cCons (cK (.int 1100)) (cCons (cBin powU (cK (.int 10)) (cK (.int 14))) cNil)))) (cCallK 2 0 (fun as _ m => call ("_law_take", none) as m) (cCons (cVar 0) (cCons (cK (.int 3)) cNil)) cNil)) cNil)) cNil) (gName 4)) (sSeq (sAsg (cCallK 2 0 (fun as _ m => call ("_law_take", none) as m) (cCons (cVar 0) (cCons (cK (.int 6)) cNil)) cNil) (gName 5)) (sSeq (sIf (cIsBl (cBin eqU (cVar 5) (cK (.int 0)))) (sSeq (sAsg (cCallK 2 0 (fun as _ m => call ("_law_odd", none) as m) (cCons (cVar 0) (cCons (cVar 1) cNil)) cNil) (gName 3)) sNx) (sSeq (sIf (cIsBl (cBin eqU (cVar 5) (cK (.int 1)))) (sSeq (sAsg (cBin idxU (cFn mkFl (cCons (cFn mkTup (cCons (cCallK 2 0 (fun as _ m => call ("_law_odd", none) as m) (cCons (cVar 0) (cCons (cK (.int 1)) cNil)) cNil) (cCons (cVar 2) cNil))) (cCons (cFn mkTup (cCons (cVar 1) (cCons (cCallK 2 0 (fun as _ m => call ("_law_odd", none) as m) (cCons (cVar 0) (cCons (cK (.int 1)) cNil)) cNil) cNil))) cNil))) (cCallK 2 0 (fun as _ m => call ("_law_take", none) as m) (cCons (cVar 0) (cCons (cK (.int 2)) cNil)) cNil)) (gName 3)) sNx) sNx) sNx)) (sSeq (sIf (cIsBl (cBin eqU (cCallK 2 0 (fun as _ m => call ("_law_take", none) as m) (cCons (cVar 0) (cCons (cK (.int 6)) cNil)) cNil) (cK (.int 0)))) (sSeq (sAsg (cCallK 2 0 (fun as _ m => call ("_law_odd", none) as m) (cCons (cVar 0) (cCons (cK (.int 1)) cNil)) cNil) (gName 4)) sNx) sNx) (sSeq (sAsg (cFn mkTup (cCons (cK (.str "NoFees")) (cCons (cK .non) cNil))) (gName 6)) (sSeq (sIf (cTruth (cCallK 1 0 (fun as _ m => call ("_law_is_toll", none) as m) (cCons (cVar 3) cNil) cNil)) (sSeq (sAsg (cFn mkTup (cCons (cK (.str "NoCoins")) (cCons (cK .non) cNil))) (gName 6)) (sSeq (sIf (cTruth (cCallK 1 0 (fun as _ m => call ("_law_count", none) as m) (cCons (cVar 4) cNil) cNil)) (sSeq (sAsg (cFn mkTup (cCons (cK (.str "")) (cCons (cBin addU (cBin idxU (cVar 3) (cK (.int 0))) (cBin fdivU (cBin mulU (cVar 4) (cBin idxU (cVar 3) (cK (.int 1)))) (cK (.int 1000)))) cNil))) (gName 6)) sNx) sNx) sNx)) sNx) (sSeq (sAsg (cCallK 2 0 (fun as _ m => call ("_law_asked", none) as m) (cCons (cVar 3) (cCons (cVar 4) cNil)) cNil) (gName 7)) (sSeq (sRet (cAndV (cBin eqU (cVar 7) (cVar 6)) (cNotV (cFn (biIsa T) (cCons (cBin idxU (cVar 7) (cK (.int 1))) (cCons (cK (.ty "bool")) cNil)))))) sNx)))))))))))
theorem e_law_right (call : FKey → List U → MH → Out U) : bodyU (tb call) d_law_right = c_law_right (tb call) call := by kernel_rfl
def c_law (T : Tab) (call : FKey → List U → MH → Out U) : S1 := (sSeq (sAsg (cCallK 1 0 (fun as _ m => call ("_law_well", none) as m) (cCons (cVar 0) cNil) cNil) (gName 1)) (sSeq (sFor (cRng1 (cCons (cBin addU (cK (.int 10)) (cFn biMin (cCons (cK (.int 60)) (cCons (cFn biLen (cCons (cVar 0) cNil)) cNil)))) cNil)) (gName 2) (sSeq (sIf (cNot (cTruth (cCallK 1 0 (fun as _ m => call ("_law_right", none) as m) (cCons (cVar 1) cNil) cNil))) (sSeq (sRet (cK (.bl false))) sNx) sNx) sNx)) (sSeq (sRet (cK (.bl true))) sNx)))
theorem e_law (call : FKey → List U → MH → Out U) : bodyU (tb call) d_law = c_law (tb call) call := by kernel_rfl
end K31
/-! k31: what each def tells. -/
namespace K31
open PySem PySem.Spec PyProof.Rows L2 Mi
set_option linter.unusedVariables false
set_option linter.unusedSimpArgs false
set_option maxRecDepth 10000
set_option exponentiation.threshold 2000
abbrev cl (n : Nat) : CallT := callN ld.sta n
section
variable {call : CallT} {T : Tab} {m : MH} {b g N : Nat} {Q : U → MH → Prop}
def leB (k : Int) : U → Bool
  | .int i => decide (i ≤ k)
  | _ => false
def feeB : U → Bool
  | .tup [a, b] => geB 0 a && (geB 0 b && leB 1000 b)
  | _ => false
def CountK1 (call : CallT) : Prop := ∀ m u, rdU u = true → call ("is_count", none) [u] m = .ok (.bl (geB 0 u)) m
def LCountK (call : CallT) : Prop := ∀ m u, rdU u = true → call ("_law_count", none) [u] m = .ok (.bl (geB 0 u)) m
def FeeK (call : CallT) : Prop := ∀ m u, rdU u = true → call ("is_fee", none) [u] m = .ok (.bl (feeB u)) m
def TollK (call : CallT) : Prop := ∀ m u, rdU u = true → call ("_law_is_toll", none) [u] m = .ok (.bl (feeB u)) m
theorem cnt_eq {u : U} (h : rdU u = true) : c_is_count T call [some u] m = .rt (.bl (geB 0 u)) m := by
  cases u <;> first | rfl | exact nomatch (show false = true from h)
theorem lcnt_eq {u : U} (h : rdU u = true) : c_law_count T call [some u] m = .rt (.bl (geB 0 u)) m := by
  cases u <;> first | rfl | exact nomatch (show false = true from h)
theorem feeB_len {us : List U} (h : us.length ≠ 2) : feeB (.tup us) = false := by
  match us, h with
  | [], _ => rfl
  | [_], _ => rfl
  | [_, _], h => exact absurd rfl h
  | _ :: _ :: _ :: _, _ => rfl
theorem rd2 {a c : U} (h : rdUs [a, c] = true) : rdU a = true ∧ rdU c = true := by
  have h' : (rdU a && (rdU c && true)) = true := h
  simp only [Bool.and_eq_true, and_true] at h'
  exact h'
theorem fee_eq (hC : CountK1 call) {u : U} (h : rdU u = true) : c_is_fee T call [some u] m = .rt (.bl (feeB u)) m := by
  refine rt_of ?_
  unfold c_is_fee
  simp only [ok_sSeq, ok_sIf, ok_cOr, ok_cNot, ok_cTruth, ok_cFn, ok_cCons, ok_cVar0, ok_cNil, ok_cK, ok_isaTup h, okT_bl, ok_cIsBl, ok_cBin, ok_sRet, ok_sNx]
  cases u with
  | tup us =>
    refine ⟨fun z => (nomatch z), fun _ => ?_⟩
    simp only [ok_lenT, ok_neI, ok_blOf]
    by_cases hl : us.length = 2
    · obtain ⟨a, c, rfl⟩ := len2 hl
      obtain ⟨ha, hc⟩ := rd2 (show rdUs [a, c] = true from h)
      refine ⟨fun z => (nomatch z), fun _ => ?_⟩
      have i0 : ∀ {Q : U → MH → Prop}, okP (idxU (.tup [a, c]) (.int 0) m) Q ↔ Q a m := ok_idxT rfl
      have i1 : ∀ {Q : U → MH → Prop}, okP (idxU (.tup [a, c]) (.int 1) m) Q ↔ Q c m := ok_idxT rfl
      simp only [ok_cAndV, ok_cCallK, ok_cCons, ok_cNil, ok_cBin, ok_cVar0, ok_cK, i0, i1, hC m a ha, hC m c hc, okO_ok, okT_bl]
      have ef : feeB (.tup [a, c]) = (geB 0 a && (geB 0 c && leB 1000 c)) := rfl
      rw [ef]
      cases geB 0 a with
      | false => simp
      | true =>
        cases hc2 : geB 0 c with
        | false => simp
        | true =>
          obtain ⟨i, rfl, hi⟩ := ge_int hc2
          simp [leB, leI]
    · rw [feeB_len hl]
      have : ¬ ((us.length : Int) = 2) := by omega
      simp [this]
  | _ => simp [isTup, feeB]
theorem toll_eq (hC : LCountK call) {u : U} (h : rdU u = true) : c_law_is_toll T call [some u] m = .rt (.bl (feeB u)) m := by
  refine rt_of ?_
  unfold c_law_is_toll
  simp only [ok_sSeq, ok_sIf, ok_cOr, ok_cNot, ok_cTruth, ok_cFn, ok_cCons, ok_cVar0, ok_cNil, ok_cK, ok_isaTup h, okT_bl, ok_cIsBl, ok_cBin, ok_sRet, ok_sNx]
  cases u with
  | tup us =>
    refine ⟨fun z => (nomatch z), fun _ => ?_⟩
    simp only [ok_lenT, ok_neI, ok_blOf]
    by_cases hl : us.length = 2
    · obtain ⟨a, c, rfl⟩ := len2 hl
      obtain ⟨ha, hc⟩ := rd2 (show rdUs [a, c] = true from h)
      refine ⟨fun z => (nomatch z), fun _ => ?_⟩
      have i0 : ∀ {Q : U → MH → Prop}, okP (idxU (.tup [a, c]) (.int 0) m) Q ↔ Q a m := ok_idxT rfl
      have i1 : ∀ {Q : U → MH → Prop}, okP (idxU (.tup [a, c]) (.int 1) m) Q ↔ Q c m := ok_idxT rfl
      simp only [ok_cAndV, ok_cCallK, ok_cCons, ok_cNil, ok_cBin, ok_cVar0, ok_cK, i0, i1, hC m a ha, hC m c hc, okO_ok, okT_bl]
      have ef : feeB (.tup [a, c]) = (geB 0 a && (geB 0 c && leB 1000 c)) := rfl
      rw [ef]
      cases geB 0 a with
      | false => simp
      | true =>
        cases hc2 : geB 0 c with
        | false => simp
        | true =>
          obtain ⟨i, rfl, hi⟩ := ge_int hc2
          have e : decide (i < 1001) = decide (i ≤ 1000) := by rw [Bool.eq_iff_iff]; simp; omega
          simp [leB, ltI, e]
    · rw [feeB_len hl]
      have : ¬ ((us.length : Int) = 2) := by omega
      simp [this]
  | _ => simp [isTup, feeB]
theorem fee_all {u : U} (h : feeB u = true) : ∃ a c : Int, u = .tup [.int a, .int c] ∧ 0 ≤ a ∧ 0 ≤ c ∧ c ≤ 1000 := by
  cases u with
  | tup us =>
    by_cases hl : us.length = 2
    · obtain ⟨a, c, rfl⟩ := len2 hl
      have h' : (geB 0 a && (geB 0 c && leB 1000 c)) = true := h
      simp only [Bool.and_eq_true] at h'
      obtain ⟨a, rfl, ha⟩ := ge_int h'.1
      obtain ⟨c, rfl, hc⟩ := ge_int h'.2.1
      exact ⟨a, c, rfl, ha, hc, of_decide_eq_true h'.2.2⟩
    · rw [feeB_len hl] at h; cases h
  | _ => exact nomatch (show false = true from h)
theorem mul_fee {k c : Int} (h0 : 0 ≤ c) (h1 : c ≤ 1000) : mulOk k c = true := by
  unfold mulOk
  rw [Bool.or_eq_true, Bool.or_eq_true, decide_eq_true_eq, decide_eq_true_eq]
  exact .inl (.inr (by omega))
def TakenK (call : CallT) : Prop := ∀ m (a c k : Int), 0 ≤ c → c ≤ 1000 → call ("taken_by", none) [.tup [.int a, .int c], .int k] m = .ok (.int (a + k * c / 1000)) m
theorem taken_end {a c k : Int} (h0 : 0 ≤ c) (h1 : c ≤ 1000) : endO (c_taken_by T call [some (.tup [.int a, .int c]), some (.int k), none, none] m) = .ok (.int (a + k * c / 1000)) m := by
  refine end_ok ?_
  unfold c_taken_by
  have dk : divOk 1000 = true := rfl
  simp only [ok_sSeq, ok_sAsg, ok_cVar0, ok_gTup, ok_gAllS, ok_gAll0, ok_gName, List.set_cons_succ, List.set_cons_zero, ok_sRet, ok_cBin, ok_cVarS, ok_cK, ok_mul (mul_fee (k := k) h0 h1), ok_div dk, ok_add]
  exact ⟨rfl, by first | rfl | trivial⟩
/-- what fee_for does -/
def ffR (m : MH) (u w : U) : Out U := if feeB u = true then (if geB 0 w = true then (match u, w with
  | .tup [.int a, .int c], .int k => .ok (.int (a + k * c / 1000)) m
  | _, _ => .bad) else .err ⟨"NoCoins", []⟩ m) else .err ⟨"NoFees", []⟩ m
def ForK (call : CallT) : Prop := ∀ m u w, rdU u = true → rdU w = true → call ("fee_for", none) [u, w] m = ffR m u w
theorem for_end (hF : FeeK call) (hC : CountK1 call) (hT : TakenK call) {u w : U} (hu : rdU u = true) (hw : rdU w = true) : endO (c_fee_for T call [some u, some w] m) = ffR m u w := by
  refine rt_end ?_
  unfold c_fee_for ffR
  cases e : feeB u with
  | false =>
    refine rt_take ?_
    simp only [ok_cNot, ok_cTruth, ok_cCallK, ok_cCons, ok_cVar0, ok_cNil, hF m u hu, okO_ok, okT_bl, e]
    exact ⟨rfl, rfl, rfl, rt_seq1 rt_raise⟩
  | true =>
    refine rt_skip ?_
    simp only [ok_cNot, ok_cTruth, ok_cCallK, ok_cCons, ok_cVar0, ok_cNil, hF m u hu, okO_ok, okT_bl, e]
    refine ⟨rfl, rfl, rfl, ?_⟩
    rw [if_pos trivial]
    cases e2 : geB 0 w with
    | false =>
      refine rt_take ?_
      simp only [ok_cNot, ok_cTruth, ok_cCallK, ok_cCons, ok_cVar0, ok_cVarS, ok_cNil, hC m w hw, okO_ok, okT_bl, e2]
      exact ⟨rfl, rfl, rfl, rt_seq1 rt_raise⟩
    | true =>
      refine rt_skip ?_
      simp only [ok_cNot, ok_cTruth, ok_cCallK, ok_cCons, ok_cVar0, ok_cVarS, ok_cNil, hC m w hw, okO_ok, okT_bl, e2]
      refine ⟨rfl, rfl, rfl, ?_⟩
      obtain ⟨a, c, rfl, a0, c0, c1⟩ := fee_all e
      obtain ⟨k, rfl, k0⟩ := ge_int e2
      rw [if_pos trivial]
      refine rt_seq1 (rt_ret (call_is ?_))
      simp only [ok_cCons, ok_cVar0, ok_cVarS, ok_cNil]
      exact ⟨rfl, hT m a c k c0 c1⟩
end
theorem takeC (n : Nat) : TakeC (cl (n + 1)) := fun m b g N k h hN h0 h1 => okcall_of (f := d_law_take) (by kernel_rfl) (e_law_take _) rfl (okS_mono (take_ok (T := tb (cl n)) (call := cl n) h hN h0 h1) (fun _ _ h => False.elim h) fun _ _ h => h)
theorem wellC (n : Nat) : WellC (cl (n + 1)) := fun ns hl m => okcall_of (f := d_law_well) (by kernel_rfl) (e_law_well _) rfl (okS_mono (well_ok (T := tb (cl n)) (call := cl n) (m := m) hl) (fun _ _ h => False.elim h) fun _ _ h => h)
theorem countK (n : Nat) : CountK1 (cl (n + 1)) := fun m u h => call_of (f := d_is_count) (by kernel_rfl) (e_is_count _) rfl (cnt_eq h)
theorem lcountK (n : Nat) : LCountK (cl (n + 1)) := fun m u h => call_of (f := d_law_count) (by kernel_rfl) (e_law_count _) rfl (lcnt_eq h)
theorem feeK (n : Nat) : FeeK (cl (n + 2)) := fun m u h => call_of (f := d_is_fee) (by kernel_rfl) (e_is_fee _) rfl (fee_eq (countK n) h)
theorem tollK (n : Nat) : TollK (cl (n + 2)) := fun m u h => call_of (f := d_law_is_toll) (by kernel_rfl) (e_law_is_toll _) rfl (toll_eq (lcountK n) h)
theorem takenK (n : Nat) : TakenK (cl (n + 1)) := fun m a c k h0 h1 => callEnd (f := d_taken_by) (by kernel_rfl) (e_taken_by _) rfl (taken_end h0 h1)
theorem forK (n : Nat) : ForK (cl (n + 3)) := fun m u w hu hw => callEnd (f := d_fee_for) (by kernel_rfl) (e_fee_for _) rfl (for_end (feeK n) (countK (n + 1)) (takenK (n + 1)) hu hw)
end K31
/-! k31: what is odd; what is asked. -/
namespace K31
open PySem PySem.Spec PyProof.Rows L2 Mi
set_option linter.unusedVariables false
set_option linter.unusedSimpArgs false
set_option maxRecDepth 10000
set_option exponentiation.threshold 2000
section
variable {call : CallT} {T : Tab} {m : MH} {b g N : Nat} {Q : U → MH → Prop}
def OddK (call : CallT) : Prop := ∀ (m : MH) (b g N : Nat) (k : Int), Well m b g N → N + 1 < 10 ^ 9 → okO (call ("_law_odd", none) [.ref b, .int k] m) fun v m' => rdU v = true ∧ Well m' b g (N + 1) ∧ Fr b g m m'
theorem odd_ok31 (hd : TakeC call) {k : Int} (h : Well m b g N) (hN : N + 1 < 10 ^ 9) : okS (c_law_odd T call [some (.ref b), some (.int k), none] m) (fun _ _ => False) fun v m' => rdU v = true ∧ Well m' b g (N + 1) ∧ Fr b g m m' := by
  unfold c_law_odd
  rw [ok_sSeq]
  simp only [ok_sAsg, ok_cFn, ok_cCons, ok_cNil, ok_cK, ok_cVarS, ok_cVar0, ok_cUn, ok_neg, ok_cDic0, ok_mkTup (us := []) rfl, ok_mkFl (us := []) rfl, ok_mkTup (us := [U.int k]) rfl, ok_mkFl (us := [U.int k, U.int k]) rfl, ok_mkTup (us := [U.int k, U.int k, U.int k]) rfl]
  rw [ok_mkFl rfl]
  simp only [ok_gName, List.set_cons_succ, List.set_cons_zero, ok_sSeq, ok_sRet, ok_cBin, ok_cVarS, ok_cVar0, ok_cCallK, ok_cCons, ok_cK, ok_cNil]
  refine ⟨rfl, rfl, okO_mono (hd m b g N 14 h (by omega) (by decide) (by decide)) ?_⟩
  rintro v m1 ⟨i, rfl, i0, i1, h1, f1⟩
  refine ok_ixAny i0 (by simpa using i1) fun u hu => ⟨?_, h1, f1⟩
  simp only [List.mem_cons, List.not_mem_nil, or_false] at hu
  rcases hu with rfl | rfl | rfl | rfl | rfl | rfl | rfl | rfl | rfl | rfl | rfl | rfl | rfl | rfl <;> kernel_rfl
theorem ok_unSlot {oi : Nat} {o : SO} {N : Env1 → MH → Prop} {R : U → MH → Prop} (h : okS o (fun t m => N (t.set oi none) m) R) : okS (unSlot (some oi) o) N R := by
  cases o <;> exact h
theorem ok_isa1g {u : U} {x : Str} {b : Bool} (h : isa1 T u (.glo x) m = some b) : okP (biIsa T [u, .glo x] m) Q ↔ Q (.bl b) m := by
  have e : biIsa T [u, .glo x] m = some (.bl b, m) := by
    show (isa1 T u (.glo x) m).map _ = _
    rw [h]
    rfl
  rw [e]
  exact Iff.rfl
theorem ok_isa1t {u : U} {x : String} {b : Bool} (h : isa1 T u (.ty x) m = some b) : okP (biIsa T [u, .ty x] m) Q ↔ Q (.bl b) m := by
  have e : biIsa T [u, .ty x] m = some (.bl b, m) := by
    show (isa1 T u (.ty x) m).map _ = _
    rw [h]
    rfl
  rw [e]
  exact Iff.rfl
theorem ok_some31 {u : U} {P : U → MH → Prop} : okP (some (u, m)) P ↔ P u m := Iff.rfl
def askV (u w : U) : U := if feeB u = true then (if geB 0 w = true then (match u, w with
  | .tup [.int a, .int c], .int k => .tup [.str "", .int (a + k * c / 1000)]
  | _, _ => .non) else .tup [.str "NoCoins", .non]) else .tup [.str "NoFees", .non]
def AskK (call : CallT) : Prop := ∀ m u w, rdU u = true → rdU w = true → call ("_law_asked", none) [u, w] m = .ok (askV u w) m
theorem asked_err (u w : U) (x : Str) (j : Nat) (hj : (x = "NoFees" ∧ j = 0) ∨ (x = "NoCoins" ∧ j = 1)) (h : call ("fee_for", none) [u, w] m = .err ⟨x, []⟩ m) :
    okS (c_law_asked (tb call) call [some u, some w, none, none, none, none, none] m) (fun _ _ => False) fun v m' => v = .tup [.str x, .non] ∧ m' = m := by
  unfold c_law_asked
  rw [ok_sSeq]
  simp only [ok_sAsg, ok_cK, ok_gName, List.set_cons_succ, List.set_cons_zero]
  rw [ok_sSeq]
  simp only [ok_sAsg, ok_cK, ok_gName, List.set_cons_succ, List.set_cons_zero]
  rw [ok_sSeq]
  have eb : (sSeq (sAsg (cCallK 2 0 (fun as _ m => call ("fee_for", none) as m) (cCons (cVar 0) (cCons (cVar 1) cNil)) cNil) (gName 2)) sNx) [some u, some w, some .non, some .non, none, none, none] m = .err ⟨x, []⟩ [some u, some w, some .non, some .non, none, none, none] m := by
    have ec : cCallK 2 0 (fun as _ m => call ("fee_for", none) as m) (cCons (cVar 0) (cCons (cVar 1) cNil)) cNil [some u, some w, some .non, some .non, none, none, none] m = .err ⟨x, []⟩ m := call_is (by
      simp only [ok_cCons, ok_cVarS, ok_cVar0, ok_cNil]
      exact ⟨rfl, h⟩)
    unfold sSeq sAsg sE
    rw [ec]
  unfold sTry
  rw [eb]
  dsimp only
  unfold handle
  dsimp only
  have es : (tb call).sub x "CoinError" = some true := by rcases hj with ⟨rfl, rfl⟩ | ⟨rfl, rfl⟩ <;> kernel_rfl
  rw [es]
  dsimp only
  rw [if_pos (show ([] : List (Str × U)).isEmpty = true from rfl)]
  refine ok_unSlot ?_
  have i1 : isa1 (tb call) (.exn x) (.glo "NoFees") m = some (decide (j = 0)) := by rcases hj with ⟨rfl, rfl⟩ | ⟨rfl, rfl⟩ <;> kernel_rfl
  have i2 : isa1 (tb call) (.exn x) (.glo "NoCoins") m = some (decide (j = 1)) := by rcases hj with ⟨rfl, rfl⟩ | ⟨rfl, rfl⟩ <;> kernel_rfl
  have i3 : isaN (tb call) (.exn x) m [.glo "NoHand", .glo "NoLane", .glo "NoName", .glo "NoNumber", .glo "NoPaper", .glo "NoSecret", .glo "NoState", .glo "NotSigned", .glo "Old", .glo "Settled"] = some false := by rcases hj with ⟨rfl, rfl⟩ | ⟨rfl, rfl⟩ <;> kernel_rfl
  have i4 : isa1 (tb call) (.exn x) (.ty "ValueError") m = some true := by rcases hj with ⟨rfl, rfl⟩ | ⟨rfl, rfl⟩ <;> kernel_rfl
  have isn : okP (isU (.exn x) .non m) = okP (some (U.bl false, m)) := rfl
  have mc : meCount (.fl [.bl (decide (j = 0)), .bl (decide (j = 1))]) [.bl true] m = some (.int 1, m) := by rcases hj with ⟨rfl, rfl⟩ | ⟨rfl, rfl⟩ <;> kernel_rfl
  have mi : meIndex (.fl [.bl (decide (j = 0)), .bl (decide (j = 1))]) [.bl true] m = some (.int (j : Nat), m) := by rcases hj with ⟨rfl, rfl⟩ | ⟨rfl, rfl⟩ <;> kernel_rfl
  have ix : ∀ {Q : U → MH → Prop}, okP (idxU (.fl [.str "NoFees", .str "NoCoins"]) (.int (j : Nat)) m) Q ↔ Q (.str x) m := by rcases hj with ⟨rfl, rfl⟩ | ⟨rfl, rfl⟩ <;> exact ok_idxF rfl
  rw [ok_sSeq]
  simp only [ok_sAsg, ok_cVarS, ok_cVar0, ok_gName, List.set_cons_succ, List.set_cons_zero, ok_sNx]
  rw [ok_sSeq]
  simp only [ok_sIf, ok_cIsBl, ok_cBin, ok_cVarS, ok_cVar0, ok_cK, isn]
  refine ⟨fun z => (nomatch z), fun _ => ?_⟩
  simp only [ok_sNx]
  rw [ok_sSeq]
  simp only [ok_sAsg, ok_cFn, ok_cCons, ok_cNil, ok_cVarS, ok_cVar0, ok_cK, ok_isa1g i1, ok_isa1g i2]
  rw [ok_mkFl rfl]
  simp only [ok_gName, List.set_cons_succ, List.set_cons_zero]
  rw [ok_sSeq]
  simp only [ok_sAsg, ok_cFn, ok_cCons, ok_cNil, ok_cVarS, ok_cVar0, ok_cK]
  rw [ok_mkTup rfl, ok_isaN i3]
  simp only [ok_gName, List.set_cons_succ, List.set_cons_zero]
  rw [ok_sSeq]
  simp only [ok_sIf, ok_cOr, ok_cTruth, ok_cVarS, ok_cVar0, okT_bl, ok_cIsBl, ok_cBin, ok_cNot, ok_cFn, ok_cCons, ok_cNil, ok_cK, ok_isa1t i4]
  refine ⟨fun z => (nomatch z), fun _ => ?_⟩
  refine ok_meth (n := 1) (kind := "list") (phi := meCount) rfl ?_
  simp only [ok_cVarS, ok_cVar0, ok_cCons, ok_cK, ok_cNil]
  refine ⟨rfl, rfl, ?_⟩
  rw [mc, ok_some31]
  simp only [ok_neI, ok_blOf, decide_true, Bool.not_true, ok_isa1t i4, okT_bl]
  refine ⟨fun z => (nomatch z), fun _ => ⟨fun z => (nomatch z), fun _ => ?_⟩⟩
  simp only [ok_sNx]
  rw [ok_sSeq]
  simp only [ok_sRet, ok_cFn, ok_cCons, ok_cNil, ok_cBin, ok_cVarS, ok_cVar0, ok_cK]
  rw [ok_mkFl rfl]
  refine ok_meth (n := 1) (kind := "list") (phi := meIndex) rfl ?_
  simp only [ok_cVarS, ok_cVar0, ok_cCons, ok_cK, ok_cNil]
  refine ⟨rfl, rfl, ?_⟩
  rw [mi, ok_some31, ix, ok_mkTup rfl]
  exact ⟨rfl, rfl⟩
theorem asked_ok (u w : U) (k : Int) (h : call ("fee_for", none) [u, w] m = .ok (.int k) m) :
    okS (c_law_asked T call [some u, some w, none, none, none, none, none] m) (fun _ _ => False) fun v m' => v = .tup [.str "", .int k] ∧ m' = m := by
  unfold c_law_asked
  rw [ok_sSeq]
  simp only [ok_sAsg, ok_cK, ok_gName, List.set_cons_succ, List.set_cons_zero]
  rw [ok_sSeq]
  simp only [ok_sAsg, ok_cK, ok_gName, List.set_cons_succ, List.set_cons_zero]
  rw [ok_sSeq]
  have eb : (sSeq (sAsg (cCallK 2 0 (fun as _ m => call ("fee_for", none) as m) (cCons (cVar 0) (cCons (cVar 1) cNil)) cNil) (gName 2)) sNx) [some u, some w, some .non, some .non, none, none, none] m = .nx [some u, some w, some (.int k), some .non, none, none, none] m := by
    have ec : cCallK 2 0 (fun as _ m => call ("fee_for", none) as m) (cCons (cVar 0) (cCons (cVar 1) cNil)) cNil [some u, some w, some .non, some .non, none, none, none] m = .ok (.int k) m := call_is (by
      simp only [ok_cCons, ok_cVarS, ok_cVar0, ok_cNil]
      exact ⟨rfl, h⟩)
    unfold sSeq sAsg sE
    rw [ec]
    rfl
  unfold sTry
  rw [eb]
  refine okS_nx ?_
  have isn : okP (isU .non .non m) = okP (some (U.bl true, m)) := rfl
  rw [ok_sSeq]
  simp only [ok_sIf, ok_cIsBl, ok_cBin, ok_cVarS, ok_cVar0, ok_cK, isn, ok_sSeq, ok_sRet, ok_cFn, ok_cCons, ok_cNil]
  refine ⟨fun _ => ?_, fun z => (nomatch z)⟩
  rw [ok_mkTup rfl]
  exact ⟨rfl, rfl⟩
theorem asked_all (hF : ForK call) {u w : U} (hu : rdU u = true) (hw : rdU w = true) : okS (c_law_asked (tb call) call [some u, some w, none, none, none, none, none] m) (fun _ _ => False) fun v m' => v = askV u w ∧ m' = m := by
  have hf := hF m u w hu hw
  unfold ffR at hf
  unfold askV
  cases e : feeB u with
  | false =>
    rw [e] at hf
    rw [if_neg Bool.false_ne_true] at hf ⊢
    exact asked_err u w "NoFees" 0 (.inl ⟨rfl, rfl⟩) hf
  | true =>
    rw [e] at hf
    rw [if_pos rfl] at hf ⊢
    cases e2 : geB 0 w with
    | false =>
      rw [e2] at hf
      rw [if_neg Bool.false_ne_true] at hf ⊢
      exact asked_err u w "NoCoins" 1 (.inr ⟨rfl, rfl⟩) hf
    | true =>
      rw [e2] at hf
      rw [if_pos rfl] at hf ⊢
      obtain ⟨a, c, rfl, a0, c0, c1⟩ := fee_all e
      obtain ⟨k, rfl, k0⟩ := ge_int e2
      exact asked_ok _ _ _ hf
end
theorem oddK (n : Nat) : OddK (cl (n + 2)) := fun m b g N k h hN => okcall_of (f := d_law_odd) (by kernel_rfl) (e_law_odd _) rfl (okS_mono (odd_ok31 (T := tb (cl (n + 1))) (takeC n) h hN) (fun _ _ h => False.elim h) fun _ _ h => h)
theorem askK (n : Nat) : AskK (cl (n + 4)) := fun m u w hu hw => ok_eq (okcall_of (f := d_law_asked) (by kernel_rfl) (e_law_asked _) rfl (okS_mono (asked_all (forK n) hu hw) (fun _ _ h => False.elim h) fun _ _ h => h))
end K31
/-! K31: the head. -/
namespace K31
open PySem PySem.Spec PyProof.Rows L2 Mi
set_option maxRecDepth 100000
set_option maxHeartbeats 0
abbrev hk : PySem.W.Hook := hookU 4 ld.chk (ld.es.map (·.d))
def ob (s : PySem.W.SharedT) : AlU := obsUG 4 ld.chk (ld.es.map (·.d)) (HandSHeadRun.getT s)
theorem ob_eq (s : PySem.W.SharedT) : ob s = hk.obs s.abs := obsUG_eq (HandSHeadRun.getT_eq s)
def loose1 : List Str := ["__name__", "__name__", "CoinError", "NoName", "NoSecret", "NoNumber", "NoCoins", "NoState", "NoPaper", "NoHand", "NoLane", "NotSigned", "Settled", "Old", "NoFees", "is_count", "WHOLE", "is_fee", "taken_by", "fee_for"]
def loose2 : List Str := ["_law_well", "_law_take", "_law_odd", "_law_count", "_law_is_toll", "_law_asked", "_law_right"]
def loose : List Str := loose1 ++ loose2
theorem run (w : World) : HandSHeadRun.RunEq R (PySem.W.view R.prog [29]) hk ob 20000 loose w := by
  intro os
  kernel_rfl
end K31
/-! k31: the law. -/
namespace K31
open PySem PySem.Spec PyProof.Rows L2 Mi
set_option linter.unusedVariables false
set_option linter.unusedSimpArgs false
set_option maxRecDepth 10000
set_option exponentiation.threshold 2000
section
variable {call : CallT} {T : Tab} {m : MH} {b g N : Nat} {Q : U → MH → Prop}
def tail31 (T : Tab) (call : CallT) : S1 := (sSeq (sAsg (cFn mkTup (cCons (cK (.str "NoFees")) (cCons (cK .non) cNil))) (gName 6)) (sSeq (sIf (cTruth (cCallK 1 0 (fun as _ m => call ("_law_is_toll", none) as m) (cCons (cVar 3) cNil) cNil)) (sSeq (sAsg (cFn mkTup (cCons (cK (.str "NoCoins")) (cCons (cK .non) cNil))) (gName 6)) (sSeq (sIf (cTruth (cCallK 1 0 (fun as _ m => call ("_law_count", none) as m) (cCons (cVar 4) cNil) cNil)) (sSeq (sAsg (cFn mkTup (cCons (cK (.str "")) (cCons (cBin addU (cBin idxU (cVar 3) (cK (.int 0))) (cBin fdivU (cBin mulU (cVar 4) (cBin idxU (cVar 3) (cK (.int 1)))) (cK (.int 1000)))) cNil))) (gName 6)) sNx) sNx) sNx)) sNx) (sSeq (sAsg (cCallK 2 0 (fun as _ m => call ("_law_asked", none) as m) (cCons (cVar 3) (cCons (cVar 4) cNil)) cNil) (gName 7)) (sSeq (sRet (cAndV (cBin eqU (cVar 7) (cVar 6)) (cNotV (cFn (biIsa T) (cCons (cBin idxU (cVar 7) (cK (.int 1))) (cCons (cK (.ty "bool")) cNil)))))) sNx))))
def mid31 (T : Tab) (call : CallT) : S1 := (sSeq (sIf (cIsBl (cBin eqU (cCallK 2 0 (fun as _ m => call ("_law_take", none) as m) (cCons (cVar 0) (cCons (cK (.int 6)) cNil)) cNil) (cK (.int 0)))) (sSeq (sAsg (cCallK 2 0 (fun as _ m => call ("_law_odd", none) as m) (cCons (cVar 0) (cCons (cK (.int 1)) cNil)) cNil) (gName 4)) sNx) sNx) (sSeq (sAsg (cFn mkTup (cCons (cK (.str "NoFees")) (cCons (cK .non) cNil))) (gName 6)) (sSeq (sIf (cTruth (cCallK 1 0 (fun as _ m => call ("_law_is_toll", none) as m) (cCons (cVar 3) cNil) cNil)) (sSeq (sAsg (cFn mkTup (cCons (cK (.str "NoCoins")) (cCons (cK .non) cNil))) (gName 6)) (sSeq (sIf (cTruth (cCallK 1 0 (fun as _ m => call ("_law_count", none) as m) (cCons (cVar 4) cNil) cNil)) (sSeq (sAsg (cFn mkTup (cCons (cK (.str "")) (cCons (cBin addU (cBin idxU (cVar 3) (cK (.int 0))) (cBin fdivU (cBin mulU (cVar 4) (cBin idxU (cVar 3) (cK (.int 1)))) (cK (.int 1000)))) cNil))) (gName 6)) sNx) sNx) sNx)) sNx) (sSeq (sAsg (cCallK 2 0 (fun as _ m => call ("_law_asked", none) as m) (cCons (cVar 3) (cCons (cVar 4) cNil)) cNil) (gName 7)) (sSeq (sRet (cAndV (cBin eqU (cVar 7) (cVar 6)) (cNotV (cFn (biIsa T) (cCons (cBin idxU (cVar 7) (cK (.int 1))) (cCons (cK (.ty "bool")) cNil)))))) sNx)))))
theorem ask_shape {u w : U} : feeB u = true → geB 0 w = true → ∃ k, askV u w = .tup [.str "", .int k] := fun h1 h2 => by
  obtain ⟨a, c, rfl, a0, c0, c1⟩ := fee_all h1
  obtain ⟨k, rfl, k0⟩ := ge_int h2
  unfold askV
  rw [if_pos h1, if_pos h2]
  exact ⟨_, rfl⟩
theorem fin31 {x0 x1 x2 x5 : Option U} {u w : U} (hA : AskK call) (hu : rdU u = true) (hw : rdU w = true) {z : Str} {y : U} (hy : y = .non ∨ ∃ k, y = .int k) (hz : okD (.str z) = true) (e : askV u w = .tup [.str z, y]) :
    okS (sSeq (sAsg (cCallK 2 0 (fun as _ m => call ("_law_asked", none) as m) (cCons (cVar 3) (cCons (cVar 4) cNil)) cNil) (gName 7)) (sSeq (sRet (cAndV (cBin eqU (cVar 7) (cVar 6)) (cNotV (cFn (biIsa T) (cCons (cBin idxU (cVar 7) (cK (.int 1))) (cCons (cK (.ty "bool")) cNil)))))) sNx) [x0, x1, x2, some u, some w, x5, some (.tup [.str z, y]), none] m) (fun _ _ => False) fun v m' => v = .bl true ∧ m' = m := by
  have hd : okD (.tup [.str z, y]) = true := by
    have h1 : layU (.str z) = true := okD_lay hz
    have h2 : layU y = true := by rcases hy with rfl | ⟨k, rfl⟩ <;> rfl
    refine okD_rd (fun v hv => ?_) fun v hv => ?_
    · simp only [List.mem_cons, List.not_mem_nil, or_false] at hv
      rcases hv with rfl | rfl
      · exact h1
      · exact h2
    · simp only [List.mem_cons, List.not_mem_nil, or_false] at hv
      rcases hv with rfl | rfl
      · exact Nat.zero_le _
      · rcases hy with rfl | ⟨k, rfl⟩ <;> exact Nat.zero_le _
  have i1 : ∀ {Q : U → MH → Prop}, okP (idxU (.tup [.str z, y]) (.int 1) m) Q ↔ Q y m := ok_idxT rfl
  have iB : ∀ {Q : U → MH → Prop}, okP (biIsa T [y, .ty "bool"] m) Q ↔ Q (.bl false) m := by
    rcases hy with rfl | ⟨k, rfl⟩
    · exact ok_isaB (a := "NoneType") rfl tysB (by decide)
    · exact ok_isaB (a := "int") rfl tysB (by decide)
  rw [ok_sSeq]
  simp only [ok_sAsg, ok_cCallK, ok_cCons, ok_cVarS, ok_cVar0, ok_cNil, hA m u w hu hw, okO_ok, e, ok_gName, List.set_cons_succ, List.set_cons_zero]
  refine ⟨rfl, rfl, ?_⟩
  simp only [ok_sSeq, ok_sRet, ok_cAndV, ok_cBin, ok_cVarS, ok_cVar0, ok_eqSelfT hd, okT_bl, ok_cNotV, ok_cFn, ok_cCons, ok_cNil, ok_cK, i1, iB]
  exact ⟨fun _ => ⟨rfl, by first | rfl | trivial⟩, fun z => (nomatch z)⟩
theorem tail31_ok {x0 x1 x2 x5 : Option U} {u w : U} (hC : LCountK call) (hT : TollK call) (hA : AskK call) (hu : rdU u = true) (hw : rdU w = true) :
    okS (tail31 T call [x0, x1, x2, some u, some w, x5, none, none] m) (fun _ _ => False) fun v m' => v = .bl true ∧ m' = m := by
  unfold tail31
  rw [ok_sSeq]
  simp only [ok_sAsg, ok_cFn, ok_cCons, ok_cNil, ok_cK, ok_mkTup (us := [U.str "NoFees", U.non]) rfl, ok_gName, List.set_cons_succ, List.set_cons_zero]
  rw [ok_sSeq]
  simp only [ok_sIf, ok_cTruth, ok_cCallK, ok_cCons, ok_cVarS, ok_cVar0, ok_cNil, hT m u hu, okO_ok, okT_bl]
  refine ⟨rfl, rfl, fun e => ?_, fun e => ?_⟩
  · rw [ok_sSeq]
    simp only [ok_sAsg, ok_cFn, ok_cCons, ok_cNil, ok_cK, ok_mkTup (us := [U.str "NoCoins", U.non]) rfl, ok_gName, List.set_cons_succ, List.set_cons_zero]
    rw [ok_sSeq]
    simp only [ok_sIf, ok_cTruth, ok_cCallK, ok_cCons, ok_cVarS, ok_cVar0, ok_cNil, hC m w hw, okO_ok, okT_bl]
    refine ⟨rfl, rfl, fun e2 => ?_, fun e2 => ?_⟩
    · obtain ⟨a, c, rfl, a0, c0, c1⟩ := fee_all e
      obtain ⟨k, rfl, k0⟩ := ge_int e2
      have dk : divOk 1000 = true := rfl
      have i0 : ∀ {Q : U → MH → Prop}, okP (idxU (.tup [.int a, .int c]) (.int 0) m) Q ↔ Q (.int a) m := ok_idxT rfl
      have i1 : ∀ {Q : U → MH → Prop}, okP (idxU (.tup [.int a, .int c]) (.int 1) m) Q ↔ Q (.int c) m := ok_idxT rfl
      rw [ok_sSeq]
      simp only [ok_sAsg, ok_cFn, ok_cCons, ok_cNil, ok_cK, ok_cBin, ok_cVarS, ok_cVar0, i0, i1, ok_mul (mul_fee (k := k) c0 c1), ok_div dk, ok_add]
      rw [ok_mkTup rfl]
      simp only [ok_gName, List.set_cons_succ, List.set_cons_zero, ok_sNx]
      exact fin31 hA hu hw (.inr ⟨_, rfl⟩) (by kernel_rfl) (by unfold askV; rw [if_pos e, if_pos e2])
    · simp only [ok_sNx]
      exact fin31 hA hu hw (.inl rfl) (by kernel_rfl) (by unfold askV; rw [if_pos e, e2]; rfl)
  · simp only [ok_sNx]
    exact fin31 hA hu hw (.inl rfl) (by kernel_rfl) (by unfold askV; rw [e]; rfl)
def RightC (call : CallT) : Prop := ∀ (m : MH) (b g N : Nat), Well m b g N → N + 40 < 10 ^ 9 → okO (call ("_law_right", none) [.ref b] m) fun v m' => v = .bl true ∧ Well m' b g (N + 20)
theorem mid31_ok {x1 x2 x5 : Option U} {u : U} {k : Int} (hd : TakeC call) (hO : OddK call) (hC : LCountK call) (hT : TollK call) (hA : AskK call) (hu : rdU u = true) (h : Well m b g N) (hN : N + 10 < 10 ^ 9) :
    okS (mid31 T call [some (.ref b), x1, x2, some u, some (.int k), x5, none, none] m) (fun _ _ => False) fun v m' => v = .bl true ∧ Well m' b g (N + 2) := by
  unfold mid31
  rw [ok_sSeq]
  simp only [ok_sIf, ok_cIsBl, ok_cBin, ok_cCallK, ok_cCons, ok_cVar0, ok_cK, ok_cNil]
  refine ⟨rfl, rfl, okO_mono (hd m b g N 6 h (by omega) (by decide) (by decide)) ?_⟩
  rintro v m1 ⟨i, rfl, i0, i1, h1, -⟩
  simp only [ok_eqI, ok_blOf]
  refine ⟨fun _ => ?_, fun _ => ?_⟩
  · rw [ok_sSeq]
    simp only [ok_sAsg, ok_cCallK, ok_cCons, ok_cVar0, ok_cK, ok_cNil]
    refine ⟨rfl, rfl, okO_mono (hO m1 b g _ 1 h1 (by omega)) ?_⟩
    rintro w m2 ⟨hw, h2, -⟩
    simp only [ok_gName, List.set_cons_succ, List.set_cons_zero, ok_sNx]
    refine okS_mono (tail31_ok hC hT hA hu hw) (fun _ _ z => z) ?_
    rintro v m3 ⟨rfl, rfl⟩
    exact ⟨rfl, h2⟩
  · simp only [ok_sNx]
    refine okS_mono (tail31_ok hC hT hA hu (by rfl)) (fun _ _ z => z) ?_
    rintro v m3 ⟨rfl, rfl⟩
    exact ⟨rfl, h1.up (by omega)⟩
theorem right_ok (hd : TakeC call) (hO : OddK call) (hC : LCountK call) (hT : TollK call) (hA : AskK call) (h : Well m b g N) (hN : N + 40 < 10 ^ 9) :
    okS (c_law_right T call [some (.ref b), none, none, none, none, none, none, none] m) (fun _ _ => False) fun v m' => v = .bl true ∧ Well m' b g (N + 20) := by
  have pe : powOk 10 14 = true := rfl
  have lst : ∀ {u : U} {p : Int}, u ∈ [U.int 2, .int p, .int (10 ^ (Int.toNat 14))] → (p = 100 ∨ p = 1100) → ∃ k, u = .int k ∧ 0 < k ∧ k < 2 ^ 200 := fun hu hp => by
    simp only [List.mem_cons, List.not_mem_nil, or_false] at hu
    rcases hu with rfl | rfl | rfl
    · exact ⟨_, rfl, by decide, by decide⟩
    · rcases hp with rfl | rfl <;> exact ⟨_, rfl, by decide, by decide⟩
    · exact ⟨_, rfl, by decide, by decide⟩
  unfold c_law_right
  rw [ok_sSeq]
  simp only [ok_sAsg, ok_cCallK, ok_cCons, ok_cVar0, ok_cBin, ok_cFn, ok_cK, ok_cNil, ok_pow pe]
  rw [ok_mkFl rfl]
  refine ⟨rfl, rfl, okO_mono (hd m b g N 3 h (by omega) (by decide) (by decide)) ?_⟩
  rintro v m1 ⟨i1, rfl, i10, i11, h1, -⟩
  refine ok_ixAny i10 (by simpa using i11) fun u hu => ?_
  obtain ⟨k1, rfl, k10, k11⟩ := lst hu (.inl rfl)
  refine ⟨rfl, rfl, okO_mono (hd m1 b g _ k1 h1 (by omega) k10 k11) ?_⟩
  rintro v m2 ⟨num, rfl, n0, n1, h2, -⟩
  simp only [ok_gName, List.set_cons_succ, List.set_cons_zero]
  rw [ok_sSeq]
  simp only [ok_sAsg, ok_cCallK, ok_cCons, ok_cVar0, ok_cBin, ok_cFn, ok_cK, ok_cNil]
  refine ⟨rfl, rfl, okO_mono (hd m2 b g _ 1001 h2 (by omega) (by decide) (by decide)) ?_⟩
  rintro v m3 ⟨s1, rfl, s10, s11, h3, -⟩
  rw [ok_mkFl rfl]
  refine ⟨rfl, rfl, okO_mono (hd m3 b g _ 6 h3 (by omega) (by decide) (by decide)) ?_⟩
  rintro v m4 ⟨i2, rfl, i20, i21, h4, -⟩
  refine ok_ixAny i20 (by simpa using i21) fun u hu => ?_
  obtain ⟨sh, rfl⟩ : ∃ sh : Int, u = .int sh := by
    simp only [List.mem_cons, List.not_mem_nil, or_false] at hu
    rcases hu with rfl | rfl | rfl | rfl | rfl | rfl <;> exact ⟨_, rfl⟩
  simp only [ok_gName, List.set_cons_succ, List.set_cons_zero]
  rw [ok_sSeq]
  simp only [ok_sAsg, ok_cFn, ok_cCons, ok_cNil, ok_cVarS, ok_cVar0]
  rw [ok_mkTup rfl]
  simp only [ok_gName, List.set_cons_succ, List.set_cons_zero]
  rw [ok_sSeq]
  simp only [ok_sAsg, ok_cCallK, ok_cCons, ok_cVar0, ok_cBin, ok_cFn, ok_cK, ok_cNil, ok_pow pe]
  rw [ok_mkFl rfl]
  refine ⟨rfl, rfl, okO_mono (hd m4 b g _ 3 h4 (by omega) (by decide) (by decide)) ?_⟩
  rintro v m5 ⟨i3, rfl, i30, i31, h5, -⟩
  refine ok_ixAny i30 (by simpa using i31) fun u hu => ?_
  obtain ⟨k2, rfl, k20, k21⟩ := lst hu (.inr rfl)
  refine ⟨rfl, rfl, okO_mono (hd m5 b g _ k2 h5 (by omega) k20 k21) ?_⟩
  rintro v m6 ⟨many, rfl, mn0, mn1, h6, -⟩
  simp only [ok_gName, List.set_cons_succ, List.set_cons_zero]
  rw [ok_sSeq]
  simp only [ok_sAsg, ok_cCallK, ok_cCons, ok_cVar0, ok_cK, ok_cNil]
  refine ⟨rfl, rfl, okO_mono (hd m6 b g _ 6 h6 (by omega) (by decide) (by decide)) ?_⟩
  rintro v m7 ⟨bad, rfl, bd0, bd1, h7, -⟩
  simp only [ok_gName, List.set_cons_succ, List.set_cons_zero]
  have rest : ∀ (u : U) (m8 : MH), rdU u = true → Well m8 b g (N + 15) → okS (mid31 T call [some (.ref b), some (.int num), some (.int sh), some u, some (.int many), some (.int bad), none, none] m8) (fun _ _ => False) fun v m' => v = .bl true ∧ Well m' b g (N + 20) := fun u m8 hu h8 => by
    refine okS_mono (mid31_ok hd hO hC hT hA hu h8 (by omega)) (fun _ _ z => z) ?_
    rintro v m9 ⟨rfl, h9⟩
    exact ⟨rfl, h9.up (by omega)⟩
  rw [ok_sSeq]
  simp only [ok_sIf, ok_cIsBl, ok_cBin, ok_cVarS, ok_cVar0, ok_cK, ok_eqI, ok_blOf]
  refine ⟨fun _ => ?_, fun _ => ?_⟩
  · rw [ok_sSeq]
    simp only [ok_sAsg, ok_cCallK, ok_cCons, ok_cVarS, ok_cVar0, ok_cNil]
    refine ⟨rfl, rfl, okO_mono (hO m7 b g _ num h7 (by omega)) ?_⟩
    rintro u m8 ⟨hu, h8, -⟩
    simp only [ok_gName, List.set_cons_succ, List.set_cons_zero, ok_sNx]
    exact rest u m8 hu (h8.up (by omega))
  · rw [ok_sSeq]
    simp only [ok_sIf, ok_cIsBl, ok_cBin, ok_cVarS, ok_cVar0, ok_cK, ok_eqI, ok_blOf]
    refine ⟨fun _ => ?_, fun _ => ?_⟩
    · rw [ok_sSeq]
      simp only [ok_sAsg, ok_cBin, ok_cFn, ok_cCallK, ok_cCons, ok_cVarS, ok_cVar0, ok_cK, ok_cNil]
      refine ⟨rfl, rfl, okO_mono (hO m7 b g _ 1 h7 (by omega)) ?_⟩
      rintro u m8 ⟨hu, h8, -⟩
      rw [ok_mkTup rfl]
      refine ⟨rfl, rfl, okO_mono (hO m8 b g _ 1 h8 (by omega)) ?_⟩
      rintro w m9 ⟨hw, h9, -⟩
      rw [ok_mkTup rfl, ok_mkFl rfl]
      refine ⟨rfl, rfl, okO_mono (hd m9 b g _ 2 h9 (by omega) (by decide) (by decide)) ?_⟩
      rintro v m10 ⟨j, rfl, j0, j1, h10, -⟩
      refine ok_ixAny j0 (by simpa using j1) fun y hy => ?_
      simp only [ok_gName, List.set_cons_succ, List.set_cons_zero, ok_sNx]
      refine rest y m10 ?_ (h10.up (by omega))
      simp only [List.mem_cons, List.not_mem_nil, or_false] at hy
      rcases hy with rfl | rfl
      · show (rdU u && (true && true)) = true
        rw [hu]
        rfl
      · show (true && (rdU w && true)) = true
        rw [hw]
        rfl
    · simp only [ok_sNx]
      exact rest _ m7 rfl (h7.up (by omega))
theorem law_ok31 {ns : List Int} (hl : ns.length ≤ 63) (hW : WellC call) (hR : RightC call) : okS (c_law T call [some (.cl (ns.map U.int)), none, none] []) (fun _ _ => False) fun v _ => v = .bl true := by
  unfold c_law
  rw [ok_sSeq]
  simp only [ok_sAsg, ok_cCallK, ok_cCons, ok_cVar0, ok_cNil]
  refine ⟨rfl, rfl, okO_mono (hW ns hl []) ?_⟩
  rintro v m1 ⟨rfl, h1, -, -⟩
  generalize List.length ([] : MH) = g at h1 ⊢
  have hlen : ∀ {Q : U → MH → Prop}, okP (biLen [.cl (ns.map U.int)] m1) Q ↔ Q (.int (ns.map U.int).length) m1 := Iff.rfl
  simp only [ok_gName, List.set_cons_succ, List.set_cons_zero]
  rw [ok_sSeq]
  simp only [ok_sFor, ok_cRng1, ok_cCons, ok_cNil, ok_cBin, ok_cK, ok_cFn, ok_cVar0, hlen, ok_biMin, ok_add, ok_rng1]
  obtain ⟨q, hq, hq2⟩ : ∃ q : Nat, (10 + (if ((ns.map U.int).length : Int) < 60 then ((ns.map U.int).length : Int) else 60)).toNat = q ∧ q ≤ 100 := ⟨_, rfl, by split <;> omega⟩
  rw [hq]
  refine ⟨by unfold rngBd; simp only [Bool.and_eq_true, decide_eq_true_eq]; split <;> omega, ok_loop (us := rangeU 0 q) (fun i t m' => ∃ x2, t = [some (.cl (ns.map U.int)), some (.ref (g + 1)), x2] ∧ Well m' (g + 1) g (20 * i)) ⟨none, rfl, h1⟩ ?_ ?_⟩
  · rintro i w t m2 hw ⟨x2, rfl, h2⟩
    obtain ⟨rfl, hi⟩ := rng_get hw
    simp only [ok_gName, List.set_cons_succ, List.set_cons_zero]
    rw [ok_sSeq]
    simp only [ok_sIf, ok_cNot, ok_cTruth, ok_cCallK, ok_cCons, ok_cVarS, ok_cVar0, ok_cNil]
    refine ⟨rfl, rfl, okO_mono (hR m2 (g + 1) g _ h2 (by omega)) ?_⟩
    rintro v m3 ⟨rfl, h3⟩
    simp only [okT_bl, ok_sNx]
    exact ⟨fun z => (nomatch z), fun _ => ⟨_, rfl, h3.up (by omega)⟩⟩
  · rintro t m2 ⟨x2, rfl, h2⟩
    simp only [ok_sSeq, ok_sRet, ok_cK]
end
theorem rightC (n : Nat) : RightC (cl (n + 5)) := fun m b g N h hN => okcall_of (f := d_law_right) (by kernel_rfl) (e_law_right _) rfl (okS_mono (right_ok (T := tb (cl (n + 4))) (takeC (n + 3)) (oddK (n + 2)) (lcountK (n + 3)) (tollK (n + 2)) (askK n) h hN) (fun _ _ h => False.elim h) fun _ _ h => h)
theorem spec : ∀ ns : List Int, ns.length ≤ 63 → ∃ m, callN ld.sta 14 ("law", none) [.cl (ns.map U.int)] [] = .ok (.bl true) m := fun ns hl =>
  end_of (okcall_of (f := d_law) (by kernel_rfl) (e_law _) rfl (okS_mono (law_ok31 hl (wellC 12) (rightC 8)) (fun _ _ h => h.elim) fun _ _ h => h))
end K31
namespace K31
open PySem PySem.Spec PyProof.Rows L2 Mi
set_option maxRecDepth 100000
set_option maxHeartbeats 0
end K31
open PySem PySem.W PySem.Calls PyProof.Rows
theorem PySem.Challenge.cw_coinlanes_k31_fees_reckoned_holds : PySem.Challenge.rw_coinlanes_k31_fees_reckoned.Holds := by
  w_on; o_law
  refine HandSHeadRun.head_any (r := K31.R) (q := view K31.R.prog [29]) (H := K31.hk) (ob := K31.ob) (M := 20000) (loose := K31.loose) (d := HandSHeadRun.topDef K31.R.prog 29) (kwd := []) K31.ob_eq
    (by kernel_rfl) (fun s => by kernel_rfl) K31.run (by kernel_rfl) (by kernel_rfl) (by kernel_rfl) (by rfl) (by first | assumption | decide +kernel) (by decide +kernel) ⟨rfl, rfl, rfl, rfl, rfl, by decide +kernel⟩ ?hw ?hc
  case hw => w_witness2
  case hc => exact Mi.law_walk (l := K31.OL) (x := "_law_script") K31.ld 14 K31.d_law rfl rfl ⟨rfl, by decide, by decide⟩ K31.ok_all (by kernel_rfl) rfl rfl (by kernel_rfl) K31.spec
