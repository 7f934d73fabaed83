import PyProof.Rows.All
import Wide.All
import OpenK.AllK
import Wide.FinOn
import HandS.ForMost
import HandS.ForExc
import HandS.CallSlots
import HandS.Walk
import KE.KeyNested
import KE.KDictKeyed
import HandS.TupAny
import HandS.TupMul
import HandS.Wide
import HandS.Deep
import HandS.Style
import HandS.Flow
import HandS.Star
import HandS.Property
import HandS.MakeKwOnly
import HandS.Defaults
import HandS.ExcCtx
import HandS.IsInst
import HandS.Conv
import HandS.WordsDict
import KE.GoesEnum
import KE.GoesEnumKw
import HandS.Zip
import HandS.Rev
import HandS.RevTup
import HandS.OwnEq
import HandS.SlotsOwn
import KE.KFmtOwn
import PyProof.InstEq
import PyProof.InstNe
import HandS.ClsMeth
import PyProof.ReprRoads
import HandS.Ends
import HandS.HeadEnd
import HandS.DictComp
import PyProof.Rows.CallKwBuiltin
import KE.SortData
import KE.KRevSl
import KE.KEqDict
import PyProof.DictUpdate
import PyProof.DictDisplay
import KE.KDictSum
import KE.KDictList
import HandS.Dict
import HandS.Records
import HandS.DictSub
import KE.KExcSuper
import HandS.ExcInit
import HandS.ExcOwn
import HandS.ExcValue
import KE.RegKSuper
import HandS.ExcField
import KE.KExcIs
import HandS.ExcIs
import HandS.HotCalls
import HandS.Comp
import HandS.SuiteRaise
import KE.RegKIsAll
import PyProof.ReprLen
import PySem.Challenge.RW_treewaits_k06_ways_refused
section
set_option Elab.async false
set_option linter.all false
set_option maxRecDepth 100000
set_option maxHeartbeats 1000000
/-! Tw, part A: data, logical heaps, how they stand in the abstract heap of HandS. -/
namespace Tw
open PySem PySem.Spec PyProof.Rows L2

/-- a value as data: tuples are values, lists, dicts and instances are places of the logical heap -/
inductive D where
  | non | bl (b : Bool) | int (i : Int) | str (x : Str) | tup (xs : List D) | ref (n : Nat) | cls (c : Nat) | ty (n : String)
  /-- a list that is only read (the script) -/
  | rol (xs : List D)

mutual
def beqD : D → D → Bool
  | .non, .non => true
  | .bl a, .bl b => a == b
  | .int a, .int b => a == b
  | .str a, .str b => decide (a = b)
  | .tup a, .tup b => beqDs a b
  | .ref a, .ref b => a == b
  | .cls a, .cls b => a == b
  | .ty a, .ty b => decide (a = b)
  | .rol a, .rol b => beqDs a b
  | _, _ => false
def beqDs : List D → List D → Bool
  | [], [] => true
  | x :: xs, y :: ys => beqD x y && beqDs xs ys
  | _, _ => false
end
mutual
theorem beqD_eq : ∀ (a b : D), beqD a b = true → a = b
  | .non, b, h => by cases b <;> simp [beqD] at h ⊢
  | .bl x, b, h => by cases b <;> simp [beqD] at h ⊢; exact h
  | .int x, b, h => by cases b <;> simp [beqD] at h ⊢; exact h
  | .str x, b, h => by cases b <;> simp [beqD] at h ⊢; exact h
  | .ref x, b, h => by cases b <;> simp [beqD] at h ⊢; exact h
  | .cls x, b, h => by cases b <;> simp [beqD] at h ⊢; exact h
  | .ty x, b, h => by cases b <;> simp [beqD] at h ⊢; exact h
  | .tup xs, b, h => by
    cases b <;> simp [beqD] at h ⊢
    exact beqDs_eq xs _ h
  | .rol xs, b, h => by
    cases b <;> simp [beqD] at h ⊢
    exact beqDs_eq xs _ h
theorem beqDs_eq : ∀ (a b : List D), beqDs a b = true → a = b
  | [], b, h => by cases b <;> simp [beqDs] at h ⊢
  | x :: xs, b, h => by
    cases b with
    | nil => simp [beqDs] at h
    | cons y ys =>
      simp [beqDs] at h
      rw [beqD_eq x y h.1, beqDs_eq xs ys h.2]
end
mutual
theorem beqD_rfl : ∀ (a : D), beqD a a = true
  | .non => rfl
  | .bl x => by simp [beqD]
  | .int x => by simp [beqD]
  | .str x => by simp [beqD]
  | .ref x => by simp [beqD]
  | .cls x => by simp [beqD]
  | .ty x => by simp [beqD]
  | .tup xs => by simp [beqD]; exact beqDs_rfl xs
  | .rol xs => by simp [beqD]; exact beqDs_rfl xs
theorem beqDs_rfl : ∀ (a : List D), beqDs a a = true
  | [] => rfl
  | x :: xs => by simp [beqDs]; exact ⟨beqD_rfl x, beqDs_rfl xs⟩
end
instance : DecidableEq D := fun a b => if h : beqD a b = true then isTrue (beqD_eq a b h) else isFalse fun e => h (e ▸ beqD_rfl a)

/-- what stands at a place of the logical heap: a list, an instance of class c, a dict (lk: walked just now) -/
inductive O where
  | lst (xs : List D) | ins (c : Nat) (fs : List (Str × D)) | dic (lk : Bool) (kvs : List (Key × D))
  /-- a dict whose keys are tuples, nested -/
  | nd (lk : Bool) (kvs : List (D × D))
  deriving DecidableEq

/-- what the statement's world gives: the written part, the classes by their numbers -/
structure Gx where
  K : PySem.W.Frag
  cm : Nat → Addr
  /-- what must stand: objects that are no logical places -/
  fx : Hp
  w : World

/-- a list that is locked, or stands in the written part -/
def RoL (K : PySem.W.Frag) (H : Hp) (a : Addr) (vs : List V) : Prop := (∃ o, H a = some (.frz o (.lst vs))) ∨ SqL K (fun _ => none) a vs
/-- a tuple that is told, or stands in the written part -/
def TuT (K : PySem.W.Frag) (H : Hp) (a : Addr) (vs : List V) : Prop := H a = some (.tup vs) ∨ SqT K (fun _ => none) a vs
variable {g : Gx} {ρ ρ' : List Addr} {H H' : Hp}
theorem TuT.sq {K : PySem.W.Frag} {a : Addr} {vs : List V} (h : TuT K H a vs) : SqT K H a vs := by
  rcases h with h | h
  · exact .inl (.inl h)
  · rcases h with (h | ⟨_, h⟩) | h
    · cases h
    · cases h
    · exact .inr h
theorem RoL.seq {K : PySem.W.Frag} {a : Addr} {vs : List V} (h : RoL K H a vs) : SqL K H a vs := by
  rcases h with ⟨o, h⟩ | h
  · exact .inl (.inr ⟨o, h⟩)
  · rcases h with (h | ⟨_, h⟩) | h
    · cases h
    · cases h
    · exact .inr h
mutual
inductive VR (g : Gx) (ρ : List Addr) (H : Hp) : D → V → Prop
  | non : VR g ρ H .non .non
  | bl (b : Bool) : VR g ρ H (.bl b) (.bl b)
  | int (i : Int) : VR g ρ H (.int i) (.int i)
  | str (x : Str) : VR g ρ H (.str x) (.str x)
  | ref {n : Nat} {a : Addr} : ρ[n]? = some a → VR g ρ H (.ref n) (.ref a)
  | cls (c : Nat) : VR g ρ H (.cls c) (.ref (g.cm c))
  | ty (n : String) : VR g ρ H (.ty n) (.ty n)
  | tup {ds : List D} {a : Addr} {vs : List V} : TuT g.K H a vs → VRs g ρ H ds vs → VR g ρ H (.tup ds) (.ref a)
  | rol {ds : List D} {a : Addr} {vs : List V} : RoL g.K H a vs → VRs g ρ H ds vs → VR g ρ H (.rol ds) (.ref a)
inductive VRs (g : Gx) (ρ : List Addr) (H : Hp) : List D → List V → Prop
  | nil : VRs g ρ H [] []
  | cons {d : D} {v : V} {ds : List D} {vs : List V} : VR g ρ H d v → VRs g ρ H ds vs → VRs g ρ H (d :: ds) (v :: vs)
end
/-- tuples and what is locked stand -/
structure TP (H H' : Hp) : Prop where
  tup : ∀ a xs, H a = some (.tup xs) → H' a = some (.tup xs)
  frz : ∀ a o u, H a = some (.frz o u) → H' a = some (.frz o u)
theorem TP.refl (H : Hp) : TP H H := ⟨fun _ _ h => h, fun _ _ _ h => h⟩
theorem TP.trans {H1 H2 H3 : Hp} (a : TP H1 H2) (b : TP H2 H3) : TP H1 H3 := ⟨fun x xs h => b.tup x xs (a.tup x xs h), fun x o u h => b.frz x o u (a.frz x o u h)⟩
theorem TP.rd {K : PySem.W.Frag} (t : TP H H') {a : Addr} {xs : List V} (h : SqT K H a xs) : SqT K H' a xs := by
  rcases h with (h | ⟨o, h⟩) | h
  · exact .inl (.inl (t.tup a xs h))
  · exact .inl (.inr ⟨o, t.frz a o _ h⟩)
  · exact .inr h
theorem TP.rol {K : PySem.W.Frag} (t : TP H H') {a : Addr} {xs : List V} (h : RoL K H a xs) : RoL K H' a xs := by
  rcases h with ⟨o, h⟩ | h
  · exact .inl ⟨o, t.frz a o _ h⟩
  · exact .inr h
theorem TP.new {p : Addr} {o : HO} (h : H p = none) : TP H (upd H p o) :=
  ⟨fun a xs e => by rw [upd_ne (ne_of_none e h)]; exact e, fun a ob u e => by rw [upd_ne (ne_of_none e h)]; exact e⟩
def MutO : HO → Bool
  | .lst _ => true
  | .dK _ => true
  | .ins _ _ _ => true
  | .ext _ => true
  | _ => false
theorem TP.mut {p : Addr} {o u : HO} (h : H p = some u) (m : MutO u = true) : TP H (upd H p o) :=
  ⟨fun a xs e => by
    have : a ≠ p := by rintro rfl; rw [e] at h; cases h; cases m
    rw [upd_ne this]; exact e, fun a ob w e => by
    have : a ≠ p := by rintro rfl; rw [e] at h; cases h; cases m
    rw [upd_ne this]; exact e⟩
/-- what data lean on stands: tuples and lists that are only read -/
structure TV (K : PySem.W.Frag) (H H' : Hp) : Prop where
  tup : ∀ a xs, TuT K H a xs → TuT K H' a xs
  rol : ∀ a xs, RoL K H a xs → RoL K H' a xs
theorem TP.tu {K : PySem.W.Frag} (t : TP H H') {a : Addr} {xs : List V} (h : TuT K H a xs) : TuT K H' a xs := h.elim (fun h => .inl (t.tup a xs h)) .inr
theorem TP.tv {K : PySem.W.Frag} (t : TP H H') : TV K H H' := ⟨fun _ _ h => t.tu h, fun _ _ h => t.rol h⟩
theorem pre_get {α : Type} {l l' : List α} (h : l <+: l') {n : Nat} {a : α} (e : l[n]? = some a) : l'[n]? = some a := by
  obtain ⟨t, rfl⟩ := h
  obtain ⟨hn, _⟩ := List.getElem?_eq_some_iff.mp e
  rw [List.getElem?_append_left hn]; exact e
mutual
theorem VR.monoV (hp : ρ <+: ρ') (ht : TV g.K H H') : ∀ {d : D} {v : V}, VR g ρ H d v → VR g ρ' H' d v
  | _, _, .non => .non
  | _, _, .bl b => .bl b
  | _, _, .int i => .int i
  | _, _, .str x => .str x
  | _, _, .ref e => .ref (pre_get hp e)
  | _, _, .cls c => .cls c
  | _, _, .ty c => .ty c
  | _, _, .tup s r => .tup (ht.tup _ _ s) (VRs.monoV hp ht r)
  | _, _, .rol s r => .rol (ht.rol _ _ s) (VRs.monoV hp ht r)
theorem VRs.monoV (hp : ρ <+: ρ') (ht : TV g.K H H') : ∀ {ds : List D} {vs : List V}, VRs g ρ H ds vs → VRs g ρ' H' ds vs
  | _, _, .nil => .nil
  | _, _, .cons r t => .cons (VR.monoV hp ht r) (VRs.monoV hp ht t)
end
theorem VR.mono (hp : ρ <+: ρ') (ht : TP H H') {d : D} {v : V} (h : VR g ρ H d v) : VR g ρ' H' d v := h.monoV hp ht.tv
theorem VRs.mono (hp : ρ <+: ρ') (ht : TP H H') {ds : List D} {vs : List V} (h : VRs g ρ H ds vs) : VRs g ρ' H' ds vs := h.monoV hp ht.tv
theorem VRs.length : ∀ {ds : List D} {vs : List V}, VRs g ρ H ds vs → ds.length = vs.length
  | _, _, .nil => rfl
  | _, _, .cons _ t => by simp [VRs.length t]
theorem VRs.get : ∀ {ds : List D} {vs : List V}, VRs g ρ H ds vs → ∀ {i : Nat} {d : D}, ds[i]? = some d → ∃ v, vs[i]? = some v ∧ VR g ρ H d v
  | _, _, .nil, i, d, e => by simp at e
  | _, _, .cons r t, 0, d, e => by simp at e; subst e; exact ⟨_, rfl, r⟩
  | _, _, .cons r t, i + 1, d, e => by
    obtain ⟨v, h1, h2⟩ := VRs.get t (i := i) (d := d) (by simpa using e)
    exact ⟨v, by simpa using h1, h2⟩
theorem VRs.getV : ∀ {ds : List D} {vs : List V}, VRs g ρ H ds vs → ∀ {i : Nat} {v : V}, vs[i]? = some v → ∃ d, ds[i]? = some d ∧ VR g ρ H d v
  | _, _, .nil, i, d, e => by simp at e
  | _, _, .cons r t, 0, d, e => by simp at e; subst e; exact ⟨_, rfl, r⟩
  | _, _, .cons r t, i + 1, d, e => by
    obtain ⟨v, h1, h2⟩ := VRs.getV t (i := i) (v := d) (by simpa using e)
    exact ⟨v, by simpa using h1, h2⟩
theorem VRs.append : ∀ {ds es : List D} {vs us : List V}, VRs g ρ H ds vs → VRs g ρ H es us → VRs g ρ H (ds ++ es) (vs ++ us)
  | _, _, _, _, .nil, s => s
  | _, _, _, _, .cons r t, s => .cons r (VRs.append t s)
theorem VRs.take : ∀ {ds : List D} {vs : List V} (n : Nat), VRs g ρ H ds vs → VRs g ρ H (ds.take n) (vs.take n)
  | _, _, 0, _ => by simp; exact .nil
  | _, _, _ + 1, .nil => by simp; exact .nil
  | _, _, n + 1, .cons r t => by simp; exact .cons r (VRs.take n t)
theorem VRs.drop : ∀ {ds : List D} {vs : List V} (n : Nat), VRs g ρ H ds vs → VRs g ρ H (ds.drop n) (vs.drop n)
  | _, _, 0, r => by simpa using r
  | _, _, _ + 1, .nil => by simp; exact .nil
  | _, _, n + 1, .cons r t => by simpa using VRs.drop n t
theorem VRs.set {d : D} {v : V} (r : VR g ρ H d v) : ∀ {ds : List D} {vs : List V} (n : Nat), VRs g ρ H ds vs → VRs g ρ H (ds.set n d) (vs.set n v)
  | _, _, _, .nil => by simp; exact .nil
  | _, _, 0, .cons _ t => by simp; exact .cons r t
  | _, _, n + 1, .cons q t => by simp; exact .cons q (VRs.set r n t)
theorem VRs.reverse : ∀ {ds : List D} {vs : List V}, VRs g ρ H ds vs → VRs g ρ H ds.reverse vs.reverse
  | _, _, .nil => by simp; exact .nil
  | _, _, .cons r t => by simp only [List.reverse_cons]; exact (VRs.reverse t).append (.cons r .nil)
theorem VRs.one {d : D} {vs : List V} (r : VRs g ρ H [d] vs) : ∃ v, vs = [v] ∧ VR g ρ H d v := by
  cases r with
  | cons r t => cases t; exact ⟨_, rfl, r⟩
theorem VRs.two {d e : D} {vs : List V} (r : VRs g ρ H [d, e] vs) : ∃ v u, vs = [v, u] ∧ VR g ρ H d v ∧ VR g ρ H e u := by
  cases r with
  | cons r t => obtain ⟨u, rfl, q⟩ := t.one; exact ⟨_, _, rfl, r, q⟩

/-- attributes -/
inductive FR (g : Gx) (ρ : List Addr) (H : Hp) : List (Str × D) → List (Str × V) → Prop
  | nil : FR g ρ H [] []
  | cons {f : Str} {d : D} {v : V} {fs : List (Str × D)} {vs : List (Str × V)} : VR g ρ H d v → FR g ρ H fs vs → FR g ρ H ((f, d) :: fs) ((f, v) :: vs)
theorem FR.monoV (hp : ρ <+: ρ') (ht : TV g.K H H') : ∀ {fs : List (Str × D)} {vs : List (Str × V)}, FR g ρ H fs vs → FR g ρ' H' fs vs
  | _, _, .nil => .nil
  | _, _, .cons r t => .cons (r.monoV hp ht) (FR.monoV hp ht t)
theorem FR.mono (hp : ρ <+: ρ') (ht : TP H H') {fs : List (Str × D)} {vs : List (Str × V)} (h : FR g ρ H fs vs) : FR g ρ' H' fs vs := h.monoV hp ht.tv
theorem FR.length : ∀ {fs : List (Str × D)} {vs : List (Str × V)}, FR g ρ H fs vs → fs.length = vs.length
  | _, _, .nil => rfl
  | _, _, .cons _ t => by simp [FR.length t]
theorem FR.look (f : Str) : ∀ {fs : List (Str × D)} {vs : List (Str × V)}, FR g ρ H fs vs → (∃ d v, fs.lookup f = some d ∧ vs.lookup f = some v ∧ VR g ρ H d v) ∨ (fs.lookup f = none ∧ vs.lookup f = none)
  | _, _, .nil => .inr ⟨rfl, rfl⟩
  | _, _, .cons (f := k) (d := d) (v := v) r t => by
    rw [List.lookup_cons, List.lookup_cons]
    cases f == k with
    | true => exact .inl ⟨d, v, rfl, rfl, r⟩
    | false => exact FR.look f t
def putD (f : Str) (d : D) : List (Str × D) → List (Str × D)
  | [] => [(f, d)]
  | (k, x) :: r => if k = f then (k, d) :: r else (k, x) :: putD f d r
theorem FR.put {f : Str} {d : D} {v : V} (q : VR g ρ H d v) : ∀ {fs : List (Str × D)} {vs : List (Str × V)}, FR g ρ H fs vs → FR g ρ H (putD f d fs) (putF f v vs)
  | _, _, .nil => .cons q .nil
  | _, _, .cons (f := k) r t => by
    unfold putD putF
    split
    · exact .cons q t
    · exact .cons r (FR.put q t)
/-- a dict's pairs -/
inductive KR (g : Gx) (ρ : List Addr) (H : Hp) : List (Key × D) → List (Key × V) → Prop
  | nil : KR g ρ H [] []
  | cons {k : Key} {d : D} {v : V} {ks : List (Key × D)} {vs : List (Key × V)} : VR g ρ H d v → KR g ρ H ks vs → KR g ρ H ((k, d) :: ks) ((k, v) :: vs)
theorem KR.monoV (hp : ρ <+: ρ') (ht : TV g.K H H') : ∀ {fs : List (Key × D)} {vs : List (Key × V)}, KR g ρ H fs vs → KR g ρ' H' fs vs
  | _, _, .nil => .nil
  | _, _, .cons r t => .cons (r.monoV hp ht) (KR.monoV hp ht t)
theorem KR.mono (hp : ρ <+: ρ') (ht : TP H H') {fs : List (Key × D)} {vs : List (Key × V)} (h : KR g ρ H fs vs) : KR g ρ' H' fs vs := h.monoV hp ht.tv
theorem KR.length : ∀ {fs : List (Key × D)} {vs : List (Key × V)}, KR g ρ H fs vs → fs.length = vs.length
  | _, _, .nil => rfl
  | _, _, .cons _ t => by simp [KR.length t]

/-! ### dicts whose keys are nested tuples -/
mutual
/-- a datum as a key -/
def nkD : D → Option NestedKey
  | .non => some .none
  | .bl b => some (.num (if b = true then 1 else 0))
  | .int i => some (.num i)
  | .str x => some (.text x)
  | .tup ds => (nkDs ds).map .tup
  | .rol _ => none | .ref _ => none | .cls _ => none | .ty _ => none
def nkDs : List D → Option (List NestedKey)
  | [] => some []
  | d :: ds => match nkD d, nkDs ds with
    | some k, some ks => some (k :: ks)
    | _, _ => none
end
abbrev NPair : (NestedKey × Addr × V) → (NestedKey × Addr × Value) → Prop := fun x y => x.1 = y.1 ∧ x.2.1 = y.2.1 ∧ RelV x.2.2 y.2.2
def NdO (w : World) (a : Addr) (xs : List (NestedKey × Addr × V)) : HO := .ext fun h => (a == sysModules) = false ∧ xs.length ≤ sizeLine ∧ (xs.map (·.1)).Nodup ∧ ∃ ys : List (NestedKey × Addr × Value), Paired NPair xs ys ∧
  ∃ o es ep, h.get? a = some o ∧ o.ExactDict ∧ o.data = .dict es ep ∧ es.toList = ys.map fun y => ⟨y.1.hash w, .ref y.2.1, y.2.2⟩
inductive NR (g : Gx) (ρ : List Addr) (H : Hp) : List (D × D) → List (NestedKey × Addr × V) → Prop
  | nil : NR g ρ H [] []
  | cons {d e : D} {k : NestedKey} {q : Addr} {v : V} {ks : List (D × D)} {xs : List (NestedKey × Addr × V)} : nkD d = some k → k.depth ≤ 8 → VR g ρ H d (.ref q) → VR g ρ H e v → NR g ρ H ks xs → NR g ρ H ((d, e) :: ks) ((k, q, v) :: xs)
theorem NR.monoV (hp : ρ <+: ρ') (ht : TV g.K H H') : ∀ {ks : List (D × D)} {xs : List (NestedKey × Addr × V)}, NR g ρ H ks xs → NR g ρ' H' ks xs
  | _, _, .nil => .nil
  | _, _, .cons a b r q t => .cons a b (r.monoV hp ht) (q.monoV hp ht) (NR.monoV hp ht t)
theorem NR.mono (hp : ρ <+: ρ') (ht : TP H H') {ks : List (D × D)} {xs : List (NestedKey × Addr × V)} (h : NR g ρ H ks xs) : NR g ρ' H' ks xs := h.monoV hp ht.tv
theorem NR.length : ∀ {ks : List (D × D)} {xs : List (NestedKey × Addr × V)}, NR g ρ H ks xs → ks.length = xs.length
  | _, _, .nil => rfl
  | _, _, .cons _ _ _ _ t => by simp [NR.length t]

/-- what stands at a logical place, in the abstract heap -/
def OR (g : Gx) (ρ : List Addr) (H : Hp) (a : Addr) : O → Prop
  | .lst ds => ∃ vs, H a = some (.lst vs) ∧ VRs g ρ H ds vs
  | .ins c fs => ∃ dx vs, H a = some (.ins (g.cm c) dx vs) ∧ FR g ρ H fs vs
  | .dic false ks => ∃ vs, H a = some (.dK vs) ∧ KR g ρ H ks vs
  | .dic true ks => ∃ vs o, H a = some (.frz o (.dK vs)) ∧ KR g ρ H ks vs
  | .nd false ks => ∃ xs, H a = some (NdO g.w a xs) ∧ NR g ρ H ks xs
  | .nd true ks => ∃ xs o, H a = some (.frz o (NdO g.w a xs)) ∧ NR g ρ H ks xs
/-- H' has at a what H has (a thing that is not tracked is as it was if the table has it) -/
theorem OR.monoV {a : Addr} {o : O} (hp : ρ <+: ρ') (ht : TV g.K H H') (ha : H' a = H a) (h : OR g ρ H a o) : OR g ρ' H' a o := by
  cases o with
  | lst ds => obtain ⟨vs, e, r⟩ := h; exact ⟨vs, ha.trans e, r.monoV hp ht⟩
  | ins c fs => obtain ⟨dx, vs, e, r⟩ := h; exact ⟨dx, vs, ha.trans e, r.monoV hp ht⟩
  | dic lk ks =>
    cases lk with
    | false => obtain ⟨vs, e, r⟩ := h; exact ⟨vs, ha.trans e, r.monoV hp ht⟩
    | true => obtain ⟨vs, o, e, r⟩ := h; exact ⟨vs, o, ha.trans e, r.monoV hp ht⟩
  | nd lk ks =>
    cases lk with
    | false => obtain ⟨vs, e, r⟩ := h; exact ⟨vs, ha.trans e, r.monoV hp ht⟩
    | true => obtain ⟨vs, o, e, r⟩ := h; exact ⟨vs, o, ha.trans e, r.monoV hp ht⟩
theorem OR.mono {a : Addr} {o : O} (hp : ρ <+: ρ') (ht : TP H H') (ha : H' a = H a) (h : OR g ρ H a o) : OR g ρ' H' a o := h.monoV hp ht.tv ha
structure HR (g : Gx) (ρ : List Addr) (L : List O) (H : Hp) : Prop where
  len : ρ.length = L.length
  nd : ρ.Nodup
  ob : ∀ (n : Nat) (o : O) (a : Addr), L[n]? = some o → ρ[n]? = some a → OR g ρ H a o
  nfx : ∀ (n : Nat) (a : Addr), ρ[n]? = some a → g.fx a = none
  fxs : ∀ (a : Addr) (u : HO), g.fx a = some u → H a = some u
theorem OR.some {a : Addr} {o : O} (h : OR g ρ H a o) : ∃ u, H a = some u := by
  cases o with
  | lst ds => obtain ⟨vs, e, r⟩ := h; exact ⟨_, e⟩
  | ins c fs => obtain ⟨dx, vs, e, r⟩ := h; exact ⟨_, e⟩
  | dic lk ks =>
    cases lk with
    | false => obtain ⟨vs, e, r⟩ := h; exact ⟨_, e⟩
    | true => obtain ⟨vs, o, e, r⟩ := h; exact ⟨_, e⟩
  | nd lk ks =>
    cases lk with
    | false => obtain ⟨vs, e, r⟩ := h; exact ⟨_, e⟩
    | true => obtain ⟨vs, o, e, r⟩ := h; exact ⟨_, e⟩
variable {L L' : List O}
theorem HR.get (h : HR g ρ L H) {n : Nat} {o : O} (e : L[n]? = some o) : ∃ a, ρ[n]? = some a ∧ OR g ρ H a o := by
  obtain ⟨hn, _⟩ := List.getElem?_eq_some_iff.mp e
  have hn' : n < ρ.length := by rw [h.len]; exact hn
  exact ⟨ρ[n], by simp [hn'], h.ob n o _ e (by simp [hn'])⟩
theorem HR.at (h : HR g ρ L H) {n : Nat} {o : O} {a : Addr} (e : L[n]? = some o) (ea : ρ[n]? = some a) : OR g ρ H a o := h.ob n o a e ea
theorem HR.there (h : HR g ρ L H) {n : Nat} {a : Addr} (ea : ρ[n]? = some a) : ∃ o, L[n]? = some o := by
  obtain ⟨hn, _⟩ := List.getElem?_eq_some_iff.mp ea
  have hn' : n < L.length := by rw [← h.len]; exact hn
  exact ⟨L[n], by simp [hn']⟩
theorem HR.ne (h : HR g ρ L H) {p : Addr} (hp : H p = none) {n : Nat} {a : Addr} (ea : ρ[n]? = some a) : a ≠ p := by
  obtain ⟨o, e⟩ := h.there ea
  obtain ⟨u, eu⟩ := (h.ob n o a e ea).some
  exact ne_of_none eu hp
/-- something is laid that is not told -/
theorem HR.keep (h : HR g ρ L H) (t : TP H H') (k : ∀ a u, H a = some u → H' a = some u) : HR g ρ L H' :=
  ⟨h.len, h.nd, fun n o a e ea => by
    have q := h.ob n o a e ea
    obtain ⟨u, hu⟩ := q.some
    exact q.mono (List.prefix_refl _) t ((k a u hu).trans hu.symm), h.nfx, fun a u e => k a u (h.fxs a u e)⟩
theorem HR.fresh (h : HR g ρ L H) {p : Addr} (hp : H p = none) (o : HO) : HR g ρ L (upd H p o) :=
  h.keep (TP.new hp) fun a u e => by rw [upd_ne (ne_of_none e hp)]; exact e
theorem pre_snoc {α : Type} (l : List α) (a : α) : l <+: l ++ [a] := ⟨[a], rfl⟩
/-- a new object is laid and told -/
theorem HR.new (h : HR g ρ L H) {p : Addr} (hp : H p = none) {u : HO} {o : O} (ho : OR g (ρ ++ [p]) (upd H p u) p o) : HR g (ρ ++ [p]) (L ++ [o]) (upd H p u) := by
  refine ⟨by simp [h.len], ?_, fun n o' a e ea => ?_, fun n a ea => ?_, fun a u e => by rw [upd_ne (ne_of_none (h.fxs a u e) hp)]; exact h.fxs a u e⟩
  · rw [List.nodup_append]
    refine ⟨h.nd, by simp, fun a ha b hb => ?_⟩
    obtain ⟨n, hn⟩ := List.getElem?_of_mem ha
    have : b = p := by simpa using hb
    rw [this]
    exact h.ne hp hn
  · by_cases hn : n < L.length
    · rw [List.getElem?_append_left hn] at e
      rw [List.getElem?_append_left (by rw [h.len]; exact hn)] at ea
      exact (h.ob n o' a e ea).mono (pre_snoc _ _) (TP.new hp) (upd_ne (h.ne hp ea))
    · have hz : n = L.length := by
        obtain ⟨hn', _⟩ := List.getElem?_eq_some_iff.mp e
        simp at hn'; omega
      subst hz
      rw [List.getElem?_append_right (Nat.le_refl _)] at e
      rw [← h.len, List.getElem?_append_right (Nat.le_refl _)] at ea
      simp at e ea
      subst e; subst ea
      exact ho
  · by_cases hn : n < ρ.length
    · rw [List.getElem?_append_left hn] at ea
      exact h.nfx n a ea
    · rw [List.getElem?_append_right (by omega)] at ea
      have e1 : a = p := by
        obtain ⟨q, e2⟩ := List.getElem?_eq_some_iff.mp ea
        simpa using e2.symm
      subst e1
      cases hf : g.fx a with
      | none => rfl
      | some u => rw [h.fxs a u hf] at hp; cases hp
theorem nodup_get {α : Type} {l : List α} (h : l.Nodup) {i j : Nat} {a : α} (e1 : l[i]? = some a) (e2 : l[j]? = some a) : i = j := by
  obtain ⟨h1, e1⟩ := List.getElem?_eq_some_iff.mp e1
  obtain ⟨h2, e2⟩ := List.getElem?_eq_some_iff.mp e2
  exact (List.getElem_inj h).mp (e1.trans e2.symm)
/-- an object is changed -/
theorem HR.set (h : HR g ρ L H) {n : Nat} {a : Addr} (ea : ρ[n]? = some a) {u w : HO} (hu : H a = some w) (m : MutO w = true) {o : O} (ho : OR g ρ (upd H a u) a o) : HR g ρ (L.set n o) (upd H a u) := by
  refine ⟨by simp [h.len], h.nd, fun n' o' b e eb => ?_, h.nfx, fun b w' e => by rw [upd_ne (fun z => by rw [z, h.nfx n a ea] at e; cases e)]; exact h.fxs b w' e⟩
  by_cases hn : n = n'
  · subst hn
    rw [ea] at eb; cases eb
    have hlt : n < L.length := by
      obtain ⟨q, _⟩ := List.getElem?_eq_some_iff.mp ea
      rw [← h.len]; exact q
    rw [List.getElem?_set_self hlt] at e
    cases e
    exact ho
  · rw [List.getElem?_set_ne hn] at e
    have hb : b ≠ a := by rintro rfl; exact hn (nodup_get h.nd ea eb)
    exact (h.ob n' o' b e eb).mono (List.prefix_refl _) (TP.mut hu m) (upd_ne hb)

/-! ### what comes of a piece -/
inductive Rs (α : Type) where
  | ok (a : α) (L : List O) | ex (c : Nat) (fs : List (Str × D)) (L : List O) | bad
abbrev En := List (Option D)
abbrev ME := En → List O → Rs D
abbrev MB := En → List O → Rs Bool
abbrev MA := En → List O → Rs (List D)
def Rs.bind {α β : Type} (r : Rs α) (f : α → List O → Rs β) : Rs β := match r with
  | .ok a L => f a L
  | .ex c fs L => .ex c fs L
  | .bad => .bad
/-- an operation on values: it gives a value and a heap, or is not asked here -/
abbrev OD := Option (D × List O)
def ofO : OD → Rs D
  | some (d, L) => .ok d L
  | none => .bad
/-- the slots -/
def ER (g : Gx) (ρ : List Addr) (H : Hp) (σ : L2.St) (ε : En) : Prop := ε.length = σ.length ∧ ∀ (i : Nat) (d : D), ε[i]? = some (some d) → ∃ v, σ[i]? = some (some v) ∧ VR g ρ H d v
theorem ER.mono {σ : L2.St} {ε : En} (hp : ρ <+: ρ') (ht : TP H H') (e : ER g ρ H σ ε) : ER g ρ' H' σ ε :=
  ⟨e.1, fun i d q => let ⟨v, a, b⟩ := e.2 i d q; ⟨v, a, b.mono hp ht⟩⟩
theorem ER.set {σ : L2.St} {ε : En} {d : D} {v : V} (e : ER g ρ H σ ε) (i : Nat) (r : VR g ρ H d v) : ER g ρ H (σ.set i (some v)) (ε.set i (some d)) := by
  refine ⟨by simp [e.1], fun j d' q => ?_⟩
  by_cases hj : i = j
  · subst hj
    have hi : i < ε.length := by
      obtain ⟨q, _⟩ := List.getElem?_eq_some_iff.mp q
      simpa using q
    rw [List.getElem?_set_self hi] at q
    cases q
    exact ⟨v, by rw [List.getElem?_set_self (by rw [← e.1]; exact hi)], r⟩
  · rw [List.getElem?_set_ne hj] at q
    obtain ⟨u, a, b⟩ := e.2 j d' q
    exact ⟨u, by rw [List.getElem?_set_ne hj]; exact a, b⟩
theorem ER.wipe {σ : L2.St} {ε : En} (e : ER g ρ H σ ε) (i : Nat) : ER g ρ H (σ.set i none) (ε.set i none) := by
  refine ⟨by simp [e.1], fun j d' q => ?_⟩
  by_cases hj : i = j
  · subst hj
    have hi : i < ε.length := by
      obtain ⟨q, _⟩ := List.getElem?_eq_some_iff.mp q
      simpa using q
    rw [List.getElem?_set_self hi] at q
    cases q
  · rw [List.getElem?_set_ne hj] at q
    obtain ⟨u, a, b⟩ := e.2 j d' q
    exact ⟨u, by rw [List.getElem?_set_ne hj]; exact a, b⟩
/-- an exception's own dict -/
def XR (g : Gx) (ρ : List Addr) (H : Hp) (fs : List (Str × D)) (dx : Option Addr) : Prop := (fs = [] ∧ dx = none) ∨ ∃ d vs, dx = some d ∧ H d = some (.xd vs) ∧ FR g ρ H fs vs
/-- what is to be shown of a piece's end -/
def Lf {α β : Type} (g : Gx) (ρ : List Addr) (H : Hp) (σ : L2.St) (W : WX) (rel : List Addr → Hp → α → β → Prop) (r : Rs α) (Q : β → Hp → Prop) : Prop := match r with
  | .ok d L' => ∀ v ρ' H', ρ <+: ρ' → TP H H' → HR g ρ' L' H' → rel ρ' H' d v → Q v H'
  | .ex c fs L' => ∀ ρ' H' dx, ρ <+: ρ' → TP H H' → HR g ρ' L' H' → XR g ρ' H' fs dx → W (.ref (g.cm c)) dx σ H'
  | .bad => False
abbrev LfD (g : Gx) (ρ : List Addr) (H : Hp) (σ : L2.St) (W : WX) (r : Rs D) (Q : VK) : Prop := Lf g ρ H σ W (VR g) r Q
def relB : List Addr → Hp → Bool → Bool → Prop := fun _ _ a b => a = b
abbrev LfB (g : Gx) (ρ : List Addr) (H : Hp) (σ : L2.St) (W : WX) (r : Rs Bool) (Q : Bool → Hp → Prop) : Prop := Lf g ρ H σ W relB r Q
abbrev LfA (g : Gx) (ρ : List Addr) (H : Hp) (σ : L2.St) (W : WX) (r : Rs (List D)) (Q : List V → Hp → Prop) : Prop := Lf g ρ H σ W (VRs g) r Q
/-- a piece's reading: from data that stand -/
def tM (g : Gx) (W : WX) (m : ME) : TE := fun σ H Q => ∃ ε ρ L, ER g ρ H σ ε ∧ HR g ρ L H ∧ LfD g ρ H σ W (m ε L) Q
def tMB (g : Gx) (W : WX) (m : MB) : TT := fun σ H Q => ∃ ε ρ L, ER g ρ H σ ε ∧ HR g ρ L H ∧ LfB g ρ H σ W (m ε L) Q
def tMA (g : Gx) (W : WX) (m : MA) : TA := fun σ H Q => ∃ ε ρ L, ER g ρ H σ ε ∧ HR g ρ L H ∧ LfA g ρ H σ W (m ε L) Q
section
variable {α β γ δ : Type} {σ : L2.St} {W : WX} {rel : List Addr → Hp → α → β → Prop} {rel2 : List Addr → Hp → γ → δ → Prop} {r : Rs α} {f : α → List O → Rs γ} {Q : δ → Hp → Prop} {Q1 : β → Hp → Prop}
/-- the first part of two: what is wanted of the first is that the second's end holds -/
theorem Lf.bind (h : Lf g ρ H σ W rel2 (r.bind f) Q) (k : ∀ a L' v ρ' H', r = .ok a L' → ρ <+: ρ' → TP H H' → HR g ρ' L' H' → rel ρ' H' a v → Lf g ρ' H' σ W rel2 (f a L') Q → Q1 v H') : Lf g ρ H σ W rel r Q1 := by
  cases r with
  | ok a L' =>
    intro v ρ' H' hp ht hh hr
    refine k a L' v ρ' H' rfl hp ht hh hr ?_
    have h' : Lf g ρ H σ W rel2 (f a L') Q := h
    cases hf : f a L' with
    | ok b L2 =>
      rw [hf] at h'
      intro u ρ2 H2 p2 t2 h2 r2
      exact h' u ρ2 H2 (hp.trans p2) (ht.trans t2) h2 r2
    | ex c fs L2 =>
      rw [hf] at h'
      intro ρ2 H2 dx p2 t2 h2 r2
      exact h' ρ2 H2 dx (hp.trans p2) (ht.trans t2) h2 r2
    | bad => rw [hf] at h'; exact h'.elim
  | ex c fs L' => exact h
  | bad => exact h
theorem Lf.imp {Q2 : β → Hp → Prop} (h : Lf g ρ H σ W rel r Q1) (k : ∀ v H', Q1 v H' → Q2 v H') : Lf g ρ H σ W rel r Q2 := by
  cases r with
  | ok a L' => intro v ρ' H' hp ht hh hr; exact k _ _ (h v ρ' H' hp ht hh hr)
  | ex c fs L' => exact h
  | bad => exact h
end
/-- a reading may be replaced by one that asks more -/
theorem _root_.L2.PE.imp {X : Cx} {e : Expr} {t t' : TE} (h : PE X e t) (k : ∀ σ H Q, t' σ H Q → t σ H Q) : PE X e t' := ⟨fun pins s σ H Q I q => h.run pins s σ H Q I (k σ H Q q)⟩
theorem _root_.L2.PT.imp {X : Cx} {e : Expr} {t t' : TT} (h : PT X e t) (k : ∀ σ H Q, t' σ H Q → t σ H Q) : PT X e t' := ⟨fun pins s σ H Q I q => h.run pins s σ H Q I (k σ H Q q)⟩
theorem _root_.L2.PA.imp {X : Cx} {es : List Expr} {t t' : TA} (h : PA X es t) (k : ∀ σ H Q, t' σ H Q → t σ H Q) : PA X es t' := ⟨fun pos pins s σ H Q I q => h.run pos pins s σ H Q I (k σ H Q q)⟩
theorem _root_.L2.PS.imp {X : Cx} {st : Stmt} {t t' : TS} (h : PS X st t) (k : ∀ D σ H, t' D σ H → t D σ H) : PS X st t' := ⟨fun pins s σ H D I q => h.run pins s σ H D I (k D σ H q)⟩
theorem _root_.L2.PSs.imp {X : Cx} {st : List Stmt} {t t' : TS} (h : PSs X st t) (k : ∀ D σ H, t' D σ H → t D σ H) : PSs X st t' := ⟨fun pins s σ H D I q => h.run pins s σ H D I (k D σ H q)⟩

/-! ### names, constants -/
section
variable {X : Cx} {W : WX}
def mC (d : D) : ME := fun _ L => .ok d L
def mVar (i : Nat) : ME := fun ε L => match ε[i]? with
  | some (some d) => .ok d L
  | _ => .bad
theorem se_var {i : Nat} {e : Expr} (h : PE X e (tVar i)) : PE X e (tM g W (mVar i)) := h.imp fun σ H Q q => by
  obtain ⟨ε, ρ, L, he, hh, q⟩ := q
  unfold mVar at q
  split at q
  · rename_i d hd
    obtain ⟨v, hv, r⟩ := he.2 i d hd
    exact ⟨v, hv, q v ρ H (List.prefix_refl _) (TP.refl H) hh r⟩
  · exact q.elim
/-- a constant: what VR says of it holds everywhere -/
theorem se_c {e : Expr} {d : D} {v : V} (h : PE X e (tC v)) (r : ∀ ρ H, VR g ρ H d v) : PE X e (tM g W (mC d)) := h.imp fun σ H Q q => by
  obtain ⟨ε, ρ, L, he, hh, q⟩ := q
  exact q v ρ H (List.prefix_refl _) (TP.refl H) hh (r ρ H)
theorem se_int {i : Int} {j pos} : PE X (.Constant (.int i) j pos) (tM g W (mC (.int i))) := se_c pe_int fun _ _ => .int i
theorem se_bl {b : Bool} {j pos} : PE X (.Constant (.bool b) j pos) (tM g W (mC (.bl b))) := se_c pe_bl fun _ _ => .bl b
theorem se_str {x : Str} {j pos} : PE X (.Constant (.str x) j pos) (tM g W (mC (.str x))) := se_c pe_str fun _ _ => .str x
theorem se_non {j pos} : PE X (.Constant .none j pos) (tM g W (mC .non)) := se_c pe_non fun _ _ => .non

/-! ### operations on two values -/
/-- what is to be shown of an operation -/
def LfO (g : Gx) (ρ : List Addr) (H : Hp) (r : OD) (Q : VK) : Prop := match r with
  | some (d, L') => ∀ v ρ' H', ρ <+: ρ' → TP H H' → HR g ρ' L' H' → VR g ρ' H' d v → Q v H'
  | none => False
abbrev O2 := D → D → List O → OD
def rM (g : Gx) (o : O2) : R2 := fun x y H Q => ∃ ρ L d e, HR g ρ L H ∧ VR g ρ H d x ∧ VR g ρ H e y ∧ LfO g ρ H (o d e L) Q
def mOp2 (o : O2) (a b : ME) : ME := fun ε L => (a ε L).bind fun x L1 => (b ε L1).bind fun y L2 => ofO (o x y L2)
theorem LfO.of {σ : L2.St} {r : OD} {Q : VK} (h : LfD g ρ H σ W (ofO r) Q) : LfO g ρ H r Q := by
  cases r with
  | none => exact h
  | some p => exact h
theorem tM_op2 {o : O2} {a b : ME} {σ : L2.St} {Q : VK} (q : tM g W (mOp2 o a b) σ H Q) : tM g W a σ H fun x H1 => tM g W b σ H1 fun y H2 => rM g o x y H2 Q := by
  obtain ⟨ε, ρ, L, he, hh, q⟩ := q
  refine ⟨ε, ρ, L, he, hh, Lf.bind q fun x L1 v ρ1 H1 _ p1 t1 h1 r1 q1 => ?_⟩
  refine ⟨ε, ρ1, L1, he.mono p1 t1, h1, Lf.bind q1 fun y L2 u ρ2 H2 _ p2 t2 h2 r2 q2 => ?_⟩
  exact ⟨ρ2, L2, x, y, h2, r1.mono p2 t2, r2, LfO.of q2⟩
theorem se_op {o : O2} {op : Operator} {ea eb : Expr} {a b : ME} {pos} (ho : OpR X (binaryOp op) (rM g o)) (ha : PE X ea (tM g W a)) (hb : PE X eb (tM g W b)) : PE X (.BinOp ea op eb pos) (tM g W (mOp2 o a b)) :=
  (pe_op ho ha hb).imp fun _ _ _ q => tM_op2 q
end
end Tw
end

section
set_option Elab.async false
set_option linter.all false
set_option maxRecDepth 100000
set_option maxHeartbeats 1000000
/-! Tw, part B: operators, comparisons, subscripts by values. -/
namespace Tw
open PySem PySem.Spec L2
variable {g : Gx} {ρ ρ' : List Addr} {H H' : Hp} {X : Cx} {W : WX} {L : List O} {cm : Nat → Addr} {fx : Hp}

/-! ### arithmetic -/
def mulOk (i j : Int) : Bool := decide (-(2 ^ 64) < i ∧ i < 2 ^ 64) || decide (-(2 ^ 64) < j ∧ j < 2 ^ 64) || decide (i.natAbs.log2 + j.natAbs.log2 < 1000000)
def oAdd : O2 := fun x y L => match x, y with
  | .int i, .int j => some (.int (i + j), L)
  | .str a, .str b => if a.length + b.length ≤ sizeLine then some (.str (a ++ b), L) else none
  | .tup xs, .tup ys => if xs.length + ys.length ≤ sizeLine then some (.tup (xs ++ ys), L) else none
  | .ref n, .ref m => match L[n]?, L[m]? with
    | some (.lst xs), some (.lst ys) => if xs.length + ys.length ≤ sizeLine then some (.ref L.length, L ++ [.lst (xs ++ ys)]) else none
    | _, _ => none
  | _, _ => none
def oSub : O2 := fun x y L => match x, y with
  | .int i, .int j => some (.int (i - j), L)
  | _, _ => none
def oMul : O2 := fun x y L => match x, y with
  | .int i, .int j => if mulOk i j then some (.int (i * j), L) else none
  | .ref n, .int k => match L[n]? with
    | some (.lst xs) => if -(2 ^ 63) ≤ k ∧ k < 2 ^ 63 ∧ xs.length * k.toNat ≤ sizeLine then some (.ref L.length, L ++ [.lst (List.replicate k.toNat xs).flatten]) else none
    | _ => none
  | .tup xs, .int k => if xs ≠ [] ∧ 2 ≤ k ∧ k ≤ 1000 ∧ xs.length ≤ 1000 then some (.tup (List.replicate k.toNat xs).flatten, L) else none
  | _, _ => none
def oFdiv : O2 := fun x y L => match x, y with
  | .int i, .int j => if j ≠ 0 ∧ j.natAbs < 1073741824 then some (.int (i.fdiv j), L) else none
  | _, _ => none
def oMod : O2 := fun x y L => match x, y with
  | .int i, .int j => if j ≠ 0 then some (.int (i.fmod j), L) else none
  | _, _ => none
def oPow : O2 := fun x y L => match x, y with
  | .int i, .int j => if 0 ≤ j ∧ j ≤ 1000000 ∧ i.natAbs < 2 ^ 64 then some (.int (i ^ j.toNat), L) else none
  | _, _ => none

/-- nothing is laid -/
theorem LfO.same {d : D} {v : V} {Q : VK} (h : LfO g ρ H (some (d, L)) Q) (hh : HR g ρ L H) (r : VR g ρ H d v) : Q v H := h v ρ H (List.prefix_refl _) (TP.refl H) hh r
/-- a new list -/
theorem LfO.newL {ds : List D} {vs : List V} {Q : VK} (h : LfO g ρ H (some (.ref L.length, L ++ [.lst ds])) Q) (hh : HR g ρ L H) (r : VRs g ρ H ds vs) {p : Addr} (hp : H p = none) : Q (.ref p) (upd H p (.lst vs)) := by
  refine h _ (ρ ++ [p]) _ (pre_snoc _ _) (TP.new hp) (hh.new hp ⟨vs, upd_same, r.mono (pre_snoc _ _) (TP.new hp)⟩) (.ref ?_)
  rw [← hh.len]
  simp
/-- a new tuple -/
theorem LfO.newT {ds : List D} {vs : List V} {Q : VK} (h : LfO g ρ H (some (.tup ds, L)) Q) (hh : HR g ρ L H) (r : VRs g ρ H ds vs) {p : Addr} (hp : H p = none) : Q (.ref p) (upd H p (.tup vs)) :=
  h _ ρ _ (List.prefix_refl _) (TP.new hp) (hh.fresh hp _) (.tup (.inl upd_same) (r.mono (List.prefix_refl _) (TP.new hp)))
theorem HR.lst (hh : HR g ρ L H) {n : Nat} {xs : List D} (e : L[n]? = some (.lst xs)) {a : Addr} (ea : ρ[n]? = some a) : ∃ vs, H a = some (.lst vs) ∧ VRs g ρ H xs vs := hh.ob n _ a e ea

theorem op_oAdd : OpR X (binaryOp .Add) (rM ⟨X.K, cm, fx, X.w⟩ oAdd) := by
  have h := (op_add (X := X)).or (op_add_str.or (op_catA.or op_cat))
  intro pins s σ H x y v u Q I rx ry q
  refine h pins s σ H x y v u Q I rx ry ?_
  obtain ⟨ρ, L, d, e, hh, r1, r2, q⟩ := q
  unfold oAdd at q
  split at q
  · cases r1; cases r2
    exact .inl ⟨_, _, rfl, rfl, q.same hh (.int _)⟩
  · cases r1; cases r2
    split at q
    · rename_i hz
      exact .inr (.inl ⟨_, _, rfl, rfl, hz, q.same hh (.str _)⟩)
    · exact q.elim
  · cases r1 with
    | tup s1 t1 =>
      cases r2 with
      | tup s2 t2 =>
        split at q
        · rename_i hz
          rw [t1.length, t2.length] at hz
          refine .inr (.inr (.inl ⟨_, _, _, _, rfl, rfl, s1.sq, s2.sq, hz, fun e => ?_, fun _ e => ?_, fun _ _ p hp => ?_⟩))
          · subst e
            cases t1
            exact q.same hh (.tup s2 (by simpa using t2))
          · subst e
            cases t2
            exact q.same hh (.tup s1 (by simpa using t1))
          · exact q.newT hh (t1.append t2) hp
        · exact q.elim
  · cases r1 with
    | ref e1 =>
      cases r2 with
      | ref e2 =>
        split at q
        · rename_i xs ys h1 h2
          obtain ⟨vs, a1, b1⟩ := hh.lst h1 e1
          obtain ⟨us, a2, b2⟩ := hh.lst h2 e2
          split at q
          · rename_i hz
            rw [b1.length, b2.length] at hz
            exact .inr (.inr (.inr ⟨_, _, _, _, rfl, rfl, a1, a2, hz, fun p hp => q.newL hh (b1.append b2) hp⟩))
          · exact q.elim
        · exact q.elim
  · exact q.elim
theorem op_oSub : OpR X (binaryOp .Sub) (rM g oSub) := by
  intro pins s σ H x y v u Q I rx ry q
  refine op_sub pins s σ H x y v u Q I rx ry ?_
  obtain ⟨ρ, L, d, e, hh, r1, r2, q⟩ := q
  unfold oSub at q
  split at q
  · cases r1; cases r2
    exact ⟨_, _, rfl, rfl, q.same hh (.int _)⟩
  · exact q.elim
theorem VRs.rep {ds : List D} {vs : List V} (r : VRs g ρ H ds vs) : ∀ k : Nat, VRs g ρ H (List.replicate k ds).flatten (List.replicate k vs).flatten
  | 0 => .nil
  | k + 1 => by simp only [List.replicate_succ, List.flatten_cons]; exact r.append (VRs.rep r k)
theorem op_oMul : OpR X (binaryOp .Mult) (rM ⟨X.K, cm, fx, X.w⟩ oMul) := by
  have h := (op_mul (X := X)).or (op_mulW.or (op_rep.or op_repT))
  intro pins s σ H x y v u Q I rx ry q
  refine h pins s σ H x y v u Q I rx ry ?_
  obtain ⟨ρ, L, d, e, hh, r1, r2, q⟩ := q
  unfold oMul at q
  split at q
  · cases r1; cases r2
    split at q
    · rename_i hz
      unfold mulOk at hz
      simp only [Bool.or_eq_true, decide_eq_true_eq] at hz
      have q' := q.same hh (.int _)
      rcases hz with (hz | hz) | hz
      · exact .inl ⟨_, _, rfl, rfl, .inl hz, q'⟩
      · exact .inl ⟨_, _, rfl, rfl, .inr hz, q'⟩
      · exact .inr (.inl ⟨_, _, rfl, rfl, hz, q'⟩)
    · exact q.elim
  · cases r1 with
    | ref e1 =>
      cases r2
      split at q
      · rename_i xs h1
        obtain ⟨vs, a1, b1⟩ := hh.lst h1 e1
        split at q
        · rename_i hz
          rw [b1.length] at hz
          exact .inr (.inr (.inl ⟨_, _, _, rfl, rfl, a1, hz.1, hz.2.1, hz.2.2, fun p hp => q.newL hh (b1.rep _) hp⟩))
        · exact q.elim
      · exact q.elim
  · cases r1 with
    | tup s1 t1 =>
      cases r2
      split at q
      · rename_i hz
        have hn : _ ≠ [] := hz.1
        refine .inr (.inr (.inr ⟨_, _, _, rfl, rfl, s1.sq, ?_, hz.2.1, hz.2.2.1, by rw [← t1.length]; exact hz.2.2.2, fun p hp => q.newT hh (t1.rep _) hp⟩))
        intro e
        subst e
        cases t1
        exact hn rfl
      · exact q.elim
  · exact q.elim
theorem op_oFdiv : OpR X (binaryOp .FloorDiv) (rM g oFdiv) := by
  intro pins s σ H x y v u Q I rx ry q
  refine op_fdivN pins s σ H x y v u Q I rx ry ?_
  obtain ⟨ρ, L, d, e, hh, r1, r2, q⟩ := q
  unfold oFdiv at q
  split at q
  · cases r1; cases r2
    split at q
    · rename_i hz
      exact ⟨_, _, rfl, rfl, hz, q.same hh (.int _)⟩
    · exact q.elim
  · exact q.elim
theorem op_oMod : OpR X (binaryOp .Mod) (rM g oMod) := by
  intro pins s σ H x y v u Q I rx ry q
  refine op_modN pins s σ H x y v u Q I rx ry ?_
  obtain ⟨ρ, L, d, e, hh, r1, r2, q⟩ := q
  unfold oMod at q
  split at q
  · cases r1; cases r2
    split at q
    · rename_i hz
      exact ⟨_, _, rfl, rfl, hz, q.same hh (.int _)⟩
    · exact q.elim
  · exact q.elim
theorem op_oPow : OpR X (binaryOp .Pow) (rM g oPow) := by
  intro pins s σ H x y v u Q I rx ry q
  refine op_pow pins s σ H x y v u Q I rx ry ?_
  obtain ⟨ρ, L, d, e, hh, r1, r2, q⟩ := q
  unfold oPow at q
  split at q
  · cases r1; cases r2
    split at q
    · rename_i hz
      exact ⟨_, _, rfl, rfl, hz, q.same hh (.int _)⟩
    · exact q.elim
  · exact q.elim
def oNeg : D → List O → OD := fun x L => match x with
  | .int i => some (.int (-i), L)
  | _ => none
def mOp1 (o : D → List O → OD) (a : ME) : ME := fun ε L => (a ε L).bind fun x L1 => ofO (o x L1)
theorem tM_op1 {o : D → List O → OD} {a : ME} {σ : L2.St} {Q : VK} (q : tM g W (mOp1 o a) σ H Q) : tM g W a σ H fun x H1 => ∃ ρ L d, HR g ρ L H1 ∧ VR g ρ H1 d x ∧ LfO g ρ H1 (o d L) Q := by
  obtain ⟨ε, ρ, L, he, hh, q⟩ := q
  refine ⟨ε, ρ, L, he, hh, Lf.bind q fun x L1 v ρ1 H1 _ p1 t1 h1 r1 q1 => ?_⟩
  exact ⟨ρ1, L1, x, h1, r1, LfO.of q1⟩
theorem se_neg {ea : Expr} {a : ME} {pos} (ha : PE X ea (tM g W a)) : PE X (.UnaryOp .USub ea pos) (tM g W (mOp1 oNeg a)) :=
  (pe_un un_neg ha).imp fun σ H Q q => by
    obtain ⟨ε, ρ, L, he, hh, q⟩ := tM_op1 q
    refine ⟨ε, ρ, L, he, hh, q.imp fun v H' q => ?_⟩
    obtain ⟨ρ, L, d, hh, r, q⟩ := q
    unfold oNeg at q
    split at q
    · cases r
      exact ⟨_, rfl, q.same hh (.int _)⟩
    · exact q.elim

/-! ### == and != of data -/
def optAll {α β : Type} (f : α → Option β) : List α → Option (List β)
  | [] => some []
  | x :: xs => match f x, optAll f xs with
    | some y, some ys => some (y :: ys)
    | _, _ => none
def toPy (L : List O) : Nat → D → Option PyData
  | 0, _ => none
  | n + 1, d => match d with
    | .non => some .none
    | .bl b => some (.bool b)
    | .int i => some (.int i)
    | .str x => some (.str x)
    | .tup ds => (optAll (toPy L n) ds).map .tuple
    | .rol ds => (optAll (toPy L n) ds).map .list
    | .ref k => match L[k]? with
      | some (.lst ds) => (optAll (toPy L n) ds).map .list
      | _ => none
    | .cls _ => none
    | .ty _ => none
theorem toPy_ok (hh : HR g ρ L H) : ∀ (n : Nat) (d : D) (p : PyData) (v : V), toPy L n d = some p → VR g ρ H d v → Dp g.K H v p
  | 0, _, _, _, e, _ => by cases e
  | n + 1, d, p, v, e, r => by
    have all : ∀ (ds : List D) (ps : List PyData) (vs : List V), optAll (toPy L n) ds = some ps → VRs g ρ H ds vs → DpAll g.K H vs ps := by
      intro ds
      induction ds with
      | nil => intro ps vs e r; cases r; cases e; exact .nil
      | cons d ds ih =>
        intro ps vs e r
        cases r with
        | cons r t =>
          unfold optAll at e
          split at e
          · rename_i y ys h1 h2
            cases e
            exact .cons (toPy_ok hh n d y _ h1 r) (ih ys _ h2 t)
          · cases e
    cases r with
    | non => cases e; exact .non
    | bl b => cases e; exact .bl b
    | int i => cases e; exact .int i
    | str x => cases e; exact .str x
    | cls c => cases e
    | ty c => cases e
    | @tup ds a vs s t =>
      unfold toPy at e
      simp only at e
      cases h : optAll (toPy L n) ds with
      | none => rw [h] at e; cases e
      | some ps => rw [h] at e; cases e; exact .tup s.sq (all ds ps vs h t)
    | @rol ds a vs s t =>
      unfold toPy at e
      simp only at e
      cases h : optAll (toPy L n) ds with
      | none => rw [h] at e; cases e
      | some ps => rw [h] at e; cases e; exact .lst s.seq (all ds ps vs h t)
    | @ref k a ea =>
      unfold toPy at e
      simp only at e
      split at e
      · rename_i ds h1
        obtain ⟨vs, b1, b2⟩ := hh.lst h1 ea
        cases h : optAll (toPy L n) ds with
        | none => rw [h] at e; cases e
        | some ps => rw [h] at e; cases e; exact .lst (SqL.of b1) (all ds ps vs h b2)
      · cases e
def pyDeep : Nat := 16
def eqData (L : List O) (x y : D) : Option Bool := match toPy L pyDeep x, toPy L pyDeep y with
  | some p, some q => if SeqAt.shaped p = true ∧ SeqAt.shaped q = true then some (PyData.eqv p q) else none
  | _, _ => none
def oEq : O2 := fun x y L => (eqData L x y).map fun b => (.bl b, L)
def oNe : O2 := fun x y L => (eqData L x y).map fun b => (.bl (!b), L)
theorem op_oEq (hu : X.A.units + 64 < cLine) : OpR X (compareOp .Eq) (rM ⟨X.K, cm, fx, X.w⟩ oEq) := by
  intro pins s σ H x y v u Q I rx ry q
  refine op_eqD hu pins s σ H x y v u Q I rx ry ?_
  obtain ⟨ρ, L, d, e, hh, r1, r2, q⟩ := q
  unfold oEq eqData at q
  split at q
  · rename_i p q' h1 h2
    split at q
    · rename_i hz
      exact ⟨p, q', toPy_ok hh _ _ _ _ h1 r1, toPy_ok hh _ _ _ _ h2 r2, hz.1, hz.2, LfO.same q hh (.bl _)⟩
    · exact q.elim
  · exact q.elim
theorem op_oNe (hu : X.A.units + 64 < cLine) : OpR X (compareOp .NotEq) (rM ⟨X.K, cm, fx, X.w⟩ oNe) := by
  intro pins s σ H x y v u Q I rx ry q
  refine op_neD hu pins s σ H x y v u Q I rx ry ?_
  obtain ⟨ρ, L, d, e, hh, r1, r2, q⟩ := q
  unfold oNe eqData at q
  split at q
  · rename_i p q' h1 h2
    split at q
    · rename_i hz
      exact ⟨p, q', toPy_ok hh _ _ _ _ h1 r1, toPy_ok hh _ _ _ _ h2 r2, hz.1, hz.2, LfO.same q hh (.bl _)⟩
    · exact q.elim
  · exact q.elim
/-! ### order of ints -/
def oCmp (p : Int → Int → Bool) : O2 := fun x y L => match x, y with
  | .int i, .int j => some (.bl (p i j), L)
  | _, _ => none
theorem oCmp_ok {p : Int → Int → Bool} {x y : V} {Q : VK} (q : rM g (oCmp p) x y H Q) : ∃ i j, x = .int i ∧ y = .int j ∧ Q (.bl (p i j)) H := by
  obtain ⟨ρ, L, d, e, hh, r1, r2, q⟩ := q
  unfold oCmp at q
  split at q
  · cases r1; cases r2
    exact ⟨_, _, rfl, rfl, q.same hh (.bl _)⟩
  · exact q.elim
def oLt : O2 := oCmp fun i j => decide (i < j)
def oLe : O2 := oCmp fun i j => decide (i ≤ j)
def oGt : O2 := oCmp fun i j => decide (j < i)
def oGe : O2 := oCmp fun i j => decide (j ≤ i)
theorem op_oLt : OpR X (compareOp .Lt) (rM g oLt) := fun pins s σ H x y v u Q I rx ry q => op_lt pins s σ H x y v u Q I rx ry (oCmp_ok q)
theorem op_oLe : OpR X (compareOp .LtE) (rM g oLe) := fun pins s σ H x y v u Q I rx ry q => op_le pins s σ H x y v u Q I rx ry (oCmp_ok q)
theorem op_oGt : OpR X (compareOp .Gt) (rM g oGt) := fun pins s σ H x y v u Q I rx ry q => op_gt pins s σ H x y v u Q I rx ry (oCmp_ok q)
theorem op_oGe : OpR X (compareOp .GtE) (rM g oGe) := fun pins s σ H x y v u Q I rx ry q => op_ge pins s σ H x y v u Q I rx ry (oCmp_ok q)
/-! ### is None -/
def oIsN : O2 := fun x y L => match y with
  | .non => some (.bl (match x with | .non => true | _ => false), L)
  | _ => none
def oNotN : O2 := fun x y L => match y with
  | .non => some (.bl (match x with | .non => false | _ => true), L)
  | _ => none
theorem op_oIsN : OpR X (compareOp .Is) (rM g oIsN) := fun pins s σ H x y v u Q I rx ry q => op_isN pins s σ H x y v u Q I rx ry (by
  obtain ⟨ρ, L, d, e, hh, r1, r2, q⟩ := q
  unfold oIsN at q
  split at q
  · cases r2
    refine ⟨rfl, ?_⟩
    cases r1 <;> exact q.same hh (.bl _)
  · exact q.elim)
theorem op_oNotN : OpR X (compareOp .IsNot) (rM g oNotN) := fun pins s σ H x y v u Q I rx ry q => op_notN pins s σ H x y v u Q I rx ry (by
  obtain ⟨ρ, L, d, e, hh, r1, r2, q⟩ := q
  unfold oNotN at q
  split at q
  · cases r2
    refine ⟨rfl, ?_⟩
    cases r1 <;> exact q.same hh (.bl _)
  · exact q.elim)
/-! ### is True -/
def oIsB : O2 := fun x y L => match x, y with
  | .bl a, .bl b => some (.bl (decide (a = b)), L)
  | _, _ => none
def oNotB : O2 := fun x y L => match x, y with
  | .bl a, .bl b => some (.bl (!decide (a = b)), L)
  | _, _ => none
theorem op_oIsB : OpR X (compareOp .Is) (rM g oIsB) := fun pins s σ H x y v u Q I rx ry q => op_isBl pins s σ H x y v u Q I rx ry (by
  obtain ⟨ρ, L, d, e, hh, r1, r2, q⟩ := q
  unfold oIsB at q
  split at q
  · cases r1; cases r2
    exact ⟨_, _, rfl, rfl, q.same hh (.bl _)⟩
  · exact q.elim)
theorem op_oNotB : OpR X (compareOp .IsNot) (rM g oNotB) := fun pins s σ H x y v u Q I rx ry q => op_notBl pins s σ H x y v u Q I rx ry (by
  obtain ⟨ρ, L, d, e, hh, r1, r2, q⟩ := q
  unfold oNotB at q
  split at q
  · cases r1; cases r2
    exact ⟨_, _, rfl, rfl, q.same hh (.bl _)⟩
  · exact q.elim)
end Tw
end

section
set_option Elab.async false
set_option linter.all false
set_option maxRecDepth 100000
set_option maxHeartbeats 1000000
/-! Tw, part C: in, subscripts, slices, displays, tests, attributes. -/
namespace Tw
open PySem PySem.Spec L2
variable {g : Gx} {ρ ρ' : List Addr} {H H' : Hp} {X : Cx} {W : WX} {L : List O} {cm : Nat → Addr} {fx : Hp}

/-! ### in -/
def flatD : D → Bool
  | .non => true | .bl _ => true | .int _ => true | .str _ => true | _ => false
def eqF : D → D → Bool
  | .non, .non => true
  | .bl a, .bl b => a == b
  | .bl a, .int b => (if a then 1 else 0) == b
  | .int a, .bl b => a == (if b then 1 else 0)
  | .int a, .int b => a == b
  | .str a, .str b => a == b
  | _, _ => false
theorem flatD_ok {d : D} {v : V} (r : VR g ρ H d v) : flatV v = flatD d := by cases r <;> rfl
theorem flatDs_ok : ∀ {ds : List D} {vs : List V}, VRs g ρ H ds vs → vs.all flatV = ds.all flatD
  | _, _, .nil => rfl
  | _, _, .cons r t => by rw [List.all_cons, List.all_cons, flatD_ok r, flatDs_ok t]
theorem eqF_ok {d e : D} {v u : V} (r : VR g ρ H d v) (q : VR g ρ H e u) : eqV v u = eqF d e := by
  cases r <;> cases q <;> rfl
theorem inV_ok {d : D} {v : V} (r : VR g ρ H d v) : ∀ {ds : List D} {vs : List V}, VRs g ρ H ds vs → inV v vs = ds.any fun y => eqF y d
  | _, _, .nil => rfl
  | _, _, .cons q t => by
    show (eqV _ v || inV v _) = _
    rw [List.any_cons, eqF_ok q r, inV_ok r t]
def keyD : D → Option Key
  | .int i => some (.inl i)
  | .str x => some (.inr x)
  | _ => none
theorem keyD_ok {d : D} {v : V} {k : Key} (r : VR g ρ H d v) (e : keyD d = some k) : v = kV k := by
  cases r <;> cases e <;> rfl
def lkK (ks : List (Key × D)) (k : Key) : Option D := (ks.find? fun kv => decide (kv.1 = k)).map (·.2)
theorem KR.look (k : Key) : ∀ {ks : List (Key × D)} {vs : List (Key × V)}, KR g ρ H ks vs → (∃ d v, lkK ks k = some d ∧ valV vs k = some v ∧ VR g ρ H d v) ∨ (lkK ks k = none ∧ valV vs k = none)
  | _, _, .nil => .inr ⟨rfl, rfl⟩
  | _, _, .cons (k := j) (d := d) (v := v) (ks := ks) (vs := vs) r t => by
    by_cases e : j = k
    · exact .inl ⟨d, v, by simp [lkK, e], by rw [valV_pos e], r⟩
    · have h1 : lkK ((j, d) :: ks) k = lkK ks k := by simp [lkK, e]
      rw [h1, valV_neg e]
      exact KR.look k t
theorem HR.dic (hh : HR g ρ L H) {n : Nat} {lk : Bool} {ks : List (Key × D)} (e : L[n]? = some (.dic lk ks)) {a : Addr} (ea : ρ[n]? = some a) : ∃ vs, Rd H a (.dK vs) ∧ KR g ρ H ks vs := by
  have q := hh.ob n _ a e ea
  cases lk with
  | false => obtain ⟨vs, h, r⟩ := q; exact ⟨vs, .inl h, r⟩
  | true => obtain ⟨vs, o, h, r⟩ := q; exact ⟨vs, .inr ⟨o, h⟩, r⟩
theorem HR.dget (hh : HR g ρ L H) {n : Nat} {lk : Bool} {ks : List (Key × D)} (e : L[n]? = some (.dic lk ks)) {a : Addr} (ea : ρ[n]? = some a) {d : D} {v : V} {k : Key} (r : VR g ρ H d v) (ek : keyD d = some k) :
    (∃ x z, lkK ks k = some x ∧ VR g ρ H x z ∧ DGet H a v (some z)) ∨ (lkK ks k = none ∧ DGet H a v none) := by
  obtain ⟨vs, h, kr⟩ := hh.dic e ea
  obtain rfl := keyD_ok r ek
  rcases kr.look k with ⟨x, z, h1, h2, h3⟩ | ⟨h1, h2⟩
  · exact .inl ⟨x, z, h1, h3, .inl ⟨vs, k, h, rfl, h2.symm⟩⟩
  · exact .inr ⟨h1, .inl ⟨vs, k, h, rfl, h2.symm⟩⟩
/-- x in a list (any data), a tuple (plain things), a dict (ints, texts) -/
def inD (L : List O) (x y : D) : Option Bool := match y with
  | .tup ds => if flatD x = true ∧ ds.all flatD = true then some (ds.any fun z => eqF z x) else none
  | .ref n => match L[n]? with
    | some (.lst ds) => match toPy L pyDeep x, toPy L pyDeep y with
      | some p, some (.list ps) => if SeqAt.shaped p = true ∧ SeqAt.shaped (.list ps) = true then some (ps.any fun z => PyData.eqv z p) else none
      | _, _ => none
    | some (.dic _ ks) => (keyD x).map fun k => (lkK ks k).isSome
    | _ => none
  | _ => none
def oIn : O2 := fun x y L => (inD L x y).map fun b => (.bl b, L)
def oNotIn : O2 := fun x y L => (inD L x y).map fun b => (.bl (!b), L)
theorem op_dIn (hu : X.A.units + 65 < cLine) : OpR X (compareOp .In) (fun x y H Q => ∃ a o, y = .ref a ∧ DGet H a x o ∧ Q (.bl o.isSome) H) := by
  rintro pins s σ H x y v u Q I rx ry ⟨a, o, rfl, dg, q⟩
  cases ry
  exact d_in (by omega) I dg rx fun s3 I3 => ⟨.bl o.isSome, H, I3, rfl, q⟩
theorem op_dNotIn (hu : X.A.units + 65 < cLine) : OpR X (compareOp .NotIn) (fun x y H Q => ∃ a o, y = .ref a ∧ DGet H a x o ∧ Q (.bl (!o.isSome)) H) := by
  rintro pins s σ H x y v u Q I rx ry ⟨a, o, rfl, dg, q⟩
  cases ry
  exact d_notIn (by omega) I dg rx fun s3 I3 => ⟨.bl (!o.isSome), H, I3, rfl, q⟩
theorem inD_cases {x y : D} {v u : V} (hh : HR g ρ L H) (rx : VR g ρ H x v) (ry : VR g ρ H y u) {b : Bool} (e : inD L x y = some b) :
    (∃ p xs, u = .ref p ∧ SqT g.K H p xs ∧ flatV v = true ∧ xs.all flatV = true ∧ inV v xs = b) ∨
    (∃ d ds, Dp g.K H v d ∧ Dp g.K H u (.list ds) ∧ SeqAt.shaped d = true ∧ SeqAt.shaped (.list ds) = true ∧ (ds.any fun z => PyData.eqv z d) = b) ∨
    ∃ a o, u = .ref a ∧ DGet H a v o ∧ o.isSome = b := by
  unfold inD at e
  split at e
  · cases ry with
    | tup s t =>
      split at e
      · rename_i hz
        cases e
        exact .inl ⟨_, _, rfl, s.sq, by rw [flatD_ok rx]; exact hz.1, by rw [flatDs_ok t]; exact hz.2, inV_ok rx t⟩
      · cases e
  · cases ry with
    | ref ea =>
      split at e
      · rename_i ds h1
        split at e
        · rename_i p ps h2 h3
          split at e
          · rename_i hz
            cases e
            exact .inr (.inl ⟨p, ps, toPy_ok hh _ _ _ _ h2 rx, toPy_ok hh _ _ _ _ h3 (.ref ea), hz.1, hz.2, rfl⟩)
          · cases e
        · cases e
      · rename_i lk ks h1
        cases hk : keyD x with
        | none => rw [hk] at e; cases e
        | some k =>
          rw [hk] at e
          cases e
          rcases hh.dget h1 ea rx hk with ⟨z, w, l, r, dg⟩ | ⟨l, dg⟩
          · exact .inr (.inr ⟨_, _, rfl, dg, by show _ = (lkK ks k).isSome; rw [l]; rfl⟩)
          · exact .inr (.inr ⟨_, _, rfl, dg, by show _ = (lkK ks k).isSome; rw [l]; rfl⟩)
      · cases e
  · cases e
theorem op_oIn (hu : X.A.units + 65 < cLine) : OpR X (compareOp .In) (rM ⟨X.K, cm, fx, X.w⟩ oIn) := by
  have h := (op_in_seq (X := X)).or ((op_inD hu).or (op_dIn hu))
  intro pins s σ H x y v u Q I rx ry q
  refine h pins s σ H x y v u Q I rx ry ?_
  obtain ⟨ρ, L, d, e, hh, r1, r2, q⟩ := q
  unfold oIn at q
  cases hb : inD L d e with
  | none => rw [hb] at q; exact q.elim
  | some b =>
    rw [hb] at q
    have q' := LfO.same q hh (.bl b)
    rcases inD_cases hh r1 r2 hb with ⟨p, xs, e1, s1, f1, f2, e2⟩ | ⟨p, ps, d1, d2, s1, s2, e2⟩ | ⟨a, o, e1, dg, e2⟩
    · exact .inl ⟨p, xs, e1, .inr s1, f1, f2, by rw [if_neg (by decide), e2]; exact q'⟩
    · exact .inr (.inl ⟨p, ps, d1, d2, s1, s2, by rw [e2]; exact q'⟩)
    · exact .inr (.inr ⟨a, o, e1, dg, by rw [e2]; exact q'⟩)
theorem op_oNotIn (hu : X.A.units + 65 < cLine) : OpR X (compareOp .NotIn) (rM ⟨X.K, cm, fx, X.w⟩ oNotIn) := by
  have h := (op_notIn_seq (X := X)).or ((op_notInD hu).or (op_dNotIn hu))
  intro pins s σ H x y v u Q I rx ry q
  refine h pins s σ H x y v u Q I rx ry ?_
  obtain ⟨ρ, L, d, e, hh, r1, r2, q⟩ := q
  unfold oNotIn at q
  cases hb : inD L d e with
  | none => rw [hb] at q; exact q.elim
  | some b =>
    rw [hb] at q
    have q' := LfO.same q hh (.bl (!b))
    rcases inD_cases hh r1 r2 hb with ⟨p, xs, e1, s1, f1, f2, e2⟩ | ⟨p, ps, d1, d2, s1, s2, e2⟩ | ⟨a, o, e1, dg, e2⟩
    · exact .inl ⟨p, xs, e1, .inr s1, f1, f2, by rw [if_pos rfl, e2]; exact q'⟩
    · exact .inr (.inl ⟨p, ps, d1, d2, s1, s2, by rw [e2]; exact q'⟩)
    · exact .inr (.inr ⟨a, o, e1, dg, by rw [e2]; exact q'⟩)
/-- a comparison as a value, as a test; a chain of two -/
theorem se_cmp {o : O2} {op : CmpOp} {ea eb : Expr} {a b : ME} {pos} (ho : OpR X (compareOp op) (rM g o)) (ha : PE X ea (tM g W a)) (hb : PE X eb (tM g W b)) (hm : behindInMarks op eb = false := by first | exact nomark _ | rfl) : PE X (.Compare ea [op] [eb] pos) (tM g W (mOp2 o a b)) :=
  (pe_cmpR ho ha hb hm).imp fun _ _ _ q => tM_op2 q
def mChain (o o' : O2) (a b c : ME) : ME := fun ε L => (a ε L).bind fun x L1 => (b ε L1).bind fun y L2 => (ofO (o x y L2)).bind fun z L3 => match z with
  | .bl true => (c ε L3).bind fun w L4 => ofO (o' y w L4)
  | .bl false => .ok (.bl false) L3
  | _ => .bad
theorem LfO_bind {α : Type} {σ : L2.St} {o : OD} {f : D → List O → Rs D} {Q : VK} (h : LfD g ρ H σ W ((ofO o).bind f) Q) {Q1 : VK} (k : ∀ d L' v ρ' H', o = some (d, L') → ρ <+: ρ' → TP H H' → HR g ρ' L' H' → VR g ρ' H' d v → LfD g ρ' H' σ W (f d L') Q → Q1 v H') : LfO g ρ H o Q1 := by
  cases o with
  | none => exact h.elim
  | some p =>
    obtain ⟨d, L'⟩ := p
    intro v ρ' H' hp ht hh hr
    exact (Lf.bind (r := .ok d L') h fun a L2 v ρ' H' e p t hh r q => by cases e; exact k d L' v ρ' H' rfl p t hh r q : LfD g ρ H σ W (.ok d L') Q1) v ρ' H' hp ht hh hr
theorem se_chain {o o' : O2} {op op' : CmpOp} {ea eb ec : Expr} {a b c : ME} {pos} (ho : OpR X (compareOp op) (rM g o)) (ho' : OpR X (compareOp op') (rM g o')) (ha : PE X ea (tM g W a)) (hb : PE X eb (tM g W b)) (hc : PE X ec (tM g W c))
    (hm : lastMarks [op, op'] [eb, ec] = false := by with_unfolding_all rfl) : PE X (.Compare ea [op, op'] [eb, ec] pos) (tM g W (mChain o o' a b c)) :=
  (pe_chain ho ho' ha hb hc hm).imp fun σ H Q q => by
    obtain ⟨ε, ρ, L, he, hh, q⟩ := q
    refine ⟨ε, ρ, L, he, hh, Lf.bind q fun x L1 v ρ1 H1 _ p1 t1 h1 r1 q1 => ?_⟩
    refine ⟨ε, ρ1, L1, he.mono p1 t1, h1, Lf.bind q1 fun y L2 u ρ2 H2 _ p2 t2 h2 r2 q2 => ?_⟩
    refine ⟨ρ2, L2, x, y, h2, r1.mono p2 t2, r2, LfO_bind (α := D) q2 fun z L3 zv ρ3 H3 _ p3 t3 h3 r3 q3 => ?_⟩
    cases r3 with
    | bl b =>
      refine ⟨b, rfl, ?_⟩
      cases b with
      | false =>
        rw [if_neg (by decide)]
        exact q3 (.bl false) ρ3 H3 (List.prefix_refl _) (TP.refl H3) h3 (.bl false)
      | true =>
        rw [if_pos rfl]
        refine ⟨ε, ρ3, L3, ((he.mono p1 t1).mono p2 t2).mono p3 t3, h3, Lf.bind q3 fun w' L4 wv ρ4 H4 _ p4 t4 h4 r4 q4 => ?_⟩
        exact ⟨ρ4, L4, y, w', h4, (r2.mono p3 t3).mono p4 t4, r4, LfO.of q4⟩
    | _ => exact q3.elim

/-! ### subscripts -/
def atD (ds : List D) (i : Int) : Option D := atI ds i
theorem VRs.atI {ds : List D} {vs : List V} (r : VRs g ρ H ds vs) {i : Int} {d : D} (e : atI ds i = some d) : ∃ v, L2.atI vs i = some v ∧ VR g ρ H d v := by
  unfold L2.atI at e ⊢
  rw [← r.length]
  cases h : ixN ds.length i with
  | none => rw [h] at e; cases e
  | some j =>
    rw [h] at e
    exact r.get e
def oIdx : O2 := fun x y L => match x with
  | .tup ds => match y with
    | .int i => (atI ds i).map fun d => (d, L)
    | _ => none
  | .rol ds => match y with
    | .int i => (atI ds i).map fun d => (d, L)
    | _ => none
  | .ref n => match L[n]? with
    | some (.lst ds) => match y with
      | .int i => (atI ds i).map fun d => (d, L)
      | _ => none
    | some (.dic _ ks) => match keyD y with
      | some k => (lkK ks k).map fun d => (d, L)
      | none => none
    | _ => none
  | _ => none
theorem ix_dict (hu : X.A.units + 65 < cLine) : IxR X (fun x y H Q => ∃ a v, x = .ref a ∧ DGet H a y (some v) ∧ Q v H) := by
  rintro value slice pins s σ H x y v u Q I rx ry ⟨a, z, rfl, dg, q⟩ hs
  cases rx
  exact PyProof.Rows.tail_any (dict_typeIs I dg) PySem.F.slot_dict_getitem.lookup (d_getItem (by omega) I dg ry fun w' s3 I3 rw' => ⟨z, H, I3, rw', q⟩) hs
theorem ix_oIdx (hu : X.A.units + 65 < cLine) : IxR X (rM ⟨X.K, cm, fx, X.w⟩ oIdx) := by
  have h := (ix_list (X := X)).or (ix_tup.or (ix_dict hu))
  intro value slice pins s σ H x y v u Q I rx ry q
  refine h value slice pins s σ H x y v u Q I rx ry ?_
  obtain ⟨ρ, L, d, e, hh, r1, r2, q⟩ := q
  unfold oIdx at q
  split at q
  · cases r1 with
    | tup s1 t1 =>
      split at q
      · rename_i i
        cases r2
        rename_i ds _ _ _
        cases ha : L2.atI ds i with
        | none => rw [ha] at q; exact q.elim
        | some z =>
          rw [ha] at q
          obtain ⟨zv, e1, e2⟩ := t1.atI ha
          exact .inr (.inl ⟨_, _, _, zv, rfl, rfl, s1.sq, e1, LfO.same q hh e2⟩)
      · exact q.elim
  · cases r1 with
    | rol s1 t1 =>
      split at q
      · rename_i i
        cases r2
        rename_i ds _ _ _
        cases ha : L2.atI ds i with
        | none => rw [ha] at q; exact q.elim
        | some z =>
          rw [ha] at q
          obtain ⟨zv, e1, e2⟩ := t1.atI ha
          exact .inl ⟨_, _, _, zv, rfl, rfl, s1.seq, e1, LfO.same q hh e2⟩
      · exact q.elim
  · cases r1 with
    | ref ea =>
      split at q
      · rename_i ds h1
        split at q
        · rename_i i
          cases r2
          obtain ⟨vs, b1, b2⟩ := hh.lst h1 ea
          cases ha : L2.atI ds i with
          | none => rw [ha] at q; exact q.elim
          | some z =>
            rw [ha] at q
            obtain ⟨zv, e1, e2⟩ := b2.atI ha
            exact .inl ⟨_, _, _, zv, rfl, rfl, SqL.of b1, e1, LfO.same q hh e2⟩
        · exact q.elim
      · rename_i lk ks h1
        split at q
        · rename_i k hk
          rcases hh.dget h1 ea r2 hk with ⟨z, zv, l, r, dg⟩ | ⟨l, dg⟩
          · rw [l] at q
            exact .inr (.inr ⟨_, zv, rfl, dg, LfO.same q hh r⟩)
          · rw [l] at q
            exact q.elim
        · exact q.elim
      · exact q.elim
  · exact q.elim
theorem se_idx (hu : X.A.units + 65 < cLine) {ea eb : Expr} {a b : ME} {pos} (ha : PE X ea (tM ⟨X.K, cm, fx, X.w⟩ W a)) (hb : PE X eb (tM ⟨X.K, cm, fx, X.w⟩ W b)) (hs : PlainIx eb := by exact fun _ _ => rfl) : PE X (.Subscript ea eb pos) (tM ⟨X.K, cm, fx, X.w⟩ W (mOp2 oIdx a b)) :=
  (pe_ix (ix_oIdx hu) ha hb hs).imp fun _ _ _ q => tM_op2 q
end Tw
end

section
set_option Elab.async false
set_option linter.all false
set_option maxRecDepth 100000
set_option maxHeartbeats 1000000
/-! Tw, part D: slices, displays, tests, statements without loops. -/
namespace Tw
open PySem PySem.Spec L2
variable {g : Gx} {ρ ρ' : List Addr} {H H' : Hp} {X : Cx} {W : WX} {L : List O} {cm : Nat → Addr} {fx : Hp}

/-! ### slices -/
abbrev MO := En → List O → Rs (Option Int)
def relE {α : Type} : List Addr → Hp → α → α → Prop := fun _ _ a b => a = b
def tMO (g : Gx) (W : WX) (m : MO) : TO := fun σ H Q => ∃ ε ρ L, ER g ρ H σ ε ∧ HR g ρ L H ∧ Lf g ρ H σ W relE (m ε L) Q
def mNoPart : MO := fun _ L => .ok none L
def mPart (a : ME) : MO := fun ε L => (a ε L).bind fun x L1 => match x with
  | .int i => .ok (some i) L1
  | _ => .bad
theorem so_none : PO X none (tMO g W mNoPart) := ⟨fun pins s σ H Q I q => po_none.run pins s σ H Q I (by
  obtain ⟨ε, ρ, L, he, hh, q⟩ := q
  exact q none ρ H (List.prefix_refl _) (TP.refl H) hh rfl)⟩
theorem so_some {e : Expr} {a : ME} (h : PE X e (tM g W a)) : PO X (some e) (tMO g W (mPart a)) := ⟨fun pins s σ H Q I q => (po_some h).run pins s σ H Q I (by
  obtain ⟨ε, ρ, L, he, hh, q⟩ := q
  refine ⟨ε, ρ, L, he, hh, Lf.bind q fun x L1 v ρ1 H1 _ p1 t1 h1 r1 q1 => ?_⟩
  cases r1 with
  | int i => exact ⟨i, rfl, q1 (some i) ρ1 H1 (List.prefix_refl _) (TP.refl H1) h1 rfl⟩
  | _ => exact q1.elim)⟩
def cutD (xs : List D) (lo hi : Option Int) : List D := (xs.drop (HT.sIx xs.length 0 lo)).take (HT.sIx xs.length xs.length hi - HT.sIx xs.length 0 lo)
def oSl (x : D) (lo hi : Option Int) (L : List O) : OD := match x with
  | .tup ds => some (.tup (cutD ds lo hi), L)
  | .rol ds => some (.ref L.length, L ++ [.lst (cutD ds lo hi)])
  | .ref n => match L[n]? with
    | some (.lst ds) => some (.ref L.length, L ++ [.lst (cutD ds lo hi)])
    | _ => none
  | _ => none
theorem VRs.cut {ds : List D} {vs : List V} (r : VRs g ρ H ds vs) (lo hi : Option Int) : VRs g ρ H (cutD ds lo hi) (cutV vs lo hi) := by
  unfold cutD cutV
  rw [← r.length]
  exact (r.drop _).take _
theorem sl_oSl : SlR X (fun x lo hi H Q => ∃ ρ L d, HR ⟨X.K, cm, fx, X.w⟩ ρ L H ∧ VR ⟨X.K, cm, fx, X.w⟩ ρ H d x ∧ LfO ⟨X.K, cm, fx, X.w⟩ ρ H (oSl d lo hi L) Q) := by
  have h := (sl_list (X := X)).or sl_tupA
  intro pins s σ H x v vl vu lo hi sl Q I rx hs pl pu q
  refine h pins s σ H x v vl vu lo hi sl Q I rx hs pl pu ?_
  obtain ⟨ρ, L, d, hh, r1, q⟩ := q
  unfold oSl at q
  split at q
  · cases r1 with
    | tup s1 t1 =>
      rename_i ds _ _
      refine .inr ⟨_, _, rfl, s1.sq, fun e => ?_, fun _ p hp => q.newT hh (t1.cut lo hi) hp⟩
      have e' : cutD ds lo hi = ds := by
        unfold cutD
        rw [t1.length, e.1, e.2]
        simp only [List.drop_zero, Nat.sub_zero]
        rw [← t1.length]
        exact List.take_length
      rw [e'] at q
      exact q.same hh (.tup s1 t1)
  · cases r1 with
    | rol s1 t1 => exact .inl ⟨_, _, rfl, s1.seq, fun p hp => q.newL hh (t1.cut lo hi) hp⟩
  · cases r1 with
    | ref ea =>
      split at q
      · rename_i ds h1
        obtain ⟨vs, b1, b2⟩ := hh.lst h1 ea
        exact .inl ⟨_, _, rfl, SqL.of b1, fun p hp => q.newL hh (b2.cut lo hi) hp⟩
      · exact q.elim
  · exact q.elim
def mSl (a : ME) (lo hi : MO) : ME := fun ε L => (a ε L).bind fun x L1 => (lo ε L1).bind fun i L2 => (hi ε L2).bind fun j L3 => ofO (oSl x i j L3)
theorem se_slice {e : Expr} {lo hi : Option Expr} {a : ME} {ml mh : MO} {pos p2} (he : PE X e (tM ⟨X.K, cm, fx, X.w⟩ W a)) (hl : PO X lo (tMO ⟨X.K, cm, fx, X.w⟩ W ml)) (hu : PO X hi (tMO ⟨X.K, cm, fx, X.w⟩ W mh)) :
    PE X (.Subscript e (.Slice lo hi none p2) pos) (tM ⟨X.K, cm, fx, X.w⟩ W (mSl a ml mh)) :=
  (pe_slice sl_oSl he hl hu).imp fun σ H Q q => by
    obtain ⟨ε, ρ, L, he, hh, q⟩ := q
    refine ⟨ε, ρ, L, he, hh, Lf.bind q fun x L1 v ρ1 H1 _ p1 t1 h1 r1 q1 => ?_⟩
    refine ⟨ε, ρ1, L1, he.mono p1 t1, h1, Lf.bind q1 fun i L2 u ρ2 H2 _ p2 t2 h2 r2 q2 => ?_⟩
    cases r2
    refine ⟨ε, ρ2, L2, (he.mono p1 t1).mono p2 t2, h2, Lf.bind q2 fun j L3 u ρ3 H3 _ p3 t3 h3 r3 q3 => ?_⟩
    cases r3
    exact ⟨ρ3, L3, x, h3, (r1.mono p2 t2).mono p3 t3, LfO.of q3⟩

/-! ### argument lists, displays -/
def mNil : MA := fun _ L => .ok [] L
def mCons (a : ME) (r : MA) : MA := fun ε L => (a ε L).bind fun x L1 => (r ε L1).bind fun xs L2 => .ok (x :: xs) L2
theorem sa_nil : PA X [] (tMA g W mNil) := pa_nil.imp fun σ H Q q => by
  obtain ⟨ε, ρ, L, he, hh, q⟩ := q
  exact q [] ρ H (List.prefix_refl _) (TP.refl H) hh .nil
theorem sa_cons {e : Expr} {es : List Expr} {a : ME} {r : MA} (ha : PE X e (tM g W a)) (hr : PA X es (tMA g W r)) (hs : starEach (e :: es) X.env = (false, eval e X.env) :: starEach es X.env := by rfl) : PA X (e :: es) (tMA g W (mCons a r)) :=
  (pa_cons ha hr hs).imp fun σ H Q q => by
    obtain ⟨ε, ρ, L, he, hh, q⟩ := q
    refine ⟨ε, ρ, L, he, hh, Lf.bind q fun x L1 v ρ1 H1 _ p1 t1 h1 r1 q1 => ?_⟩
    refine ⟨ε, ρ1, L1, he.mono p1 t1, h1, Lf.bind q1 fun xs L2 vs ρ2 H2 _ p2 t2 h2 r2 q2 => ?_⟩
    exact q2 _ ρ2 H2 (List.prefix_refl _) (TP.refl H2) h2 (.cons (r1.mono p2 t2) r2)
/-- a star on a list or a tuple -/
def seqD (L : List O) (x : D) : Option (List D) := match x with
  | .tup ds => some ds
  | .rol ds => some ds
  | .ref n => match L[n]? with
    | some (.lst ds) => some ds
    | _ => none
  | _ => none
theorem seqD_ok {x : D} {v : V} {ds : List D} (hh : HR g ρ L H) (r : VR g ρ H x v) (e : seqD L x = some ds) : ∃ a vs, v = .ref a ∧ VRs g ρ H ds vs ∧ (TuT g.K H a vs ∨ SqL g.K H a vs) := by
  unfold seqD at e
  split at e
  · cases e
    cases r with
    | tup s t => exact ⟨_, _, rfl, t, .inl s⟩
  · cases e
    cases r with
    | rol s t => exact ⟨_, _, rfl, t, .inr s.seq⟩
  · cases r with
    | ref ea =>
      split at e
      · rename_i h1
        cases e
        obtain ⟨vs, b1, b2⟩ := hh.lst h1 ea
        exact ⟨_, vs, rfl, b2, .inr (SqL.of b1)⟩
      · cases e
  · cases e
def mStar (a : ME) (r : MA) : MA := fun ε L => (a ε L).bind fun x L1 => match seqD L1 x with
  | some xs => (r ε L1).bind fun ys L2 => .ok (xs ++ ys) L2
  | none => .bad
theorem sa_star {e : Expr} {es : List Expr} {a : ME} {r : MA} {p : Pos} (ha : PE X e (tM ⟨X.K, cm, fx, X.w⟩ W a)) (hr : PA X es (tMA ⟨X.K, cm, fx, X.w⟩ W r)) (hs : starEach (.Starred e p :: es) X.env = (true, eval e X.env) :: starEach es X.env := by rfl) :
    PA X (.Starred e p :: es) (tMA ⟨X.K, cm, fx, X.w⟩ W (mStar a r)) :=
  (StX.pa_star ha hr hs).imp fun σ H Q q => by
    obtain ⟨ε, ρ, L, he, hh, q⟩ := q
    refine ⟨ε, ρ, L, he, hh, Lf.bind q fun x L1 v ρ1 H1 _ p1 t1 h1 r1 q1 => ?_⟩
    cases hs : seqD L1 x with
    | none => rw [hs] at q1; exact q1.elim
    | some xs =>
      rw [hs] at q1
      obtain ⟨b, us, e1, t, sq⟩ := seqD_ok h1 r1 hs
      refine ⟨b, us, e1, sq.imp_left TuT.sq, ε, ρ1, L1, he.mono p1 t1, h1, Lf.bind q1 fun ys L2 vs ρ2 H2 _ p2 t2 h2 r2 q2 => ?_⟩
      exact q2 _ ρ2 H2 (List.prefix_refl _) (TP.refl H2) h2 ((t.mono p2 t2).append r2)
def most : Nat := 1000000
theorem most_le {n : Nat} (h : n ≤ most) : n ≤ sizeLine := Nat.le_trans h (by decide)
def mTup (r : MA) : ME := fun ε L => (r ε L).bind fun xs L1 => if xs.length ≤ most then .ok (.tup xs) L1 else .bad
def mLst (r : MA) : ME := fun ε L => (r ε L).bind fun xs L1 => if xs.length ≤ most then .ok (.ref L1.length) (L1 ++ [.lst xs]) else .bad
theorem se_tup {es : List Expr} {r : MA} {k pos} (h : PA X es (tMA g W r)) : PE X (.Tuple es k pos) (tM g W (mTup r)) :=
  (pe_tup h).imp fun σ H Q q => by
    obtain ⟨ε, ρ, L, he, hh, q⟩ := q
    refine ⟨ε, ρ, L, he, hh, Lf.bind q fun xs L1 vs ρ1 H1 _ p1 t1 h1 r1 q1 => ?_⟩
    by_cases hz : xs.length ≤ most
    · rw [if_pos hz] at q1
      exact ⟨by rw [← r1.length]; exact most_le hz, fun p hp => LfO.newT q1 h1 r1 hp⟩
    · rw [if_neg hz] at q1; exact q1.elim
theorem se_lst {es : List Expr} {r : MA} {pos} (h : PA X es (tMA g W r)) : PE X (.List es pos) (tM g W (mLst r)) :=
  (pe_lst h).imp fun σ H Q q => by
    obtain ⟨ε, ρ, L, he, hh, q⟩ := q
    refine ⟨ε, ρ, L, he, hh, Lf.bind q fun xs L1 vs ρ1 H1 _ p1 t1 h1 r1 q1 => ?_⟩
    by_cases hz : xs.length ≤ most
    · rw [if_pos hz] at q1
      exact ⟨by rw [← r1.length]; exact most_le hz, fun p hp => LfO.newL q1 h1 r1 hp⟩
    · rw [if_neg hz] at q1; exact q1.elim
/-- {} -/
def mDic0 : ME := fun _ L => .ok (.ref L.length) (L ++ [.dic false []])
theorem LfD.newO {σ : L2.St} {o : O} {u : HO} {Q : VK} (h : LfD g ρ H σ W (.ok (.ref L.length) (L ++ [o])) Q) (hh : HR g ρ L H) {p : Addr} (hp : H p = none) (ho : OR g (ρ ++ [p]) (upd H p u) p o) : Q (.ref p) (upd H p u) := by
  refine h _ (ρ ++ [p]) _ (pre_snoc _ _) (TP.new hp) (hh.new hp ho) (.ref ?_)
  rw [← hh.len]
  simp
theorem se_dic0 {pos} : PE X (.Dict [] [] pos) (tM g W mDic0) := pe_dnewK.imp fun σ H Q q => by
  obtain ⟨ε, ρ, L, he, hh, q⟩ := q
  intro p hp
  exact LfD.newO q hh hp ⟨[], upd_same, .nil⟩

/-! ### tests -/
def truth (L : List O) (x : D) : Option Bool := match x with
  | .non => some false
  | .bl b => some b
  | .int i => some (i != 0)
  | .str y => if y.length ≤ most then some ((y.length : Int) != 0) else none
  | .tup ds => some (!ds.isEmpty)
  | .rol ds => some (!ds.isEmpty)
  | .ref n => match L[n]? with
    | some (.lst ds) => some (!ds.isEmpty)
    | some (.dic false ks) => some (!ks.isEmpty)
    | _ => none
  | .cls _ => none
  | .ty _ => none
theorem VRs.isEmpty {ds : List D} {vs : List V} (r : VRs g ρ H ds vs) : vs.isEmpty = ds.isEmpty := by cases r <;> rfl
theorem KR.isEmpty {ds : List (Key × D)} {vs : List (Key × V)} (r : KR g ρ H ds vs) : vs.isEmpty = ds.isEmpty := by cases r <;> rfl
theorem truth_ok {x : D} {v : V} {b : Bool} (hh : HR g ρ L H) (r : VR g ρ H x v) (e : truth L x = some b) : TruV g.K v H b := by
  unfold truth at e
  cases r with
  | non => cases e; rfl
  | bl b => cases e; rfl
  | int i => cases e; rfl
  | cls c => cases e
  | ty c => cases e
  | str y =>
    simp only at e
    split at e
    · rename_i hz
      cases e
      exact ⟨most_le hz, rfl⟩
    · cases e
  | tup s t =>
    cases e
    exact .inr (.inl ⟨_, s.sq, by rw [t.isEmpty]⟩)
  | rol s t =>
    cases e
    exact .inl ⟨_, s.seq, by rw [t.isEmpty]⟩
  | ref ea =>
    simp only at e
    split at e
    · rename_i h1
      cases e
      obtain ⟨vs, b1, b2⟩ := hh.lst h1 ea
      exact .inl ⟨_, SqL.of b1, by rw [b2.isEmpty]⟩
    · rename_i h1
      cases e
      obtain ⟨vs, b1, b2⟩ := hh.ob _ _ _ h1 ea
      exact .inr (.inr ⟨_, b1, by rw [b2.isEmpty]⟩)
    · cases e
def mTst (a : ME) : MB := fun ε L => (a ε L).bind fun x L1 => match x with
  | .bl b => .ok b L1
  | _ => .bad
def mTru (a : ME) : MB := fun ε L => (a ε L).bind fun x L1 => match truth L1 x with
  | some b => .ok b L1
  | none => .bad
theorem st_cmp {o : O2} {op : CmpOp} {ea eb : Expr} {a b : ME} {pos} (ho : OpR X (compareOp op) (rM g o)) (ha : PE X ea (tM g W a)) (hb : PE X eb (tM g W b)) (hm : behindInMarks op eb = false := by first | exact nomark _ | rfl) : PT X (.Compare ea [op] [eb] pos) (tMB g W (mTst (mOp2 o a b))) :=
  (pt_cmpR ho ha hb hm).imp fun σ H Q q => by
    obtain ⟨ε, ρ, L, he, hh, q⟩ := q
    have q' := tM_op2 (W := W) (g := g) (σ := σ) (H := H) (Q := fun x H' => ∃ k, x = .bl k ∧ Q k H') ⟨ε, ρ, L, he, hh, Lf.bind q fun x L1 v ρ1 H1 _ p1 t1 h1 r1 q1 => by
      cases r1 with
      | bl b => exact ⟨b, rfl, q1 b ρ1 H1 (List.prefix_refl _) (TP.refl H1) h1 rfl⟩
      | _ => exact q1.elim⟩
    exact q'
theorem st_chain {o o' : O2} {op op' : CmpOp} {ea eb ec : Expr} {a b c : ME} {pos} (ho : OpR X (compareOp op) (rM g o)) (ho' : OpR X (compareOp op') (rM g o')) (ha : PE X ea (tM g W a)) (hb : PE X eb (tM g W b)) (hc : PE X ec (tM g W c))
    (hm : lastMarks [op, op'] [eb, ec] = false := by with_unfolding_all rfl) : PT X (.Compare ea [op, op'] [eb, ec] pos) (tMB g W (mTst (mChain o o' a b c))) :=
  (pt_chain ho ho' ha hb hc hm).imp fun σ H Q q => by
    obtain ⟨ε, ρ, L, he, hh, q⟩ := q
    -- as se_chain, what is wanted behind it a truth value
    have q0 : LfD g ρ H σ W (mChain o o' a b c ε L) (fun x H' => ∃ k, x = .bl k ∧ Q k H') := Lf.bind q fun x L1 v ρ1 H1 _ p1 t1 h1 r1 q1 => by
      cases r1 with
      | bl b => exact ⟨b, rfl, q1 b ρ1 H1 (List.prefix_refl _) (TP.refl H1) h1 rfl⟩
      | _ => exact q1.elim
    show tChain _ _ _ _ _ σ H _
    refine ⟨ε, ρ, L, he, hh, Lf.bind q0 fun x L1 v ρ1 H1 _ p1 t1 h1 r1 q1 => ?_⟩
    refine ⟨ε, ρ1, L1, he.mono p1 t1, h1, Lf.bind q1 fun y L2 u ρ2 H2 _ p2 t2 h2 r2 q2 => ?_⟩
    refine ⟨ρ2, L2, x, y, h2, r1.mono p2 t2, r2, LfO_bind (α := D) q2 fun z L3 zv ρ3 H3 _ p3 t3 h3 r3 q3 => ?_⟩
    cases r3 with
    | bl b =>
      refine ⟨b, rfl, ?_⟩
      cases b with
      | false =>
        rw [if_neg (by decide)]
        exact q3 (.bl false) ρ3 H3 (List.prefix_refl _) (TP.refl H3) h3 (.bl false)
      | true =>
        rw [if_pos rfl]
        refine ⟨ε, ρ3, L3, ((he.mono p1 t1).mono p2 t2).mono p3 t3, h3, Lf.bind q3 fun w' L4 wv ρ4 H4 _ p4 t4 h4 r4 q4 => ?_⟩
        exact ⟨ρ4, L4, y, w', h4, (r2.mono p3 t3).mono p4 t4, r4, LfO.of q4⟩
    | _ => exact q3.elim
theorem st_tru {e : Expr} {a : ME} (h : PE X e (tM ⟨X.K, cm, fx, X.w⟩ W a)) (he : ∀ whole, isTrue e X.env whole = (do let v ← whole; standAt e.pos; holding [v] (truthy v)) := by exact fun _ => rfl) : PT X e (tMB ⟨X.K, cm, fx, X.w⟩ W (mTru a)) :=
  (pt_truth h he).imp fun σ H Q q => by
    obtain ⟨ε, ρ, L, he, hh, q⟩ := q
    refine ⟨ε, ρ, L, he, hh, Lf.bind q fun x L1 v ρ1 H1 _ p1 t1 h1 r1 q1 => ?_⟩
    cases ht : truth L1 x with
    | none => rw [ht] at q1; exact q1.elim
    | some b =>
      rw [ht] at q1
      exact ⟨b, truth_ok h1 r1 ht, q1 b ρ1 H1 (List.prefix_refl _) (TP.refl H1) h1 rfl⟩
def mNotB (a : MB) : MB := fun ε L => (a ε L).bind fun b L1 => .ok (!b) L1
def mAndB (a b : MB) : MB := fun ε L => (a ε L).bind fun c L1 => if c = true then b ε L1 else .ok false L1
def mOrB (a b : MB) : MB := fun ε L => (a ε L).bind fun c L1 => if c = true then .ok true L1 else b ε L1
theorem st_not {e : Expr} {a : MB} {pos} (h : PT X e (tMB g W a)) : PT X (.UnaryOp .Not e pos) (tMB g W (mNotB a)) :=
  (pt_not h).imp fun σ H Q q => by
    obtain ⟨ε, ρ, L, he, hh, q⟩ := q
    refine ⟨ε, ρ, L, he, hh, Lf.bind q fun b L1 v ρ1 H1 _ p1 t1 h1 r1 q1 => ?_⟩
    cases r1
    exact q1 _ ρ1 H1 (List.prefix_refl _) (TP.refl H1) h1 rfl
theorem _root_.L2.PW.imp {X : Cx} {e : Expr} {t t' : TT} (h : PW X e t) (k : ∀ σ H Q, t' σ H Q → t σ H Q) : PW X e t' := ⟨fun wh pins s σ H Q I q => h.run wh pins s σ H Q I (k σ H Q q)⟩
theorem sw_and {ea eb : Expr} {rest : List Expr} {a b : MB} {pos} (ha : PT X ea (tMB g W a)) (hb : PW X (.BoolOp .And (eb :: rest) pos) (tMB g W b)) : PW X (.BoolOp .And (ea :: eb :: rest) pos) (tMB g W (mAndB a b)) :=
  (pw_and ha hb).imp fun σ H Q q => by
    obtain ⟨ε, ρ, L, he, hh, q⟩ := q
    refine ⟨ε, ρ, L, he, hh, Lf.bind q fun c L1 v ρ1 H1 _ p1 t1 h1 r1 q1 => ?_⟩
    cases r1
    cases c with
    | true => exact ⟨ε, ρ1, L1, he.mono p1 t1, h1, q1⟩
    | false => exact q1 _ ρ1 H1 (List.prefix_refl _) (TP.refl H1) h1 rfl
theorem sw_or {ea eb : Expr} {rest : List Expr} {a b : MB} {pos} (ha : PT X ea (tMB g W a)) (hb : PW X (.BoolOp .Or (eb :: rest) pos) (tMB g W b)) : PW X (.BoolOp .Or (ea :: eb :: rest) pos) (tMB g W (mOrB a b)) :=
  (pw_or ha hb).imp fun σ H Q q => by
    obtain ⟨ε, ρ, L, he, hh, q⟩ := q
    refine ⟨ε, ρ, L, he, hh, Lf.bind q fun c L1 v ρ1 H1 _ p1 t1 h1 r1 q1 => ?_⟩
    cases r1
    cases c with
    | true => exact q1 _ ρ1 H1 (List.prefix_refl _) (TP.refl H1) h1 rfl
    | false => exact ⟨ε, ρ1, L1, he.mono p1 t1, h1, q1⟩
/-- and, or, not as values -/
def mAndV (a b : ME) : ME := fun ε L => (a ε L).bind fun x L1 => match truth L1 x with
  | some true => b ε L1
  | some false => .ok x L1
  | none => .bad
def mOrV (a b : ME) : ME := fun ε L => (a ε L).bind fun x L1 => match truth L1 x with
  | some true => .ok x L1
  | some false => b ε L1
  | none => .bad
def mNotV (a : ME) : ME := fun ε L => (a ε L).bind fun x L1 => match truth L1 x with
  | some b => .ok (.bl (!b)) L1
  | none => .bad
theorem se_one {op} {ea : Expr} {a : ME} {pos} (ha : PE X ea (tM g W a)) : PE X (.BoolOp op [ea] pos) (tM g W a) := pe_one ha
theorem se_andV {ea eb : Expr} {rest : List Expr} {a b : ME} {pos} (ha : PE X ea (tM ⟨X.K, cm, fx, X.w⟩ W a)) (hb : PE X (.BoolOp .And (eb :: rest) pos) (tM ⟨X.K, cm, fx, X.w⟩ W b)) : PE X (.BoolOp .And (ea :: eb :: rest) pos) (tM ⟨X.K, cm, fx, X.w⟩ W (mAndV a b)) :=
  (pe_andT ha hb).imp fun σ H Q q => by
    obtain ⟨ε, ρ, L, he, hh, q⟩ := q
    refine ⟨ε, ρ, L, he, hh, Lf.bind q fun x L1 v ρ1 H1 _ p1 t1 h1 r1 q1 => ?_⟩
    cases ht : truth L1 x with
    | none => rw [ht] at q1; exact q1.elim
    | some c =>
      rw [ht] at q1
      refine ⟨c, truth_ok h1 r1 ht, ?_⟩
      cases c with
      | true => rw [if_pos rfl]; exact ⟨ε, ρ1, L1, he.mono p1 t1, h1, q1⟩
      | false => rw [if_neg (by decide)]; exact q1 _ ρ1 H1 (List.prefix_refl _) (TP.refl H1) h1 r1
theorem se_orV {ea eb : Expr} {rest : List Expr} {a b : ME} {pos} (ha : PE X ea (tM ⟨X.K, cm, fx, X.w⟩ W a)) (hb : PE X (.BoolOp .Or (eb :: rest) pos) (tM ⟨X.K, cm, fx, X.w⟩ W b)) : PE X (.BoolOp .Or (ea :: eb :: rest) pos) (tM ⟨X.K, cm, fx, X.w⟩ W (mOrV a b)) :=
  (pe_orT ha hb).imp fun σ H Q q => by
    obtain ⟨ε, ρ, L, he, hh, q⟩ := q
    refine ⟨ε, ρ, L, he, hh, Lf.bind q fun x L1 v ρ1 H1 _ p1 t1 h1 r1 q1 => ?_⟩
    cases ht : truth L1 x with
    | none => rw [ht] at q1; exact q1.elim
    | some c =>
      rw [ht] at q1
      refine ⟨c, truth_ok h1 r1 ht, ?_⟩
      cases c with
      | true => rw [if_pos rfl]; exact q1 _ ρ1 H1 (List.prefix_refl _) (TP.refl H1) h1 r1
      | false => rw [if_neg (by decide)]; exact ⟨ε, ρ1, L1, he.mono p1 t1, h1, q1⟩
theorem se_notV {ea : Expr} {a : ME} {pos} (ha : PE X ea (tM ⟨X.K, cm, fx, X.w⟩ W a)) : PE X (.UnaryOp .Not ea pos) (tM ⟨X.K, cm, fx, X.w⟩ W (mNotV a)) :=
  (pe_notT ha).imp fun σ H Q q => by
    obtain ⟨ε, ρ, L, he, hh, q⟩ := q
    refine ⟨ε, ρ, L, he, hh, Lf.bind q fun x L1 v ρ1 H1 _ p1 t1 h1 r1 q1 => ?_⟩
    cases ht : truth L1 x with
    | none => rw [ht] at q1; exact q1.elim
    | some c =>
      rw [ht] at q1
      exact ⟨c, truth_ok h1 r1 ht, q1 _ ρ1 H1 (List.prefix_refl _) (TP.refl H1) h1 (.bl _)⟩
def mIfE (c : MB) (a b : ME) : ME := fun ε L => (c ε L).bind fun t L1 => if t = true then a ε L1 else b ε L1
theorem se_ifE {ec ea eb : Expr} {c : MB} {a b : ME} {pos} (hc : PT X ec (tMB g W c)) (ha : PE X ea (tM g W a)) (hb : PE X eb (tM g W b)) : PE X (.IfExp ec ea eb pos) (tM g W (mIfE c a b)) :=
  (pe_ifExp hc ha hb).imp fun σ H Q q => by
    obtain ⟨ε, ρ, L, he, hh, q⟩ := q
    refine ⟨ε, ρ, L, he, hh, Lf.bind q fun c L1 v ρ1 H1 _ p1 t1 h1 r1 q1 => ?_⟩
    cases r1
    cases c with
    | true => rw [if_pos rfl] at q1 ⊢; exact ⟨ε, ρ1, L1, he.mono p1 t1, h1, q1⟩
    | false => rw [if_neg (by decide)] at q1 ⊢; exact ⟨ε, ρ1, L1, he.mono p1 t1, h1, q1⟩

/-! ### attributes -/
def mFld (c : Nat) (f : Str) (a : ME) : ME := fun ε L => (a ε L).bind fun x L1 => match x with
  | .ref n => match L1[n]? with
    | some (.ins c' fs) => if c' = c then (match fs.lookup f with | some d => .ok d L1 | none => .bad) else .bad
    | _ => .bad
  | _ => .bad
theorem HR.ins (hh : HR g ρ L H) {n c : Nat} {fs : List (Str × D)} (e : L[n]? = some (.ins c fs)) {a : Addr} (ea : ρ[n]? = some a) : ∃ dx vs, H a = some (.ins (g.cm c) dx vs) ∧ FR g ρ H fs vs := hh.ob n _ a e ea
theorem se_fld {e : Expr} {a : ME} {c : Nat} {f : Str} {pos} (he : PE X e (tM ⟨X.K, cm, fx, X.w⟩ W a)) (hc : Cls X.K (cm c)) (hn : NoAttr X.K (cm c) f) (hb : attributeBase e f X.env (eval e X.env) = eval e X.env := by rfl) : PE X (.Attribute e f pos) (tM ⟨X.K, cm, fx, X.w⟩ W (mFld c f a)) :=
  (pe_fld he hb).imp fun σ H Q q => by
    obtain ⟨ε, ρ, L, he, hh, q⟩ := q
    refine ⟨ε, ρ, L, he, hh, Lf.bind q fun x L1 v ρ1 H1 _ p1 t1 h1 r1 q1 => ?_⟩
    cases r1 with
    | ref ea =>
      simp only at q1
      split at q1
      · rename_i c' fs hi
        split at q1
        · rename_i hcc
          subst hcc
          obtain ⟨dx, vs, e1, fr⟩ := h1.ins hi ea
          rcases fr.look f with ⟨d, z, l1, l2, r⟩ | ⟨l1, _⟩
          · rw [l1] at q1
            exact ⟨_, _, _, _, z, rfl, e1, hc, hn, l2, q1 _ ρ1 H1 (List.prefix_refl _) (TP.refl H1) h1 r⟩
          · rw [l1] at q1; exact q1.elim
        · exact q1.elim
      · exact q1.elim
    | _ => exact q1.elim
end Tw
end

section
set_option Elab.async false
set_option linter.all false
set_option maxRecDepth 100000
set_option maxHeartbeats 1000000
/-! Tw, part E: statements, loops, comprehensions. -/
namespace Tw
open PySem PySem.Spec L2
variable {g : Gx} {ρ ρ' : List Addr} {H H' : Hp} {X : Cx} {W : WX} {L : List O} {cm : Nat → Addr} {fx : Hp}

inductive RS where
  | nx (ε : En) (L : List O) | rt (d : D) (L : List O) | bk (ε : En) (L : List O) | ct (ε : En) (L : List O) | ex (c : Nat) (fs : List (Str × D)) (ε : En) (L : List O) | bad
abbrev MS := En → List O → RS
def Rs.bindS {α : Type} (r : Rs α) (ε : En) (f : α → List O → RS) : RS := match r with
  | .ok a L => f a L
  | .ex c fs L => .ex c fs ε L
  | .bad => .bad
def LfS (g : Gx) (ρ : List Addr) (H : Hp) (W : WX) (r : RS) (D : Ends) : Prop := match r with
  | .nx ε' L' => ∀ σ' ρ' H', ρ <+: ρ' → TP H H' → HR g ρ' L' H' → ER g ρ' H' σ' ε' → D.nx σ' H'
  | .rt d L' => ∀ v ρ' H', ρ <+: ρ' → TP H H' → HR g ρ' L' H' → VR g ρ' H' d v → D.rt v H'
  | .bk ε' L' => ∀ σ' ρ' H', ρ <+: ρ' → TP H H' → HR g ρ' L' H' → ER g ρ' H' σ' ε' → D.bk σ' H'
  | .ct ε' L' => ∀ σ' ρ' H', ρ <+: ρ' → TP H H' → HR g ρ' L' H' → ER g ρ' H' σ' ε' → D.ct σ' H'
  | .ex c fs ε' L' => ∀ σ' ρ' H' dx, ρ <+: ρ' → TP H H' → HR g ρ' L' H' → ER g ρ' H' σ' ε' → XR g ρ' H' fs dx → W (.ref (g.cm c)) dx σ' H'
  | .bad => False
def tMS (g : Gx) (W : WX) (m : MS) : TS := fun D σ H => ∃ ε ρ L, ER g ρ H σ ε ∧ HR g ρ L H ∧ LfS g ρ H W (m ε L) D
theorem LfS.mono {D : Ends} {r : RS} (hp : ρ <+: ρ') (ht : TP H H') (h : LfS g ρ H W r D) : LfS g ρ' H' W r D := by
  cases r with
  | nx ε L => exact fun σ' ρ2 H2 p t a b => h σ' ρ2 H2 (hp.trans p) (ht.trans t) a b
  | rt ε L => exact fun σ' ρ2 H2 p t a b => h σ' ρ2 H2 (hp.trans p) (ht.trans t) a b
  | bk ε L => exact fun σ' ρ2 H2 p t a b => h σ' ρ2 H2 (hp.trans p) (ht.trans t) a b
  | ct ε L => exact fun σ' ρ2 H2 p t a b => h σ' ρ2 H2 (hp.trans p) (ht.trans t) a b
  | ex c fs ε L => exact fun σ' ρ2 H2 dx p t a b => h σ' ρ2 H2 dx (hp.trans p) (ht.trans t) a b
  | bad => exact h
theorem LfS.bind {α β : Type} {σ : L2.St} {ε : En} {rel : List Addr → Hp → α → β → Prop} {r : Rs α} {f : α → List O → RS} {D : Ends} {Q1 : β → Hp → Prop} (he : ER g ρ H σ ε) (h : LfS g ρ H W (r.bindS ε f) D)
    (k : ∀ a L' v ρ' H', r = .ok a L' → ρ <+: ρ' → TP H H' → HR g ρ' L' H' → rel ρ' H' a v → LfS g ρ' H' W (f a L') D → Q1 v H') : Lf g ρ H σ W rel r Q1 := by
  cases r with
  | ok a L' => exact fun v ρ' H' hp ht hh hr => k a L' v ρ' H' rfl hp ht hh hr (LfS.mono hp ht h)
  | ex c fs L' => exact fun ρ' H' dx hp ht hh hx => h σ ρ' H' dx hp ht hh (he.mono hp ht) hx
  | bad => exact h
theorem LfS.imp {D D' : Ends} {r : RS} (h : LfS g ρ H W r D) (h1 : ∀ σ H, D.nx σ H → D'.nx σ H) (h2 : ∀ v H, D.rt v H → D'.rt v H) (h3 : ∀ σ H, D.bk σ H → D'.bk σ H) (h4 : ∀ σ H, D.ct σ H → D'.ct σ H) : LfS g ρ H W r D' := by
  cases r with
  | nx ε L => exact fun σ' ρ2 H2 p t a b => h1 _ _ (h σ' ρ2 H2 p t a b)
  | rt ε L => exact fun σ' ρ2 H2 p t a b => h2 _ _ (h σ' ρ2 H2 p t a b)
  | bk ε L => exact fun σ' ρ2 H2 p t a b => h3 _ _ (h σ' ρ2 H2 p t a b)
  | ct ε L => exact fun σ' ρ2 H2 p t a b => h4 _ _ (h σ' ρ2 H2 p t a b)
  | ex c fs ε L => exact h
  | bad => exact h

/-! ### blocks -/
def mNext : MS := fun ε L => .nx ε L
def mSeq (a b : MS) : MS := fun ε L => match a ε L with
  | .nx ε' L' => b ε' L'
  | r => r
theorem sb_nil : PSs X [] (tMS g W mNext) := pss_nil.imp fun D σ H q => by
  obtain ⟨ε, ρ, L, he, hh, q⟩ := q
  exact q σ ρ H (List.prefix_refl _) (TP.refl H) hh he
theorem sb_cons {st : Stmt} {sts : List Stmt} {a b : MS} (h1 : PS X st (tMS g W a)) (h2 : PSs X sts (tMS g W b)) : PSs X (st :: sts) (tMS g W (mSeq a b)) :=
  (pss_cons h1 h2).imp fun D σ H q => by
    obtain ⟨ε, ρ, L, he, hh, q⟩ := q
    refine ⟨ε, ρ, L, he, hh, ?_⟩
    unfold mSeq at q
    cases ha : a ε L with
    | nx ε' L' => rw [ha] at q; exact fun σ' ρ' H' p t h e => ⟨ε', ρ', L', e, h, LfS.mono p t q⟩
    | rt d L' => rw [ha] at q; exact q
    | bk ε' L' => rw [ha] at q; exact q
    | ct ε' L' => rw [ha] at q; exact q
    | ex c fs ε' L' => rw [ha] at q; exact q
    | bad => rw [ha] at q; exact q
theorem sb_one {st : Stmt} {a : MS} (h1 : PS X st (tMS g W a)) : PSs X [st] (tMS g W a) := pss_one h1
def mBad : MS := fun _ _ => .bad
theorem ss_never {st : Stmt} : PS X st (tMS g W mBad) := ps_never.imp fun D σ H q => by
  obtain ⟨ε, ρ, L, he, hh, q⟩ := q
  exact q
theorem ss_pass {pos} : PS X (.Pass pos) (tMS g W mNext) := ps_pass.imp fun D σ H q => by
  obtain ⟨ε, ρ, L, he, hh, q⟩ := q
  exact q σ ρ H (List.prefix_refl _) (TP.refl H) hh he
theorem ss_doc {x j pos pos'} : PS X (.Expr (.Constant (.str x) j pos) pos') (tMS g W mNext) := ps_doc.imp fun D σ H q => by
  obtain ⟨ε, ρ, L, he, hh, q⟩ := q
  exact q σ ρ H (List.prefix_refl _) (TP.refl H) hh he
def mDrop (a : ME) : MS := fun ε L => (a ε L).bindS ε fun _ L1 => .nx ε L1
theorem ss_expr {e : Expr} {a : ME} {pos : Pos} (h : PE X e (tM g W a)) (hs : swapsWith e none pos.line X.env = pure false := by rfl) : PS X (.Expr e pos) (tMS g W (mDrop a)) :=
  (ps_expr h hs).imp fun D σ H q => by
    obtain ⟨ε, ρ, L, he, hh, q⟩ := q
    exact ⟨ε, ρ, L, he, hh, LfS.bind he q fun x L1 v ρ1 H1 _ p1 t1 h1 r1 q1 => q1 σ ρ1 H1 (List.prefix_refl _) (TP.refl H1) h1 (he.mono p1 t1)⟩
def mRet (a : ME) : MS := fun ε L => (a ε L).bindS ε fun x L1 => .rt x L1
theorem ss_ret {e : Expr} {a : ME} {pos} (h : PE X e (tM g W a)) : PS X (.Return (some e) pos) (tMS g W (mRet a)) :=
  (ps_ret h).imp fun D σ H q => by
    obtain ⟨ε, ρ, L, he, hh, q⟩ := q
    exact ⟨ε, ρ, L, he, hh, LfS.bind he q fun x L1 v ρ1 H1 _ p1 t1 h1 r1 q1 => q1 v ρ1 H1 (List.prefix_refl _) (TP.refl H1) h1 r1⟩
def mRetN : MS := fun _ L => .rt .non L
theorem ss_retN {pos} : PS X (.Return none pos) (tMS g W mRetN) := ps_retN.imp fun D σ H q => by
  obtain ⟨ε, ρ, L, he, hh, q⟩ := q
  exact q .non ρ H (List.prefix_refl _) (TP.refl H) hh .non
def mBrk : MS := fun ε L => .bk ε L
def mCnt : MS := fun ε L => .ct ε L
theorem ss_break {pos} : PS X (.Break pos) (tMS g W mBrk) := ps_break.imp fun D σ H q => by
  obtain ⟨ε, ρ, L, he, hh, q⟩ := q
  exact q σ ρ H (List.prefix_refl _) (TP.refl H) hh he
theorem ss_cont {pos} : PS X (.Continue pos) (tMS g W mCnt) := ps_continue.imp fun D σ H q => by
  obtain ⟨ε, ρ, L, he, hh, q⟩ := q
  exact q σ ρ H (List.prefix_refl _) (TP.refl H) hh he
def mIf (c : MB) (a b : MS) : MS := fun ε L => (c ε L).bindS ε fun t L1 => if t = true then a ε L1 else b ε L1
theorem ss_if {ec : Expr} {sa sb : List Stmt} {c : MB} {a b : MS} {pos} (hc : PT X ec (tMB g W c)) (ha : PSs X sa (tMS g W a)) (hb : PSs X sb (tMS g W b)) : PS X (.If ec sa sb pos) (tMS g W (mIf c a b)) :=
  (ps_if hc ha hb).imp fun D σ H q => by
    obtain ⟨ε, ρ, L, he, hh, q⟩ := q
    refine ⟨ε, ρ, L, he, hh, LfS.bind he q fun c L1 v ρ1 H1 _ p1 t1 h1 r1 q1 => ?_⟩
    cases r1
    cases c with
    | true => rw [if_pos rfl] at q1 ⊢; exact ⟨ε, ρ1, L1, he.mono p1 t1, h1, q1⟩
    | false => rw [if_neg (by decide)] at q1 ⊢; exact ⟨ε, ρ1, L1, he.mono p1 t1, h1, q1⟩

/-! ### targets that are names -/
def Upd (is : List Nat) (σ σ' : L2.St) : Prop := σ'.length = σ.length ∧ ∀ j, j ∉ is → σ'[j]? = σ[j]?
theorem Upd.refl (is : List Nat) (σ : L2.St) : Upd is σ σ := ⟨rfl, fun _ _ => rfl⟩
theorem Upd.trans {is : List Nat} {σ σ1 σ2 : L2.St} (a : Upd is σ σ1) (b : Upd is σ1 σ2) : Upd is σ σ2 := ⟨b.1.trans a.1, fun j hj => (b.2 j hj).trans (a.2 j hj)⟩
theorem Upd.set {is : List Nat} {i : Nat} (hi : i ∈ is) (σ : L2.St) (v : Option V) : Upd is σ (σ.set i v) := ⟨by simp, fun j hj => by
  rw [List.getElem?_set_ne]
  rintro rfl
  exact hj hi⟩
theorem Upd.sub {is js : List Nat} {σ σ' : L2.St} (h : ∀ i ∈ is, i ∈ js) (u : Upd is σ σ') : Upd js σ σ' := ⟨u.1, fun j hj => u.2 j fun z => hj (h j z)⟩
structure MG where
  is : List Nat
  f : D → En → Option En
structure MGs where
  is : List Nat
  f : List D → En → Option En
def tMG (g : Gx) (m : MG) : TG := fun v σ H Q => ∃ ρ ε d ε', ER g ρ H σ ε ∧ VR g ρ H d v ∧ m.f d ε = some ε' ∧ ∀ σ', ER g ρ H σ' ε' → Upd m.is σ σ' → Q σ' H
def tMGs (g : Gx) (m : MGs) : TGs := fun vs σ H Q => ∃ ρ ε ds ε', ER g ρ H σ ε ∧ VRs g ρ H ds vs ∧ m.f ds ε = some ε' ∧ ∀ σ', ER g ρ H σ' ε' → Upd m.is σ σ' → Q σ' H
theorem _root_.L2.PG.imp {X : Cx} {e : Expr} {t t' : TG} (h : PG X e t) (k : ∀ v σ H Q, t' v σ H Q → t v σ H Q) : PG X e t' := ⟨fun pins s σ H v u Q I r q => h.run pins s σ H v u Q I r (k v σ H Q q)⟩
theorem _root_.L2.PGs.imp {X : Cx} {e : List Expr} {t t' : TGs} (h : PGs X e t) (k : ∀ v σ H Q, t' v σ H Q → t v σ H Q) : PGs X e t' := ⟨fun pins s σ H v u Q I r q => h.run pins s σ H v u Q I r (k v σ H Q q)⟩
def gNm (i : Nat) : MG := ⟨[i], fun d ε => some (ε.set i (some d))⟩
def gsNil : MGs := ⟨[], fun ds ε => match ds with | [] => some ε | _ => none⟩
def gsCons (a : MG) (r : MGs) : MGs := ⟨a.is ++ r.is, fun ds ε => match ds with
  | d :: ds => (a.f d ε).bind fun ε1 => r.f ds ε1
  | [] => none⟩
def gTupM (n : Nat) (r : MGs) : MG := ⟨r.is, fun d ε => match d with
  | .tup ds => if ds.length = n then r.f ds ε else none
  | _ => none⟩
theorem sg_name {i : Nat} {x : Str} {pos : Pos} (hN : X.N.Nodup) (hi : X.N[i]? = some x) (hx : Loc X.env.scope x := by first | exact .inl rfl | exact .inr rfl) (hf : X.fn x = true ∨ X.env.scope.names.lookup x = some .local := by first | exact .inl rfl | exact .inr rfl) : PG X (.Name x pos) (tMG g (gNm i)) :=
  (pg_name hN hi hx hf).imp fun v σ H Q q => by
    obtain ⟨ρ, ε, d, ε', he, r, e, k⟩ := q
    cases e
    exact k _ (he.set i r) (Upd.set (by simp [gNm]) σ _)
theorem sgs_nil : PGs X [] (tMGs g gsNil) := pgs_nil.imp fun vs σ H Q q => by
  obtain ⟨ρ, ε, ds, ε', he, r, e, k⟩ := q
  cases r with
  | nil => cases e; exact ⟨rfl, k σ he (Upd.refl _ _)⟩
  | cons _ _ => cases e
theorem sgs_cons {e : Expr} {es : List Expr} {a : MG} {r : MGs} (h1 : PG X e (tMG g a)) (h2 : PGs X es (tMGs g r)) (hs : (assignEach (e :: es) X.env).map (·.2) = assign e X.env :: (assignEach es X.env).map (·.2) := by rfl) : PGs X (e :: es) (tMGs g (gsCons a r)) :=
  (pgs_cons h1 h2 hs).imp fun vs σ H Q q => by
    obtain ⟨ρ, ε, ds, ε', he, rr, e, k⟩ := q
    cases rr with
    | nil => cases e
    | cons rd rt =>
      simp only [gsCons] at e
      cases h1 : a.f _ ε with
      | none => rw [h1] at e; cases e
      | some ε1 =>
        rw [h1] at e
        refine ⟨_, _, rfl, ρ, ε, _, ε1, he, rd, h1, fun σ1 he1 u1 => ?_⟩
        refine ⟨ρ, ε1, _, ε', he1, rt, e, fun σ2 he2 u2 => k σ2 he2 ?_⟩
        exact (u1.sub fun i hi => List.mem_append_left _ hi).trans (u2.sub fun i hi => List.mem_append_right _ hi)
theorem sg_tup {es : List Expr} {k : Nat} {r : MGs} {n : Nat} {pos} (hc : X.calm = true) (h : PGs X es (tMGs ⟨X.K, cm, fx, X.w⟩ r)) (hn : (assignEach es X.env).length = n := by rfl) (hst : (assignEach es X.env).findIdx? (·.1) = none := by rfl) : PG X (.Tuple es k pos) (tMG ⟨X.K, cm, fx, X.w⟩ (gTupM n r)) :=
  (pg_tup hc h hn hst).imp fun v σ H Q q => by
    obtain ⟨ρ, ε, d, ε', he, rr, e, k⟩ := q
    simp only [gTupM] at e
    cases rr with
    | tup s t =>
      simp only at e
      split at e
      · rename_i hz
        exact ⟨_, _, rfl, s.sq, by rw [← t.length]; exact hz, ρ, ε, _, ε', he, t, e, k⟩
      · cases e
    | _ => cases e
/-- target = value, the target made of names -/
def mAsg (a : ME) (t : MG) : MS := fun ε L => (a ε L).bindS ε fun x L1 => match t.f x ε with
  | some ε' => .nx ε' L1
  | none => .bad
theorem ss_asg {tg e : Expr} {a : ME} {t : MG} {pos : Pos} (he : PE X e (tM g W a)) (hg : PG X tg (tMG g t)) (hs : swapsWithSole [tg] e pos.line X.env = pure false := by rfl) (hw : swappedStores [tg] e X.env = pure none := by rfl)
    (h1 : (assignEach [tg] X.env).map (·.2) = [assign tg X.env] := by rfl) : PS X (.Assign [tg] e pos) (tMS g W (mAsg a t)) :=
  (ps_asg he hg hs hw h1).imp fun D σ H q => by
    obtain ⟨ε, ρ, L, he, hh, q⟩ := q
    refine ⟨ε, ρ, L, he, hh, LfS.bind he q fun x L1 v ρ1 H1 _ p1 t1 h1 r1 q1 => ?_⟩
    cases ht : t.f x ε with
    | none => rw [ht] at q1; exact q1.elim
    | some ε' =>
      rw [ht] at q1
      exact ⟨ρ1, ε, x, ε', he.mono p1 t1, r1, ht, fun σ' he' _ => q1 σ' ρ1 H1 (List.prefix_refl _) (TP.refl H1) h1 he'⟩
def mSet (i : Nat) (a : ME) : MS := fun ε L => (a ε L).bindS ε fun x L1 => .nx (ε.set i (some x)) L1
theorem ss_set {i : Nat} {x : Str} {e : Expr} {a : ME} {pos pos' : Pos} (hN : X.N.Nodup) (hi : X.N[i]? = some x) (he : PE X e (tM g W a)) (hx : Loc X.env.scope x := by first | exact .inl rfl | exact .inr rfl) (hs : swapsWith e (some (.Name x pos')) pos.line X.env = pure false := by rfl)
    (hf : X.fn x = true ∨ X.env.scope.names.lookup x = some .local := by first | exact .inl rfl | exact .inr rfl) : PS X (.Assign [.Name x pos'] e pos) (tMS g W (mSet i a)) :=
  (ps_set hN hi hx he hs hf).imp fun D σ H q => by
    obtain ⟨ε, ρ, L, he, hh, q⟩ := q
    exact ⟨ε, ρ, L, he, hh, LfS.bind he q fun x L1 v ρ1 H1 _ p1 t1 h1 r1 q1 => q1 _ ρ1 H1 (List.prefix_refl _) (TP.refl H1) h1 ((he.mono p1 t1).set i r1)⟩
/-- a, b = x, y with two local names: no tuple is made -/
def mPar (i j : Nat) (r : MA) : MS := fun ε L => (r ε L).bindS ε fun xs L1 => match xs with
  | [x, y] => .nx ((ε.set i (some x)).set j (some y)) L1
  | _ => .bad
theorem ss_par {i j : Nat} {x y : Str} {a b : Expr} {r : MA} {px py pt pos : Pos} {kt k2 pt2} (hc : X.calm = true) (hN : X.N.Nodup) (hi : X.N[i]? = some x) (hj : X.N[j]? = some y) (hij : i ≠ j) (ha : PA X [a, b] (tMA g W r))
    (hx : X.env.scope.names.lookup x = some .local := by rfl) (hy : X.env.scope.names.lookup y = some .local := by rfl)
    (hw : swappedStores [.Tuple [.Name x px, .Name y py] kt pt] (.Tuple [a, b] k2 pt2) X.env = pure (some [x, y]) := by rfl)
    (hs : swapsWithSole [.Tuple [.Name x px, .Name y py] kt pt] (.Tuple [a, b] k2 pt2) pos.line X.env = pure false := by rfl) :
    PS X (.Assign [.Tuple [.Name x px, .Name y py] kt pt] (.Tuple [a, b] k2 pt2) pos) (tMS g W (mPar i j r)) :=
  (ps_par hc hN hi hj hij hx hy ha hw hs).imp fun D σ H q => by
    obtain ⟨ε, ρ, L, he, hh, q⟩ := q
    refine ⟨ε, ρ, L, he, hh, LfS.bind he q fun xs L1 vs ρ1 H1 _ p1 t1 h1 r1 q1 => ?_⟩
    split at q1
    · obtain ⟨v, u, rfl, a, b⟩ := r1.two
      exact ⟨v, u, rfl, q1 _ ρ1 H1 (List.prefix_refl _) (TP.refl H1) h1 (((he.mono p1 t1).set i a).set j b)⟩
    · exact q1.elim

/-! ### o.f = e; o[i] = e -/
def mFldSet (c : Nat) (f : Str) (o v : ME) : MS := fun ε L => (v ε L).bindS ε fun y L1 => (o ε L1).bindS ε fun x L2 => match x with
  | .ref n => match L2[n]? with
    | some (.ins c' fs) => if c' = c ∧ fs.length < 100 then .nx ε (L2.set n (.ins c (putD f y fs))) else .bad
    | _ => .bad
  | _ => .bad
theorem ss_fld {o e : Expr} {mo mv : ME} {c : Nat} {f : Str} {pos pos' : Pos} (ho : PE X o (tM ⟨X.K, cm, fx, X.w⟩ W mo)) (hv : PE X e (tM ⟨X.K, cm, fx, X.w⟩ W mv)) (hc : Cls X.K (cm c)) (hn : NoAttr X.K (cm c) f)
    (hs : swapsWith e (some (.Attribute o f pos')) pos.line X.env = pure false := by rfl) : PS X (.Assign [.Attribute o f pos'] e pos) (tMS ⟨X.K, cm, fx, X.w⟩ W (mFldSet c f mo mv)) :=
  (ps_fld ho hv hs).imp fun D σ H q => by
    obtain ⟨ε, ρ, L, he, hh, q⟩ := q
    refine ⟨ε, ρ, L, he, hh, LfS.bind he q fun y L1 yv ρ1 H1 _ p1 t1 h1 r1 q1 => ?_⟩
    refine ⟨ε, ρ1, L1, he.mono p1 t1, h1, LfS.bind (he.mono p1 t1) q1 fun x L2 xv ρ2 H2 _ p2 t2 h2 r2 q2 => ?_⟩
    cases r2 with
    | ref ea =>
      simp only at q2
      split at q2
      · rename_i c' fs hi
        split at q2
        · rename_i hz
          obtain ⟨rfl, hz⟩ := hz
          obtain ⟨dx, vs, e1, fr⟩ := h2.ins hi ea
          refine ⟨_, _, dx, vs, rfl, e1, hc, hn, by rw [← fr.length]; omega, ?_⟩
          have tt : TP H2 (upd H2 _ (.ins (cm c') dx (putF f yv vs))) := TP.mut e1 rfl
          exact q2 σ ρ2 _ (List.prefix_refl _) tt (h2.set ea e1 rfl ⟨dx, _, upd_same, ((fr.put (r1.mono p2 t2)).mono (List.prefix_refl _) tt)⟩) (((he.mono p1 t1).mono p2 t2).mono (List.prefix_refl _) tt)
        · exact q2.elim
      · exact q2.elim
    | _ => exact q2.elim
/-- o[i] = v by values -/
def putKD (ks : List (Key × D)) (k : Key) (v : D) : List (Key × D) := if (ks.any fun kv => decide (kv.1 = k)) = true then ks.map (fun kv => if kv.1 = k then (kv.1, v) else kv) else ks ++ [(k, v)]
theorem KR.any {ks : List (Key × D)} {vs : List (Key × V)} (r : KR g ρ H ks vs) (k : Key) : (ks.any fun kv => decide (kv.1 = k)) = (vs.any fun kv => decide (kv.1 = k)) := by
  induction r with
  | nil => rfl
  | cons r t ih => rw [List.any_cons, List.any_cons, ih]
theorem KR.snoc {ks : List (Key × D)} {vs : List (Key × V)} (r : KR g ρ H ks vs) {k : Key} {d : D} {v : V} (q : VR g ρ H d v) : KR g ρ H (ks ++ [(k, d)]) (vs ++ [(k, v)]) := by
  induction r with
  | nil => exact .cons q .nil
  | cons r t ih => exact .cons r ih
theorem KR.repl {ks : List (Key × D)} {vs : List (Key × V)} (r : KR g ρ H ks vs) {k : Key} {d : D} {v : V} (q : VR g ρ H d v) : KR g ρ H (ks.map (fun kv => if kv.1 = k then (kv.1, d) else kv)) (vs.map (fun kv => if kv.1 = k then (kv.1, v) else kv)) := by
  induction r with
  | nil => exact .nil
  | cons r t ih =>
    rw [List.map_cons, List.map_cons]
    simp only
    split
    · exact .cons q ih
    · exact .cons r ih
theorem KR.put {ks : List (Key × D)} {vs : List (Key × V)} (r : KR g ρ H ks vs) {k : Key} {d : D} {v : V} (q : VR g ρ H d v) : KR g ρ H (putKD ks k d) (putK vs k v) := by
  unfold putKD putK
  rw [r.any]
  split
  · exact r.repl q
  · exact r.snoc q
def oPut (x y v : D) (L : List O) : Option (List O) := match x with
  | .ref n => match L[n]? with
    | some (.lst ds) => match y with
      | .int i => (ixN ds.length i).map fun j => L.set n (.lst (ds.set j v))
      | _ => none
    | some (.dic false ks) => match keyD y with
      | some k => if ks.length < most then some (L.set n (.dic false (putKD ks k v))) else none
      | none => none
    | _ => none
  | _ => none
theorem set_dict (hu : X.A.units + 65 < cLine) : PSet X (fun o i v H Q => ∃ a H', o = .ref a ∧ DPut H a i v H' ∧ Q H') := by
  rintro pins s σ H o i v ov iv u Q I ro ri rv ⟨a, H', rfl, dp, q⟩
  cases ro
  exact d_setItem (by omega) I dp ri rv fun s' I' => ⟨H', I', q⟩
theorem PSet.or {t t' : TSet} (h : PSet X t) (h' : PSet X t') : PSet X (fun o i v H Q => t o i v H Q ∨ t' o i v H Q) := fun pins s σ H o i v ov iv u Q I ro ri rv q =>
  q.elim (h pins s σ H o i v ov iv u Q I ro ri rv) (h' pins s σ H o i v ov iv u Q I ro ri rv)
theorem set_oPut (hu : X.A.units + 65 < cLine) : PSet X (fun o i v H Q => ∃ ρ L x y z L', HR ⟨X.K, cm, fx, X.w⟩ ρ L H ∧ VR ⟨X.K, cm, fx, X.w⟩ ρ H x o ∧ VR ⟨X.K, cm, fx, X.w⟩ ρ H y i ∧ VR ⟨X.K, cm, fx, X.w⟩ ρ H z v ∧ oPut x y z L = some L' ∧ ∀ H', TP H H' → HR ⟨X.K, cm, fx, X.w⟩ ρ L' H' → Q H') := by
  intro pins s σ H o i v ov iv u Q I ro ri rv q
  refine PSet.or set_list (set_dict hu) pins s σ H o i v ov iv u Q I ro ri rv ?_
  obtain ⟨ρ, L, x, y, z, L', hh, rx, ry, rz, e, k⟩ := q
  unfold oPut at e
  split at e
  · cases rx with
    | ref ea =>
      split at e
      · rename_i ds h1
        obtain ⟨vs, b1, b2⟩ := hh.lst h1 ea
        split at e
        · rename_i i
          cases ry
          cases hj : ixN ds.length i with
          | none => rw [hj] at e; cases e
          | some j =>
            rw [hj] at e
            cases e
            have tt : TP H (upd H _ (.lst (vs.set j v))) := TP.mut b1 rfl
            refine .inl ⟨_, vs, i, j, rfl, rfl, b1, by rw [← b2.length]; exact hj, k _ tt ?_⟩
            exact hh.set ea b1 rfl ⟨_, upd_same, (b2.set rz j).mono (List.prefix_refl _) tt⟩
        · cases e
      · rename_i ks h1
        obtain ⟨vs, b1, b2⟩ := hh.ob _ _ _ h1 ea
        split at e
        · rename_i kk hk
          split at e
          · rename_i hz
            cases e
            obtain rfl := keyD_ok ry hk
            have tt : TP H (upd H _ (.dK (putK vs kk v))) := TP.mut b1 rfl
            refine .inr ⟨_, _, rfl, DPut.k b1 (Nat.lt_of_lt_of_le (by rw [← b2.length]; exact hz) (most_le (Nat.le_refl _))), k _ tt ?_⟩
            exact hh.set ea b1 rfl ⟨_, upd_same, (b2.put rz).mono (List.prefix_refl _) tt⟩
          · cases e
        · cases e
      · cases e
  · cases e
def mPut (o i v : ME) : MS := fun ε L => (v ε L).bindS ε fun z L1 => (o ε L1).bindS ε fun x L2 => (i ε L2).bindS ε fun y L3 => match oPut x y z L3 with
  | some L4 => .nx ε L4
  | none => .bad
theorem ss_put (hu : X.A.units + 65 < cLine) {o i e : Expr} {mo mi mv : ME} {pos pos' : Pos} (ho : PE X o (tM ⟨X.K, cm, fx, X.w⟩ W mo)) (hi : PE X i (tM ⟨X.K, cm, fx, X.w⟩ W mi)) (hv : PE X e (tM ⟨X.K, cm, fx, X.w⟩ W mv))
    (ha : ∀ v, assign (.Subscript o i pos') X.env v = (do
      let ov ← holding [v] (eval o X.env)
      let iv ← holding [v, ov] (eval i X.env)
      standAt pos'
      holding [v, ov, iv] (setItem ov iv v)
      release [v, ov, iv] []) := by exact fun _ => rfl)
    (hs : swapsWithSole [.Subscript o i pos'] e pos.line X.env = pure false := by rfl) (hw : swappedStores [.Subscript o i pos'] e X.env = pure none := by rfl)
    (h1 : (assignEach [.Subscript o i pos'] X.env).map (·.2) = [assign (.Subscript o i pos') X.env] := by rfl) : PS X (.Assign [.Subscript o i pos'] e pos) (tMS ⟨X.K, cm, fx, X.w⟩ W (mPut mo mi mv)) :=
  (ps_asg hv (pg_sub ho hi (set_oPut hu) ha) hs hw h1).imp fun D σ H q => by
    obtain ⟨ε, ρ, L, he, hh, q⟩ := q
    refine ⟨ε, ρ, L, he, hh, LfS.bind he q fun z L1 zv ρ1 H1 _ p1 t1 h1 r1 q1 => ?_⟩
    refine ⟨ε, ρ1, L1, he.mono p1 t1, h1, LfS.bind (he.mono p1 t1) q1 fun x L2 xv ρ2 H2 _ p2 t2 h2 r2 q2 => ?_⟩
    have he2 := (he.mono p1 t1).mono p2 t2
    refine ⟨ε, ρ2, L2, he2, h2, LfS.bind he2 q2 fun y L3 yv ρ3 H3 _ p3 t3 h3 r3 q3 => ?_⟩
    cases hp : oPut x y z L3 with
    | none => rw [hp] at q3; exact q3.elim
    | some L4 =>
      rw [hp] at q3
      exact ⟨ρ3, L3, x, y, z, L4, h3, r2.mono p3 t3, r3, (r1.mono p2 t2).mono p3 t3, hp, fun H4 t4 h4 => q3 σ ρ3 H4 (List.prefix_refl _) t4 h4 ((he2.mono p3 t3).mono (List.prefix_refl _) t4)⟩
end Tw
end

section
set_option Elab.async false
set_option linter.all false
set_option maxRecDepth 100000
set_option maxHeartbeats 1000000
/-! Tw, part F: what is walked, for, while, comprehensions over lists, tuples, ranges. -/
namespace Tw
open PySem PySem.Spec L2
variable {g : Gx} {ρ ρ' : List Addr} {H H' : Hp} {X : Cx} {W : WX} {L : List O} {cm : Nat → Addr} {fx : Hp}

/-! ### what is walked -/
structure Src where
  ds : List D
  at_ : Option (Nat × O)
def Src.ok (s : Src) (L : List O) : Bool := match s.at_ with
  | none => true
  | some (n, o) => decide (L[n]? = some o)
abbrev MI := En → List O → Rs Src
structure Wk (g : Gx) (ρ₀ : List Addr) (H₀ : Hp) (src : Src) (J : It) : Prop where
  go : ∀ (i : Nat) ρ' L' H, i < src.ds.length → ρ₀ <+: ρ' → TP H₀ H → HR g ρ' L' H → src.ok L' = true → J.go i H
  stop : ∀ ρ' L' H, ρ₀ <+: ρ' → TP H₀ H → HR g ρ' L' H → src.ok L' = true → J.stop src.ds.length H
  yld : ∀ (i : Nat) d ρ' L' H x H', src.ds[i]? = some d → ρ₀ <+: ρ' → TP H₀ H → HR g ρ' L' H → src.ok L' = true → J.yld i H x H' → TP H H' ∧ HR g ρ' L' H' ∧ VR g ρ' H' d x
def relW (g : Gx) : List Addr → Hp → Src → It → Prop := fun ρ H src J => Wk g ρ H src J
def tMI (g : Gx) (W : WX) (mi : MI) : TI := fun σ H R => ∃ ε ρ L, ER g ρ H σ ε ∧ HR g ρ L H ∧ Lf g ρ H σ W (relW g) (mi ε L) R
theorem _root_.L2.PI.imp {X : Cx} {tg e : Expr} {t t' : TI} (h : PI X tg e t) (k : ∀ σ H Q, t' σ H Q → t σ H Q) : PI X tg e t' := ⟨fun pins s σ H Q I q => h.run pins s σ H Q I (k σ H Q q)⟩
theorem PI.or {X : Cx} {tg e : Expr} {t t' : TI} (h : PI X tg e t) (h' : PI X tg e t') : PI X tg e (fun σ H R => t σ H R ∨ t' σ H R) := ⟨fun pins s σ H Q I q => q.elim (h.run pins s σ H Q I) (h'.run pins s σ H Q I)⟩
/-- the items of a list that stands, of a tuple -/
def mIter (a : ME) : MI := fun ε L => (a ε L).bind fun x L1 => match x with
  | .tup ds => .ok ⟨ds, none⟩ L1
  | .rol ds => .ok ⟨ds, none⟩ L1
  | .ref n => match L1[n]? with
    | some (.lst ds) => .ok ⟨ds, some (n, .lst ds)⟩ L1
    | _ => .bad
  | _ => .bad
theorem wk_tup {ds : List D} {a : Addr} {vs : List V} (s : SqT g.K H a vs) (t : VRs g ρ H ds vs) : Wk g ρ H ⟨ds, none⟩ (Itt g.K a) where
  go := fun i ρ' L' H' hi p tt _ _ => by
    have := t.length
    exact ⟨vs, vs[i]'(by rw [← this]; exact hi), tt.rd s, by simp⟩
  stop := fun ρ' L' H' p tt _ _ => ⟨vs, tt.rd s, by rw [← t.length]; exact Nat.le_refl _⟩
  yld := fun i d ρ' L' H' x H2 e p tt hh _ y => by
    obtain ⟨rfl, y⟩ := y
    obtain ⟨v, ev, r⟩ := t.get e
    have := y vs (tt.rd s)
    rw [ev] at this
    cases this
    exact ⟨TP.refl _, hh, r.mono p tt⟩
theorem wk_rol {ds : List D} {a : Addr} {vs : List V} (s : RoL g.K H a vs) (t : VRs g ρ H ds vs) : Wk g ρ H ⟨ds, none⟩ (Itl g.K a) where
  go := fun i ρ' L' H' hi p tt _ _ => by
    have := t.length
    exact ⟨vs, vs[i]'(by rw [← this]; exact hi), (tt.rol s).seq, by simp⟩
  stop := fun ρ' L' H' p tt _ _ => ⟨vs, (tt.rol s).seq, by rw [← t.length]; exact Nat.le_refl _⟩
  yld := fun i d ρ' L' H' x H2 e p tt hh _ y => by
    obtain ⟨rfl, y⟩ := y
    obtain ⟨v, ev, r⟩ := t.get e
    have := y vs (tt.rol s).seq
    rw [ev] at this
    cases this
    exact ⟨TP.refl _, hh, r.mono p tt⟩
theorem ok_at {src : Src} {n : Nat} {o : O} (h : (⟨ds, some (n, o)⟩ : Src).ok L = true) : L[n]? = some o := of_decide_eq_true h
theorem wk_lst {ds : List D} {n : Nat} {a : Addr} (ea : ρ[n]? = some a) : Wk g ρ H ⟨ds, some (n, .lst ds)⟩ (Itl g.K a) where
  go := fun i ρ' L' H' hi p tt hh ok => by
    obtain ⟨vs, b1, b2⟩ := hh.lst (of_decide_eq_true ok) (pre_get p ea)
    have := b2.length
    exact ⟨vs, vs[i]'(by rw [← this]; exact hi), SqL.of b1, by simp⟩
  stop := fun ρ' L' H' p tt hh ok => by
    obtain ⟨vs, b1, b2⟩ := hh.lst (of_decide_eq_true ok) (pre_get p ea)
    exact ⟨vs, SqL.of b1, by rw [← b2.length]; exact Nat.le_refl _⟩
  yld := fun i d ρ' L' H' x H2 e p tt hh ok y => by
    obtain ⟨rfl, y⟩ := y
    obtain ⟨vs, b1, b2⟩ := hh.lst (of_decide_eq_true ok) (pre_get p ea)
    obtain ⟨v, ev, r⟩ := b2.get e
    have := y vs (SqL.of b1)
    rw [ev] at this
    cases this
    exact ⟨TP.refl _, hh, r⟩
theorem si_iter {tg e : Expr} {a : ME} (h : PE X e (tM ⟨X.K, cm, fx, X.w⟩ W a)) : PI X tg e (tMI ⟨X.K, cm, fx, X.w⟩ W (mIter a)) :=
  (PI.or (pi_list h) (pi_tup h)).imp fun σ H R q => by
    obtain ⟨ε, ρ, L, he, hh, q⟩ := q
    -- which of both is known from the value
    by_cases ht : ∃ ds L1, a ε L = .ok (.tup ds) L1
    · obtain ⟨ds, L1, ht⟩ := ht
      refine .inr ⟨ε, ρ, L, he, hh, Lf.bind q fun x L1 v ρ1 H1 e1 p1 t1 h1 r1 q1 => ?_⟩
      rw [ht] at e1
      cases e1
      cases r1 with
      | tup s t => exact ⟨_, rfl, ⟨_, s.sq⟩, q1 _ ρ1 H1 (List.prefix_refl _) (TP.refl H1) h1 (wk_tup s.sq t)⟩
    · refine .inl ⟨ε, ρ, L, he, hh, Lf.bind q fun x L1 v ρ1 H1 e1 p1 t1 h1 r1 q1 => ?_⟩
      cases r1 with
      | tup s t => exact (ht ⟨_, _, e1⟩).elim
      | rol s t => exact ⟨_, rfl, ⟨_, s.seq⟩, q1 _ ρ1 H1 (List.prefix_refl _) (TP.refl H1) h1 (wk_rol s t)⟩
      | ref ea =>
        simp only at q1
        split at q1
        · rename_i ds h2
          obtain ⟨vs, b1, b2⟩ := h1.lst h2 ea
          exact ⟨_, rfl, ⟨_, SqL.of b1⟩, q1 _ ρ1 H1 (List.prefix_refl _) (TP.refl H1) h1 (wk_lst ea)⟩
        · exact q1.elim
      | _ => exact q1.elim
def rngD (lo : Int) (n : Nat) : List D := (List.range n).map fun (k : Nat) => .int (lo + k)
theorem rngD_len (lo : Int) (n : Nat) : (rngD lo n).length = n := by simp [rngD]
theorem wk_rng {lo : Int} {n : Nat} : Wk g ρ H ⟨rngD lo n, none⟩ (Itr lo n) where
  go := fun i ρ' L' H' hi p tt _ _ => by rw [rngD_len] at hi; exact hi
  stop := fun ρ' L' H' p tt _ _ => by show n ≤ _; rw [rngD_len]; exact Nat.le_refl _
  yld := fun i d ρ' L' H' x H2 e p tt hh _ y => by
    obtain ⟨rfl, rfl⟩ := y
    have hi : i < n := by
      obtain ⟨q, _⟩ := List.getElem?_eq_some_iff.mp e
      rw [rngD_len] at q; exact q
    simp only [rngD, List.getElem?_map, List.getElem?_range hi, Option.map_some, Option.some.injEq] at e
    subst e
    exact ⟨TP.refl _, hh, .int _⟩
/-- range(n), range(lo, n) -/
def mRng1 (a : ME) : MI := fun ε L => (a ε L).bind fun x L1 => match x with
  | .int n => if -1000000 ≤ n ∧ n ≤ 1000000 then .ok ⟨rngD 0 n.toNat, none⟩ L1 else .bad
  | _ => .bad
def mRng2 (a b : ME) : MI := fun ε L => (a ε L).bind fun x L1 => (b ε L1).bind fun y L2 => match x, y with
  | .int lo, .int n => if -1000000 ≤ lo ∧ lo ≤ 1000000 ∧ -1000000 ≤ n ∧ n ≤ 1000000 then .ok ⟨rngD lo (n - lo).toNat, none⟩ L2 else .bad
  | _, _ => .bad
theorem si_rng1 {tg e : Expr} {a : ME} {p pos} (hg : Gl X "range") (hm : X.mg "range" = none) (h : PA X [e] (tCons (tM g W a) tNil)) (hs : starEach [e] X.env = [(false, eval e X.env)] := by rfl) : PI X tg (.Call (.Name "range" p) [e] [] pos) (tMI g W (mRng1 a)) :=
  (pi_range1 hg hm h hs).imp fun σ H R q => by
    obtain ⟨ε, ρ, L, he, hh, q⟩ := q
    refine ⟨ε, ρ, L, he, hh, Lf.bind q fun x L1 v ρ1 H1 e1 p1 t1 h1 r1 q1 => ?_⟩
    cases r1 with
    | int n =>
      simp only at q1
      split at q1
      · rename_i hz
        refine ⟨n, rfl, by omega, by omega, q1 _ ρ1 H1 (List.prefix_refl _) (TP.refl H1) h1 wk_rng⟩
      · exact q1.elim
    | _ => exact q1.elim
theorem si_rng2 {tg e1 e2 : Expr} {a b : ME} {p pos} (hg : Gl X "range") (hm : X.mg "range" = none) (h : PA X [e1, e2] (tCons (tM g W a) (tCons (tM g W b) tNil))) (hs : starEach [e1, e2] X.env = [(false, eval e1 X.env), (false, eval e2 X.env)] := by rfl) (hs2 : starEach [e2] X.env = [(false, eval e2 X.env)] := by rfl) :
    PI X tg (.Call (.Name "range" p) [e1, e2] [] pos) (tMI g W (mRng2 a b)) :=
  (pi_range2 hg hm h hs hs2).imp fun σ H R q => by
    obtain ⟨ε, ρ, L, he, hh, q⟩ := q
    refine ⟨ε, ρ, L, he, hh, Lf.bind q fun x L1 v ρ1 H1 e1 p1 t1 h1 r1 q1 => ?_⟩
    refine ⟨ε, ρ1, L1, he.mono p1 t1, h1, Lf.bind q1 fun y L2 u ρ2 H2 e2 p2 t2 h2 r2 q2 => ?_⟩
    split at q2
    · cases r1; cases r2
      split at q2
      · rename_i hz
        exact ⟨_, _, rfl, by omega, q2 _ ρ2 H2 (List.prefix_refl _) (TP.refl H2) h2 wk_rng⟩
      · exact q2.elim
    · exact q2.elim

/-! ### for -/
def loopF (src : Src) (t : MG) (body : MS) : List D → MS
  | [], ε, L => if src.ok L = true then .nx ε L else .bad
  | d :: ds, ε, L => if src.ok L = true then (match t.f d ε with
    | none => .bad
    | some ε1 => match body ε1 L with
      | .nx ε2 L2 => loopF src t body ds ε2 L2
      | .ct ε2 L2 => loopF src t body ds ε2 L2
      | .bk ε2 L2 => .nx ε2 L2
      | r => r) else .bad
def mFor (mi : MI) (t : MG) (body : MS) : MS := fun ε L => (mi ε L).bindS ε fun src L1 => loopF src t body src.ds ε L1
theorem drop_cons {α : Type} {l : List α} {i : Nat} (h : i < l.length) : ∃ d, l[i]? = some d ∧ l.drop i = d :: l.drop (i + 1) := ⟨l[i], by simp, by rw [List.drop_eq_getElem_cons h]⟩
theorem loopF_ok {src : Src} {t : MG} {body : MS} {ds : List D} {ε : En} {D : Ends} (h : LfS g ρ H W (loopF src t body ds ε L) D) : src.ok L = true := by
  cases hk : src.ok L with
  | true => rfl
  | false =>
    cases ds with
    | nil => unfold loopF at h; rw [hk] at h; exact h.elim
    | cons d ds => unfold loopF at h; rw [hk] at h; exact h.elim
theorem ss_for {tg iter : Expr} {sts : List Stmt} {mi : MI} {t : MG} {body : MS} {pos : Pos} (hp : PassesOwn (model X.prog X.w) X.A X.env X.xe) (hc : X.calm = true) (hi : PI X tg iter (tMI g W mi)) (hg : PG X tg (tMG g t)) (hb : PSs X sts (tMS g W body))
    (hs : ∀ x, foldedSetIterable iter X.env x = pure x := by intro _; rfl) : PS X (.For tg iter sts [] pos) (tMS g W (mFor mi t body)) :=
  (ps_for hp hc hi hg hb hs).imp fun D σ H q => by
    obtain ⟨ε, ρ, L, he, hh, q⟩ := q
    refine ⟨ε, ρ, L, he, hh, LfS.bind he q fun src L1 J ρ1 H1 _ p1 t1 h1 wk q1 => ?_⟩
    let Wd : Nat → Nat → L2.St → Hp → Prop := fun i m σ H => m = src.ds.length - i ∧ i ≤ src.ds.length ∧ ∃ ρ' L' ε', ρ1 <+: ρ' ∧ TP H1 H ∧ HR g ρ' L' H ∧ ER g ρ' H σ ε' ∧ LfS g ρ' H W (loopF src t body (src.ds.drop i) ε' L') D
    refine ⟨Wd,
      ⟨_, rfl, Nat.zero_le _, ρ1, L1, ε, List.prefix_refl _, TP.refl H1, h1, he.mono p1 t1, q1⟩, ?_⟩
    rintro i m σ2 H2 ⟨rfl, hi, ρ2, L2, ε2, p2, t2, h2, he2, q2⟩
    have hok := loopF_ok q2
    by_cases hlt : i < src.ds.length
    · obtain ⟨d, hd, hdr⟩ := drop_cons hlt
      rw [hdr] at q2
      unfold loopF at q2
      rw [if_pos hok] at q2
      refine .inr ⟨wk.go i ρ2 L2 H2 hlt p2 t2 h2 hok, Wd (i + 1) (src.ds.length - (i + 1)), fun σ' H' n => ⟨src.ds.length - (i + 1), by omega, n⟩, fun x H3 y => ?_⟩
      · obtain ⟨t3, h3, r3⟩ := wk.yld i d ρ2 L2 H2 x H3 hd p2 t2 h2 hok y
        cases ht : t.f d ε2 with
        | none => rw [ht] at q2; exact q2.elim
        | some ε3 =>
          rw [ht] at q2
          simp only at q2
          refine ⟨ρ2, ε2, d, ε3, he2.mono (List.prefix_refl _) t3, r3, ht, fun σ4 he4 _ => ?_⟩
          refine ⟨ε3, ρ2, L2, he4, h3, ?_⟩
          have t23 := t2.trans t3
          cases hbd : body ε3 L2 with
          | nx ε5 L5 =>
            rw [hbd] at q2
            exact fun σ' ρ' H' p t' a b => ⟨rfl, hlt, ρ', L5, ε5, p2.trans p, t23.trans t', a, b, LfS.mono p (t3.trans t') q2⟩
          | ct ε5 L5 =>
            rw [hbd] at q2
            exact fun σ' ρ' H' p t' a b => ⟨rfl, hlt, ρ', L5, ε5, p2.trans p, t23.trans t', a, b, LfS.mono p (t3.trans t') q2⟩
          | bk ε5 L5 =>
            rw [hbd] at q2
            exact fun σ' ρ' H' p t' a b => q2 σ' ρ' H' p (t3.trans t') a b
          | rt d L5 =>
            rw [hbd] at q2
            exact fun v ρ' H' p t' a b => q2 v ρ' H' p (t3.trans t') a b
          | ex c fs ε5 L5 =>
            rw [hbd] at q2
            exact fun σ' ρ' H' dx p t' a b => q2 σ' ρ' H' dx p (t3.trans t') a b
          | bad => rw [hbd] at q2; exact q2.elim
    · have e : i = src.ds.length := by omega
      subst e
      rw [List.drop_length] at q2
      unfold loopF at q2
      rw [if_pos hok] at q2
      exact .inl ⟨wk.stop ρ2 L2 H2 p2 t2 h2 hok, q2 σ2 ρ2 H2 (List.prefix_refl _) (TP.refl H2) h2 he2⟩

/-! ### while -/
def loopW (c : MB) (body : MS) : Nat → MS
  | 0, _, _ => .bad
  | n + 1, ε, L => (c ε L).bindS ε fun t L1 => if t = true then (match body ε L1 with
      | .nx ε2 L2 => loopW c body n ε2 L2
      | .ct ε2 L2 => loopW c body n ε2 L2
      | .bk ε2 L2 => .nx ε2 L2
      | r => r) else .nx ε L1
theorem ss_while {ec : Expr} {sts : List Stmt} {c : MB} {body : MS} {pos : Pos} (n : Nat) (hp : PassesOwn (model X.prog X.w) X.A X.env X.xe) (hc : PT X ec (tMB g W c)) (hb : PSs X sts (tMS g W body)) : PS X (.While ec sts [] pos) (tMS g W (loopW c body n)) :=
  (ps_while hp hc hb).imp fun D σ H q => by
    obtain ⟨ε, ρ, L, he, hh, q⟩ := q
    refine ⟨fun m σ H => ∃ ρ' L' ε', HR g ρ' L' H ∧ ER g ρ' H σ ε' ∧ LfS g ρ' H W (loopW c body m ε' L') D, ⟨n, ρ, L, ε, hh, he, q⟩, ?_⟩
    rintro m σ1 H1 ⟨ρ1, L1, ε1, h1, he1, q1⟩
    cases m with
    | zero => exact q1.elim
    | succ m =>
      unfold loopW at q1
      refine ⟨ε1, ρ1, L1, he1, h1, LfS.bind he1 q1 fun b L2 v ρ2 H2 _ p2 t2 h2 r2 q2 => ?_⟩
      cases r2
      have he2 := he1.mono p2 t2
      cases b with
      | false => rw [if_neg (by decide)] at q2 ⊢; exact q2 σ1 ρ2 H2 (List.prefix_refl _) (TP.refl H2) h2 he2
      | true =>
        rw [if_pos rfl] at q2 ⊢
        refine ⟨_, fun σ' H' n => ⟨m, Nat.lt_succ_self m, n⟩, ε1, ρ2, L2, he2, h2, ?_⟩
        cases hbd : body ε1 L2 with
        | nx ε5 L5 =>
          rw [hbd] at q2
          exact fun σ' ρ' H' p t' a b => ⟨ρ', L5, ε5, a, b, LfS.mono p t' q2⟩
        | ct ε5 L5 =>
          rw [hbd] at q2
          exact fun σ' ρ' H' p t' a b => ⟨ρ', L5, ε5, a, b, LfS.mono p t' q2⟩
        | bk ε5 L5 => rw [hbd] at q2; exact q2
        | rt d L5 => rw [hbd] at q2; exact q2
        | ex c fs ε5 L5 => rw [hbd] at q2; exact q2
        | bad => rw [hbd] at q2; exact q2.elim
/-! ### comprehensions -/
abbrev W0 : WX := fun _ _ _ _ => False
def wipeE (ε : En) : List Nat → En
  | [] => ε
  | v :: vs => (wipeE ε vs).set v none
theorem ER.wipes {σ : L2.St} {ε : En} (e : ER g ρ H σ ε) : ∀ vs : List Nat, ER g ρ H (L2.wipe σ vs) (wipeE ε vs)
  | [] => e
  | v :: vs => (ER.wipes e vs).wipe v
theorem wipe_get {σ : L2.St} : ∀ {vs : List Nat} {j : Nat}, j ∈ vs → j < σ.length → (wipe σ vs)[j]? = some none
  | v :: vs, j, h, hl => by
    unfold wipe
    by_cases e : v = j
    · subst e
      rw [List.getElem?_set_self (by rw [wipe_length]; exact hl)]
    · rw [List.getElem?_set_ne e]
      exact wipe_get (by rcases List.mem_cons.mp h with z | z; exact absurd z.symm e; exact z) hl
theorem wipe_upd {σ σ' : L2.St} {is vs : List Nat} (u : Upd is σ σ') (h : ∀ i ∈ is, i ∈ vs) : wipe σ' vs = wipe σ vs := by
  refine List.ext_getElem? fun j => ?_
  by_cases hj : j ∈ vs
  · by_cases hl : j < σ.length
    · rw [wipe_get hj hl, wipe_get hj (by rw [u.1]; exact hl)]
    · rw [List.getElem?_eq_none (by rw [wipe_length, u.1]; omega), List.getElem?_eq_none (by rw [wipe_length]; omega)]
  · rw [wipe_out hj, wipe_out hj]
    exact u.2 j fun z => hj (h j z)
theorem wipe_wipe (σ : L2.St) (vs : List Nat) : wipe (wipe σ vs) vs = wipe σ vs := by
  refine List.ext_getElem? fun j => ?_
  by_cases hj : j ∈ vs
  · by_cases hl : j < σ.length
    · rw [wipe_get hj (by rw [wipe_length]; exact hl), wipe_get hj hl]
    · rw [List.getElem?_eq_none (by rw [wipe_length, wipe_length]; omega), List.getElem?_eq_none (by rw [wipe_length]; omega)]
  · rw [wipe_out hj]
/-- nothing is raised in a comprehension's block -/
def Rs.nox {α : Type} (r : Rs α) : Rs α := match r with
  | .ex _ _ _ => .bad
  | r => r
def loopC (src : Src) (t : MG) (tt : MB) (te : ME) (n : Nat) (ε : En) : List D → List O → Rs D
  | [], L => if src.ok L = true then .ok (.ref n) L else .bad
  | d :: ds, L => if src.ok L = true then (match t.f d ε with
    | none => .bad
    | some ε1 => (tt ε1 L).nox.bind fun b L2 => if b = true then (te ε1 L2).nox.bind fun y L3 => (match L3[n]? with
        | some (.lst acc) => if acc.length < most then loopC src t tt te n ε ds (L3.set n (.lst (acc ++ [y]))) else .bad
        | _ => .bad) else loopC src t tt te n ε ds L2) else .bad
def mComp (vs : List Nat) (mi : MI) (t : MG) (tt : MB) (te : ME) : ME := fun ε L => (mi ε L).bind fun src L1 => loopC src t tt te L1.length (wipeE ε vs) src.ds (L1 ++ [.lst []])
def mYes : MB := fun _ L => .ok true L
structure STs (g : Gx) (X : Cx) (ifs : List Expr) (m : MB) : Prop where
  h : PTs X ifs (tMB g W0 m)
theorem sts_nil : STs g X [] mYes := ⟨⟨fun pins s σ H Q I q => (pts_nil (X := X)).run pins s σ H Q I (by
  obtain ⟨ε, ρ, L, he, hh, q⟩ := q
  exact q true ρ H (List.prefix_refl _) (TP.refl H) hh rfl)⟩⟩
theorem sts_one {c : Expr} {m : MB} (h : PT X c (tMB g W0 m)) : STs g X [c] m := ⟨pts_one h⟩
theorem loopC_ok {src : Src} {t : MG} {tt : MB} {te : ME} {n : Nat} {ε : En} {ds : List D} {σ : L2.St} {Q : VK} (h : LfD g ρ H σ W (loopC src t tt te n ε ds L) Q) : src.ok L = true := by
  cases hk : src.ok L with
  | true => rfl
  | false =>
    cases ds with
    | nil => unfold loopC at h; rw [hk] at h; exact h.elim
    | cons d ds => unfold loopC at h; rw [hk] at h; exact h.elim
theorem Lf.nox {α β : Type} {σ σ' : L2.St} {rel : List Addr → Hp → α → β → Prop} {r : Rs α} {Q : β → Hp → Prop} (h : Lf g ρ H σ W rel r.nox Q) : Lf g ρ H σ' W0 rel r Q := by
  cases r with
  | ok a L => exact h
  | ex c fs L => exact h.elim
  | bad => exact h
theorem LfD.mono {σ : L2.St} {r : Rs D} {Q : VK} (hp : ρ <+: ρ') (ht : TP H H') (h : LfD g ρ H σ W r Q) : LfD g ρ' H' σ W r Q := by
  cases r with
  | ok d L => exact fun v ρ2 H2 p t a b => h v ρ2 H2 (hp.trans p) (ht.trans t) a b
  | ex c fs L => exact fun ρ2 H2 dx p t a b => h ρ2 H2 dx (hp.trans p) (ht.trans t) a b
  | bad => exact h
theorem comp_turns {src : Src} {t : MG} {tt : MB} {te : ME} {own : List Nat} {σ : L2.St} {ε : En} {J : It} {Q : VK} (hsub : ∀ i ∈ t.is, i ∈ own) (wk : Wk g ρ H src J) (he : ER g ρ H σ ε) {Dl : Addr} (hD : H Dl = none) (hh : HR g ρ L H)
    (q : LfD g ρ H σ W (loopC src t tt te L.length (wipeE ε own) src.ds (L ++ [.lst []])) Q) :
    ∃ Wv : Nat → Nat → Hp → Prop, (∃ m, Wv 0 m (upd H Dl (.lst []))) ∧ ∀ i m H, Wv i m H →
      (J.stop i H ∧ Q (.ref Dl) H) ∨ (J.go i H ∧ ∃ Nx : Hp → Prop, (∀ H', Nx H' → ∃ m', m' < m ∧ Wv (i + 1) m' H') ∧ ∀ x H', J.yld i H x H' → tMG g t x (wipe σ own) H' fun σ2 H2 => wipe σ2 own = wipe σ own ∧ tMB g W0 tt σ2 H2 fun b H3 =>
        if b = true then tM g W0 te σ2 H3 fun y H4 => ∃ acc, H4 Dl = some (.lst acc) ∧ acc.length < sizeLine ∧ Nx (upd H4 Dl (.lst (acc ++ [y]))) else Nx H3) := by
  have tD : TP H (upd H Dl (.lst [])) := TP.new hD
  have hr := hh.new hD (u := .lst []) (o := .lst []) ⟨[], upd_same, .nil⟩
  have eD : (ρ ++ [Dl])[L.length]? = some Dl := by rw [← hh.len]; simp
  let Wd : Nat → Nat → Hp → Prop := fun i m H1 => m = src.ds.length - i ∧ i ≤ src.ds.length ∧ ∃ ρ' L', ρ ++ [Dl] <+: ρ' ∧ TP H H1 ∧ HR g ρ' L' H1 ∧ LfD g ρ' H1 σ W (loopC src t tt te L.length (wipeE ε own) (src.ds.drop i) L') Q
  refine ⟨Wd,
    ⟨_, rfl, Nat.zero_le _, ρ ++ [Dl], _, List.prefix_refl _, tD, hr, LfD.mono (pre_snoc _ _) tD q⟩, ?_⟩
  rintro i m H2 ⟨rfl, hi, ρ2, L2, p2, t2, h2, q2⟩
  have p02 : ρ <+: ρ2 := (pre_snoc _ _).trans p2
  have hok := loopC_ok q2
  have eD2 : ρ2[L.length]? = some Dl := pre_get p2 eD
  by_cases hlt : i < src.ds.length
  · obtain ⟨d, hd, hdr⟩ := drop_cons hlt
    rw [hdr] at q2
    unfold loopC at q2
    rw [if_pos hok] at q2
    refine .inr ⟨wk.go i ρ2 L2 H2 hlt p02 t2 h2 hok, Wd (i + 1) (src.ds.length - (i + 1)), fun H' n => ⟨src.ds.length - (i + 1), by omega, n⟩, fun x H3 y => ?_⟩
    · obtain ⟨t3, h3, r3⟩ := wk.yld i d ρ2 L2 H2 x H3 hd p02 t2 h2 hok y
      have he3 : ER g ρ2 H3 (wipe σ own) (wipeE ε own) := (he.mono p02 (t2.trans t3)).wipes own
      cases ht : t.f d (wipeE ε own) with
      | none => rw [ht] at q2; exact q2.elim
      | some ε3 =>
        rw [ht] at q2
        have q3 := LfD.mono (List.prefix_refl _) t3 q2
        refine ⟨ρ2, _, d, ε3, he3, r3, ht, fun σ4 he4 u4 => ⟨by rw [wipe_upd u4 hsub, wipe_wipe], ε3, ρ2, L2, he4, h3, ?_⟩⟩
        refine Lf.nox (Lf.bind q3 fun b L5 v ρ5 H5 _ p5 t5 h5 r5 q5 => ?_)
        cases r5
        have p25 := p2.trans p5
        have t05 := (t2.trans t3).trans t5
        cases b with
        | false =>
          rw [if_neg (by decide)] at q5 ⊢
          exact ⟨rfl, hlt, ρ5, L5, p25, t05, h5, q5⟩
        | true =>
          rw [if_pos rfl] at q5 ⊢
          refine ⟨ε3, ρ5, L5, he4.mono p5 t5, h5, Lf.nox (Lf.bind q5 fun y L6 yv ρ6 H6 _ p6 t6 h6 r6 q6 => ?_)⟩
          split at q6
          · rename_i acc ha
            split at q6
            · rename_i hz
              have e6 : ρ6[L.length]? = some Dl := pre_get (p5.trans p6) eD2
              obtain ⟨vs, b1, b2⟩ := h6.lst ha e6
              have t7 : TP H6 (upd H6 Dl (.lst (vs ++ [yv]))) := TP.mut b1 rfl
              refine ⟨vs, b1, Nat.lt_of_lt_of_le (by rw [← b2.length]; exact hz) (most_le (Nat.le_refl _)), rfl, hlt, ρ6, _, p25.trans p6, (t05.trans t6).trans t7, ?_, LfD.mono (List.prefix_refl _) t7 q6⟩
              exact h6.set e6 b1 rfl ⟨_, upd_same, (b2.append (.cons r6 .nil)).mono (List.prefix_refl _) t7⟩
            · exact q6.elim
          · exact q6.elim
  · have e : i = src.ds.length := by omega
    subst e
    rw [List.drop_length] at q2
    unfold loopC at q2
    rw [if_pos hok] at q2
    exact .inl ⟨wk.stop ρ2 L2 H2 p02 t2 h2 hok, q2 _ ρ2 H2 (List.prefix_refl _) (TP.refl H2) h2 (.ref eD2)⟩
end Tw
end

section
set_option Elab.async false
set_option linter.all false
set_option maxRecDepth 100000
set_option maxHeartbeats 1000000
/-! Tw, part G: comprehensions as expressions; defs, methods, classes as functions of data. -/
namespace Tw
open PySem PySem.Spec L2
open PyProof.Rows (envOfC)
/-- exceptions leave with no context (raised where nothing is handled) -/
abbrev Takes (X : Cx) (W : WX) : Prop := L2N.Takes X W
variable {g : Gx} {ρ ρ' : List Addr} {H H' : Hp} {X : Cx} {W : WX} {L : List O} {cm : Nat → Addr} {fx : Hp}

/-! ### comprehensions -/
/-- the parts of a comprehension's block, in whatever block it runs -/
abbrev InBlk (X : Cx) (scope : Scope) (p : Cx → Prop) : Prop := ∀ (s : Shared) (H : Hp) (C : Addr) (cl : List (Str × Addr)) (fp : List Addr), p (X.blk s H scope (compEnvC scope cl C X.env) fp)
theorem tLc_ok {own : List Nat} {mi : MI} {t : MG} {tt : MB} {te : ME} {σ : L2.St} {Q : VK} (hsub : ∀ i ∈ t.is, i ∈ own) (q : tM g W (mComp own mi t tt te) σ H Q) : tLc (tMI g W mi) (tMG g t) (tMB g W0 tt) (tM g W0 te) own σ H Q := by
  obtain ⟨ε, ρ, L, he, hh, q⟩ := q
  refine ⟨ε, ρ, L, he, hh, Lf.bind q fun src L1 J ρ1 H1 _ p1 t1 h1 wk q1 => fun Dl hD => ?_⟩
  exact comp_turns hsub wk (he.mono p1 t1) hD h1 q1
theorem se_lc {elt tg iter : Expr} {ifs : List Expr} {scope : Scope} {own : List (Str × Nat)} {pos : Pos} {mi : MI} {t : MG} {tt : MB} {te : ME} (hc : X.calm = true) (hN : X.N.Nodup) (hi : PI X tg iter (tMI g W mi)) (ok : BlkOk X.N X.env.scope scope own)
    (hg : InBlk X scope fun Y => PG Y tg (tMG g t)) (ht : InBlk X scope fun Y => STs g Y ifs tt) (he : InBlk X scope fun Y => PE Y elt (tM g W0 te)) (hsub : ∀ i ∈ t.is, i ∈ own.map (·.2) := by decide) (hs : ∀ x, foldedSetIterable iter X.env x = pure x := by intro _; rfl) :
    PE X (.ListComp elt [⟨tg, iter, ifs, 0⟩] scope pos) (tM g W (mComp (own.map (·.2)) mi t tt te)) :=
  (pe_lc hc hN hi ok hg (fun s H C cl fp => (ht s H C cl fp).h) he hs).imp fun σ H Q q => tLc_ok hsub q
theorem ss_setLc {i : Nat} {y : Str} {py : Pos} {elt tg iter : Expr} {ifs : List Expr} {scope : Scope} {own : List (Str × Nat)} {pos spos : Pos} {mi : MI} {t : MG} {tt : MB} {te : ME} (hc : X.calm = true) (hN : X.N.Nodup) (hy : X.N[i]? = some y) (hi : PI X tg iter (tMI g W mi)) (ok : BlkOk X.N X.env.scope scope own)
    (hg : InBlk X scope fun Y => PG Y tg (tMG g t)) (ht : InBlk X scope fun Y => STs g Y ifs tt) (he : InBlk X scope fun Y => PE Y elt (tM g W0 te)) (hsub : ∀ i ∈ t.is, i ∈ own.map (·.2) := by decide) (hyl : X.env.scope.names.lookup y = some .local := by rfl)
    (hsw : swapsWith (.ListComp elt [⟨tg, iter, ifs, 0⟩] scope pos) (some (.Name y py)) spos.line X.env = pure true := by exact sw_true rfl rfl rfl (by decide +kernel)) (hs : ∀ x, foldedSetIterable iter X.env x = pure x := by intro _; rfl) :
    PS X (.Assign [.Name y py] (.ListComp elt [⟨tg, iter, ifs, 0⟩] scope pos) spos) (tMS g W (mSet i (mComp (own.map (·.2)) mi t tt te))) :=
  (ps_setLc hc hN hy hyl hsw hi ok hg (fun s H C cl fp => (ht s H C cl fp).h) he hs).imp fun D σ H q => by
    obtain ⟨ε, ρ, L, he, hh, q⟩ := q
    exact tLc_ok hsub ⟨ε, ρ, L, he, hh, LfS.bind he q fun x L1 v ρ1 H1 _ p1 t1 h1 r1 q1 => q1 _ ρ1 H1 (List.prefix_refl _) (TP.refl H1) h1 ((he.mono p1 t1).set i r1)⟩

/-! ### defs -/
abbrev FS := List D → List O → Rs D
def LfF (g : Gx) (ρ : List Addr) (H : Hp) (r : Rs D) (Q : VK) (E : XK) : Prop := match r with
  | .ok d L' => ∀ v ρ' H', ρ <+: ρ' → TP H H' → HR g ρ' L' H' → VR g ρ' H' d v → Q v H'
  | .ex c fs L' => ∀ ρ' H' dx, ρ <+: ρ' → TP H H' → HR g ρ' L' H' → XR g ρ' H' fs dx → E (.ref (g.cm c)) dx H'
  | .bad => False
def spF (w : World) (K : PySem.W.Frag) (cm : Nat → Addr) (n : Nat) (F : FS) : Sp := fun vs H Q E => vs.length = n ∧ ∃ fx ρ L ds, HR ⟨K, cm, fx, w⟩ ρ L H ∧ VRs ⟨K, cm, fx, w⟩ ρ H ds vs ∧ LfF ⟨K, cm, fx, w⟩ ρ H (F ds L) Q E
def runF (n N : Nat) (m : MS) : FS := fun ds L => if ds.length = n then (match m (ds.map some ++ List.replicate (N - n) none) L with
  | .nx _ L' => .ok .non L'
  | .rt d L' => .ok d L'
  | .ex c fs _ L' => .ex c fs L'
  | _ => .bad) else .bad
theorem ER.begin {ds : List D} {vs : List V} (r : VRs g ρ H ds vs) (N : List Str) : ER g ρ H (L2.start N vs) (ds.map some ++ List.replicate (N.length - ds.length) none) := by
  refine ⟨by simp [L2.start, r.length], fun i d e => ?_⟩
  unfold L2.start
  by_cases hi : i < ds.length
  · rw [List.getElem?_append_left (by simpa using hi)] at e
    rw [List.getElem?_append_left (by simpa [← r.length] using hi)]
    have e' : ds[i]? = some d := by
      rw [List.getElem?_map] at e
      cases h : ds[i]? with
      | none => rw [h] at e; cases e
      | some z => rw [h] at e; cases e; rfl
    obtain ⟨v, h1, h2⟩ := r.get e'
    exact ⟨v, by rw [List.getElem?_map, h1]; rfl, h2⟩
  · rw [List.getElem?_append_right (by simpa using hi)] at e
    obtain ⟨h1, h2⟩ := List.getElem?_eq_some_iff.mp e
    simp at h2
section
variable {P : Program} {w : World} {K : PySem.W.Frag} {mg : Str → Option Value} {base : Heap} {cm : Nat → Addr} {fx : Hp}
/-- the wish about exceptions in a def's body -/
abbrev WF (E : XK) : WX := fun cls d _ H => E cls d H
abbrev cxF (P : Program) (w : World) (K : PySem.W.Frag) (mg : Str → Option Value) (base : Heap) (N : List Str) (qual : Str) (sc : Scope) (f : Addr) (cdv : Value) (A : Around) (outer : List Env) (s : Shared) (H : Hp) (E : XK) : Cx := cxOf (L2N.CX P w) P w K mg base N qual sc f cdv A outer s H E
/-- the body does what m says -/
def BodyOk (P : Program) (w : World) (K : PySem.W.Frag) (mg : Str → Option Value) (base : Heap) (cm : Nat → Addr) (N : List Str) (qual : Str) (sc : Scope) (f : Addr) (body : List Stmt) (k : Nat) (m : MS) : Prop :=
  ∀ (fx : Hp) (cdv : Value) (A : Around) (outer : List Env) (s : Shared) (H : Hp) (E : XK), Room k (A.deeper (envOfC qual sc s.heap.objs.size f cdv)) → Takes (cxF P w K mg base N qual sc f cdv A outer s H E) (WF E) →
    PassesOwn (model P w) (cxF P w K mg base N qual sc f cdv A outer s H E).A (cxF P w K mg base N qual sc f cdv A outer s H E).env (cxF P w K mg base N qual sc f cdv A outer s H E).xe →
    PSs (cxF P w K mg base N qual sc f cdv A outer s H E) body (tMS ⟨K, cm, fx, w⟩ (WF E) m)
theorem body_run {N ps : List Str} {qual : Str} {sc : Scope} {f : Addr} {body : List Stmt} {k : Nat} {m : MS} (h : BodyOk P w K mg base cm N qual sc f body k m) (hN : ps.length ≤ N.length) :
    ∀ (cdv : Value) (A : Around) (outer : List Env) (s : Shared) (H : Hp) (vs : List V) (Q : VK) (E : XK), Room k (A.deeper (envOfC qual sc s.heap.objs.size f cdv)) → spF w K cm ps.length (runF ps.length N.length m) vs H Q E →
      ∃ t, PSs (cxOf (L2N.CX P w) P w K mg base N qual sc f cdv A outer s H E) body t ∧ t { nx := fun _ H' => Q .non H', rt := Q } (start N vs) H := by
  intro cdv A outer s H vs Q E hr hsp
  obtain ⟨hl, fx, ρ, L, ds, hh, r, q⟩ := hsp
  refine ⟨_, h fx cdv A outer s H E hr (L2N.takes_of rfl rfl rfl rfl) (passes_of rfl), ?_⟩
  unfold runF at q
  have hd : ds.length = ps.length := r.length.trans hl
  rw [if_pos hd] at q
  have he := ER.begin r N
  rw [hd] at he
  refine ⟨_, ρ, L, he, hh, ?_⟩
  cases hm : m (ds.map some ++ List.replicate (N.length - ps.length) none) L with
  | nx ε' L' => rw [hm] at q; exact fun σ' ρ' H' p t a b => q .non ρ' H' p t a .non
  | rt d L' => rw [hm] at q; exact q
  | bk ε' L' => rw [hm] at q; exact q.elim
  | ct ε' L' => rw [hm] at q; exact q.elim
  | ex c fs ε' L' => rw [hm] at q; exact fun σ' ρ' H' dx p t a b x => q ρ' H' dx p t a x
  | bad => rw [hm] at q; exact q.elim
abbrev FnF (P : Program) (w : World) (K : PySem.W.Frag) (mg : Str → Option Value) (base : Heap) (cm : Nat → Addr) (k : Nat) (f : Addr) (fd : FuncData) (ps : List Str) (F : FS) : Prop := FnOk P w K mg base (L2N.CX P w) k f fd ps (spF w K cm ps.length F)
theorem fn_ok {x qual : Str} {st : Stmt} {f : Addr} {fd : FuncData} {N ps : List Str} {k : Nat} {m : MS} (F : Fun K x qual st f fd) (S : FnScope N ps (defScope st)) (h : BodyOk P w K mg base cm N qual (defScope st) f (defBody st) k m) (hN : ps.length ≤ N.length := by decide) :
    FnF P w K mg base cm (k + 1) f fd ps (runF ps.length N.length m) := by
  obtain ⟨oc, od, kV, doc, pm, an, cdv, ct, osl, rfl, lk, hcd⟩ := F.ex
  exact fn_of lk hcd S (fun vs H Q E hsp => hsp.1) fun A outer s H vs Q E hr hsp => body_run h hN cdv A outer s H vs Q E hr hsp
theorem fnD_ok {x qual : Str} {params : Arguments} {body : List Stmt} {sc : Scope} {dvs : List V} {kws : List (Str × V)} {f : Addr} {fd : FuncData} {N ps : List Str} {k : Nat} {m : MS} (F : FunD K x qual params body sc dvs kws f fd) (S : FnScope N ps sc)
    (h : BodyOk P w K mg base cm N qual sc f body k m) (hN : ps.length ≤ N.length := by decide) : FnF P w K mg base cm (k + 1) f fd ps (runF ps.length N.length m) := by
  obtain ⟨oc, od, dV, kV, doc, pm, an, cdv, ct, osl, rfl, lk, hcd, _⟩ := F.ex
  exact fn_of lk hcd S (fun vs H Q E hsp => hsp.1) fun A outer s H vs Q E hr hsp => body_run h hN cdv A outer s H vs Q E hr hsp
/-- a def by its global name -/
structure FI (P : Program) (w : World) (K : PySem.W.Frag) (mg : Str → Option Value) (base : Heap) (cm : Nat → Addr) (x : Str) (k n : Nat) (F : FS) : Prop where
  ex : ∃ (f : Addr) (fd : FuncData) (ps : List Str), mg x = some (.ref f) ∧ PySem.W.keepIn K (.ref f) = true ∧ Binds K fd ps [] ∧ ps.length = n ∧ FnF P w K mg base cm k f fd ps F
/-- a method of the class c -/
structure MtI (P : Program) (w : World) (K : PySem.W.Frag) (mg : Str → Option Value) (base : Heap) (cm : Nat → Addr) (c : Nat) (x : Str) (k n : Nat) (F : FS) : Prop where
  ex : ∃ (f : Addr) (fd : FuncData) (ps : List Str), Meth K (cm c) x f ∧ Cls K (cm c) ∧ Binds K fd ps [] ∧ ps.length = n ∧ FnF P w K mg base cm k f fd ps F
/-- the class c by its name, its __init__ -/
structure CI (P : Program) (w : World) (K : PySem.W.Frag) (mg : Str → Option Value) (base : Heap) (cm : Nat → Addr) (x : Str) (c k n : Nat) (F : FS) : Prop where
  ex : ∃ (f : Addr) (fd : FuncData) (ps : List Str), mg x = some (.ref (cm c)) ∧ Mk K (cm c) f ∧ Binds K fd ps [] ∧ ps.length = n ∧ FnF P w K mg base cm k f fd ps F
/-- a property of the class c -/
structure PrI (P : Program) (w : World) (K : PySem.W.Frag) (mg : Str → Option Value) (base : Heap) (cm : Nat → Addr) (c : Nat) (x : Str) (k : Nat) (F : FS) : Prop where
  ex : ∃ (p f : Addr) (fd : FuncData) (ps : List Str), PropOf K (cm c) x p f ∧ Cls K (cm c) ∧ Binds K fd ps [] ∧ ps.length = 1 ∧ FnF P w K mg base cm k f fd ps F
end

/-! ### calls -/
abbrev EW (W : WX) (σ : L2.St) : XK := fun cls d H => W cls d σ H
theorem pass_at {W : WX} (tk : Takes X W) (σ : L2.St) : PassesAt (L2N.CX X.prog X.w) X σ (EW W σ) := L2N.passAt tk σ
theorem passLN {X : Cx} : Passes (L2N.CX X.prog X.w) X E0 := fun _ _ _ _ _ _ _ h => by
  obtain ⟨_, _, _, _, _, _, _, _, _, _, _, _, z⟩ := h
  exact z.elim
theorem takes0' {X : Cx} : Takes X W0 := fun _ _ x => by
  obtain ⟨_, _, _, _, _, _, _, _, _, _, _, _, _, _, _, _, z⟩ := x
  exact z.elim
def mCall (F : FS) (args : MA) : ME := fun ε L => (args ε L).bind fun ds L1 => F ds L1
theorem LfF.of {σ : L2.St} {r : Rs D} {Q : VK} (h : LfD g ρ H σ W r Q) : LfF g ρ H r Q (EW W σ) := by
  cases r with
  | ok d L => exact h
  | ex c fs L => exact h
  | bad => exact h
theorem tMA_sp {n : Nat} {F : FS} {args : MA} {σ : L2.St} {Q : VK} (hn : ∀ ε L ds L', args ε L = .ok ds L' → ds.length = n) (q : tM g W (mCall F args) σ H Q) : tMA g W args σ H fun vs H1 => spF g.w g.K g.cm n F (vs ++ []) H1 Q (EW W σ) := by
  obtain ⟨ε, ρ, L, he, hh, q⟩ := q
  refine ⟨ε, ρ, L, he, hh, Lf.bind q fun ds L1 vs ρ1 H1 e1 p1 t1 h1 r1 q1 => ?_⟩
  rw [List.append_nil]
  exact ⟨by rw [← r1.length]; exact hn _ _ _ _ e1, g.fx, ρ1, L1, ds, h1, r1, LfF.of q1⟩
/-- how many an argument list gives -/
structure Len (m : MA) (n : Nat) : Prop where
  h : ∀ ε L ds L', m ε L = .ok ds L' → ds.length = n
theorem len_nil : Len mNil 0 := ⟨fun ε L ds L' e => by cases e; rfl⟩
theorem len_cons {a : ME} {r : MA} {n : Nat} (h : Len r n) : Len (mCons a r) (n + 1) := ⟨fun ε L ds L' e => by
  unfold mCons at e
  cases ha : a ε L with
  | ok x L1 =>
    rw [ha] at e
    simp only [Rs.bind] at e
    cases hr : r ε L1 with
    | ok xs L2 => rw [hr] at e; cases e; simp [h.h _ _ _ _ hr]
    | ex c fs L2 => rw [hr] at e; cases e
    | bad => rw [hr] at e; cases e
  | ex c fs L1 => rw [ha] at e; cases e
  | bad => rw [ha] at e; cases e⟩
theorem se_call {cm : Nat → Addr} {fx : Hp} {x : Str} {k n : Nat} {F : FS} {e : Expr} {es : List Expr} {args : MA} {p pos : Pos} (h : FI X.prog X.w X.K X.mg X.base cm x k n F) (hr : Room k X.A) (tk : Takes X W) (ha : PA X (e :: es) (tMA ⟨X.K, cm, fx, X.w⟩ W args)) (hl : Len args n)
    (hg : Gl X x := by rfl) (hdb : (x == ("__debug__" : Str)) = false := by decide) (he : starEach (e :: es) X.env = (false, eval e X.env) :: starEach es X.env := by rfl) (hpl : (backTo pos (starEach es X.env)).any (·.1) = false := by rfl) :
    PE X (.Call (.Name x p) (e :: es) [] pos) (tM ⟨X.K, cm, fx, X.w⟩ W (mCall F args)) := by
  obtain ⟨f, fd, ps, hm, hk, hb, hps, G⟩ := h.ex
  refine (pe_callSD (E := EW W) G hr hg hm hk hb .nil (fun σ => pass_at tk σ) ha hdb he hpl).imp fun σ H Q q => ?_
  subst hps
  exact tMA_sp hl.h q
/-- o.m(..) where what is raised is wished for at the caller's slots -/
def tMethSD (C : Addr) (m : Str) (sp : Sp) (dvs : List V) (E : L2.St → XK) (ta : TE) (t : TA) : TE := fun σ H Q => ta σ H fun x H1 => ∃ a dx fs, x = .ref a ∧ H1 a = some (.ins C dx fs) ∧ fs.lookup m = none ∧ t σ H1 fun vs H2 => sp (x :: (vs ++ dvs)) H2 Q (E σ)
section
variable {CX : CXT} {k : Nat} {f C : Addr} {fd : FuncData} {ps : List Str} {sp : Sp} {dvs : List V} {ds : List Value} {E : L2.St → XK} {x m : Str} {p pos apos : Pos} {e o : Expr} {es : List Expr} {ta : TE} {t : TA}
theorem pe_methSD {pl : Sem Bool} (he : PE X o ta) (c : Cls X.K C) (hm : Meth X.K C m f) (F : FnOk X.prog X.w X.K X.mg X.base CX k f fd ps sp) (hr : Room k X.A) (hb : Binds X.K fd ps ds) (hd : Vals dvs ds) (hx : ∀ σ, PassesAt CX X σ (E σ)) (ha : PA X (e :: es) t)
    (hst : starEach (e :: es) X.env = (false, eval e X.env) :: starEach es X.env := by rfl) (hpl : (backTo pos (starEach es X.env)).any (·.1) = false := by rfl)
    (ht : eval (.Call (.Attribute o m apos) (e :: es) [] pos) X.env = (do
      let ov ← eval o X.env
      standAt apos.atName
      let (f, first) ← holding [ov] (getMethod ov m pl)
      callWith pos f first (backTo pos (starEach (e :: es) X.env)) (backToKw pos (keywordEach [] X.env))) := by rfl) :
    PE X (.Call (.Attribute o m apos) (e :: es) [] pos) (tMethSD C m sp dvs E ta t) := by
  refine ⟨fun pins s σ H Q I h => ?_⟩
  refine PySem.W.methodCall_KW (pl := pl) (thn (he.run pins s σ H _ I h) fun u s1 ⟨x, H1, I1, rx, a, dx, fs, ex, ea, l, q⟩ => ?_) ht
  subst ex
  obtain rfl : u = Value.ref a := rx
  refine getmeth_ok I1 ea c hm l ?_
  refine PySem.W.callWith_K (first := [.ref a]) (h₀ := X.base) I.ok.mod.kin hm.kp (thn (ha.run pos pins s1 σ H1 _ I1 q) fun us s2 ⟨vs, H2, I2, r, q2⟩ => ⟨I2.kIn, ?_⟩) hst hpl
  exact run_fnSD (us := .ref a :: us) (vs := .ref a :: vs) F hr hb hd (hx σ) I2 (.cons rfl r) q2
theorem pe_meth0SD {pl : Sem Bool} (he : PE X o ta) (c : Cls X.K C) (hm : Meth X.K C m f) (F : FnOk X.prog X.w X.K X.mg X.base CX k f fd ps sp) (hr : Room k X.A) (hb : Binds X.K fd ps ds) (hd : Vals dvs ds) (hx : ∀ σ, PassesAt CX X σ (E σ))
    (ht : eval (.Call (.Attribute o m apos) [] [] pos) X.env = (do
      let ov ← eval o X.env
      standAt apos.atName
      let (f, first) ← holding [ov] (getMethod ov m pl)
      callWith pos f first (backTo pos (starEach [] X.env)) (backToKw pos (keywordEach [] X.env))) := by rfl) :
    PE X (.Call (.Attribute o m apos) [] [] pos) (tMethSD C m sp dvs E ta tNil) := by
  refine ⟨fun pins s σ H Q I h => ?_⟩
  refine PySem.W.methodCall_KW (pl := pl) (thn (he.run pins s σ H _ I h) fun u s1 ⟨x, H1, I1, rx, a, dx, fs, ex, ea, l, q⟩ => ?_) ht
  subst ex
  obtain rfl : u = Value.ref a := rx
  refine getmeth_ok I1 ea c hm l ?_
  exact PySem.W.callWith_K0 (first := [.ref a]) I1.kIn hm.kp (run_fnSD (us := [.ref a]) (vs := [.ref a]) F hr hb hd (hx σ) I1 (.cons rfl .nil) q)
end
def isIns (c : Nat) (m : Str) (L : List O) (x : D) : Bool := match x with
  | .ref n => match L[n]? with
    | some (.ins c' fs) => decide (c' = c) && (fs.lookup m).isNone
    | _ => false
  | _ => false
theorem isIns_ok {c : Nat} {m : Str} {x : D} {v : V} (hh : HR g ρ L H) (r : VR g ρ H x v) (e : isIns c m L x = true) : ∃ a dx fs, v = .ref a ∧ H a = some (.ins (g.cm c) dx fs) ∧ fs.lookup m = none := by
  unfold isIns at e
  cases r with
  | ref ea =>
    simp only at e
    split at e
    · rename_i c' fs h1
      simp only [Bool.and_eq_true, decide_eq_true_eq] at e
      obtain ⟨rfl, e2⟩ := e
      obtain ⟨dx, vs, e3, fr⟩ := hh.ins h1 ea
      refine ⟨_, dx, vs, rfl, e3, ?_⟩
      rcases fr.look m with ⟨d, z, l1, l2, _⟩ | ⟨_, l2⟩
      · rw [l1] at e2; cases e2
      · exact l2
    · cases e
  | _ => cases e
def mMeth (c : Nat) (m : Str) (F : FS) (o : ME) (args : MA) : ME := fun ε L => (o ε L).bind fun x L1 => if isIns c m L1 x = true then (args ε L1).bind fun ds L2 => F (x :: ds) L2 else .bad
theorem se_meth {cm : Nat → Addr} {fx : Hp} {c : Nat} {m : Str} {k n : Nat} {F : FS} {o e : Expr} {es : List Expr} {mo : ME} {args : MA} {pos apos : Pos} {pl : Sem Bool} (h : MtI X.prog X.w X.K X.mg X.base cm c m k (n + 1) F) (hr : Room k X.A) (tk : Takes X W) (ho : PE X o (tM ⟨X.K, cm, fx, X.w⟩ W mo)) (ha : PA X (e :: es) (tMA ⟨X.K, cm, fx, X.w⟩ W args)) (hl : Len args n)
    (hst : starEach (e :: es) X.env = (false, eval e X.env) :: starEach es X.env := by rfl) (hpl : (backTo pos (starEach es X.env)).any (·.1) = false := by rfl)
    (ht : eval (.Call (.Attribute o m apos) (e :: es) [] pos) X.env = (do
      let ov ← eval o X.env
      standAt apos.atName
      let (f, first) ← holding [ov] (getMethod ov m pl)
      callWith pos f first (backTo pos (starEach (e :: es) X.env)) (backToKw pos (keywordEach [] X.env))) := by rfl) :
    PE X (.Call (.Attribute o m apos) (e :: es) [] pos) (tM ⟨X.K, cm, fx, X.w⟩ W (mMeth c m F mo args)) := by
  obtain ⟨f, fd, ps, hm, hc, hb, hps, G⟩ := h.ex
  refine (pe_methSD (E := EW W) ho hc hm G hr hb .nil (fun σ => pass_at tk σ) ha hst hpl ht).imp fun σ H Q q => ?_
  obtain ⟨ε, ρ, L, he, hh, q⟩ := q
  refine ⟨ε, ρ, L, he, hh, Lf.bind q fun x L1 v ρ1 H1 e1 p1 t1 h1 r1 q1 => ?_⟩
  cases hi : isIns c m L1 x with
  | false => rw [hi, if_neg (by decide)] at q1; exact q1.elim
  | true =>
    rw [hi, if_pos rfl] at q1
    obtain ⟨a, dx, fs, e2, e3, e4⟩ := isIns_ok h1 r1 hi
    refine ⟨a, dx, fs, e2, e3, e4, ε, ρ1, L1, he.mono p1 t1, h1, Lf.bind q1 fun ds L2 vs ρ2 H2 e5 p2 t2 h2 r2 q2 => ?_⟩
    rw [List.append_nil]
    exact ⟨by rw [hps, List.length_cons, ← r2.length, hl.h _ _ _ _ e5], fx, ρ2, L2, x :: ds, h2, .cons (r1.mono p2 t2) r2, LfF.of q2⟩
theorem se_meth0 {cm : Nat → Addr} {fx : Hp} {c : Nat} {m : Str} {k : Nat} {F : FS} {o : Expr} {mo : ME} {pos apos : Pos} {pl : Sem Bool} (h : MtI X.prog X.w X.K X.mg X.base cm c m k 1 F) (hr : Room k X.A) (tk : Takes X W) (ho : PE X o (tM ⟨X.K, cm, fx, X.w⟩ W mo))
    (ht : eval (.Call (.Attribute o m apos) [] [] pos) X.env = (do
      let ov ← eval o X.env
      standAt apos.atName
      let (f, first) ← holding [ov] (getMethod ov m pl)
      callWith pos f first (backTo pos (starEach [] X.env)) (backToKw pos (keywordEach [] X.env))) := by rfl) :
    PE X (.Call (.Attribute o m apos) [] [] pos) (tM ⟨X.K, cm, fx, X.w⟩ W (mMeth c m F mo mNil)) := by
  obtain ⟨f, fd, ps, hm, hc, hb, hps, G⟩ := h.ex
  refine (pe_meth0SD (E := EW W) ho hc hm G hr hb .nil (fun σ => pass_at tk σ) ht).imp fun σ H Q q => ?_
  obtain ⟨ε, ρ, L, he, hh, q⟩ := q
  refine ⟨ε, ρ, L, he, hh, Lf.bind q fun x L1 v ρ1 H1 e1 p1 t1 h1 r1 q1 => ?_⟩
  cases hi : isIns c m L1 x with
  | false => rw [hi, if_neg (by decide)] at q1; exact q1.elim
  | true =>
    rw [hi, if_pos rfl] at q1
    obtain ⟨a, dx, fs, e2, e3, e4⟩ := isIns_ok h1 r1 hi
    exact ⟨a, dx, fs, e2, e3, e4, by rw [hps]; rfl, fx, ρ1, L1, [x], h1, .cons r1 .nil, LfF.of q1⟩
/-- a property: nothing is raised there -/
def mProp (c : Nat) (F : FS) (o : ME) : ME := fun ε L => (o ε L).bind fun x L1 => if isIns c Str.empty L1 x = true then (F [x] L1).nox else .bad
theorem se_prop {cm : Nat → Addr} {fx : Hp} {c : Nat} {f : Str} {k : Nat} {F : FS} {e : Expr} {mo : ME} {pos : Pos} (h : PrI X.prog X.w X.K X.mg X.base cm c f k F) (hr : Room (k + 1) X.A) (ho : PE X e (tM ⟨X.K, cm, fx, X.w⟩ W mo)) (hab : attributeBase e f X.env (eval e X.env) = eval e X.env := by rfl) :
    PE X (.Attribute e f pos) (tM ⟨X.K, cm, fx, X.w⟩ W (mProp c F mo)) := by
  obtain ⟨p, fa, fd, ps, hp, hc, hb, hps, G⟩ := h.ex
  refine (pe_prop (E := E0) ho hc hp G hr hb .nil passLN hab).imp fun σ H Q q => ?_
  obtain ⟨ε, ρ, L, he, hh, q⟩ := q
  refine ⟨ε, ρ, L, he, hh, Lf.bind q fun x L1 v ρ1 H1 e1 p1 t1 h1 r1 q1 => ?_⟩
  cases hi : isIns c Str.empty L1 x with
  | false => rw [hi, if_neg (by decide)] at q1; exact q1.elim
  | true =>
    rw [hi, if_pos rfl] at q1
    obtain ⟨a, dx, fs, e2, e3, e4⟩ := isIns_ok h1 r1 hi
    refine ⟨a, dx, fs, e2, e3, by rw [hps]; rfl, fx, ρ1, L1, [x], h1, .cons (by rw [← e2]; exact r1) .nil, ?_⟩
    cases hF : F [x] L1 with
    | ok d L2 => rw [hF] at q1; exact q1
    | ex c fs L2 => rw [hF] at q1; exact q1.elim
    | bad => rw [hF] at q1; exact q1.elim
/-! ### a new instance -/
def tMakeSD (C : Addr) (sp : Sp) (dvs : List V) (E : L2.St → XK) (t : TA) : TE := fun σ H Q => t σ H fun vs H1 => ∀ x dx, H1 x = none → H1 dx = none → dx ≠ x →
  sp (.ref x :: (vs ++ dvs)) (upd (upd H1 dx (.own x)) x (.ins C dx [])) (fun v H2 => v = .non ∧ Q (.ref x) H2) (E σ)
section
variable {CX : CXT} {k : Nat} {f C : Addr} {fd : FuncData} {ps : List Str} {sp : Sp} {dvs : List V} {ds : List Value} {x m : Str} {p pos apos : Pos} {e o : Expr} {es : List Expr} {ta : TE} {t : TA}
theorem run_makeSD {E : XK} {pins : List (Addr × Obj)} {σ : L2.St} {H : Hp} {s : Shared} {Q : VK} {us : List Value} {vs : List V} (M : Mk X.K C f) (F : FnOk X.prog X.w X.K X.mg X.base CX k f fd ps sp) (hr : Room (k + 1) X.A) (hb : Binds X.K fd ps ds) (hd : Vals dvs ds)
    (hx : PassesAt CX X σ E) (I : Inv X pins σ H s) (r : Vals vs us)
    (h : ∀ x dx, H x = none → H dx = none → dx ≠ x → sp (.ref x :: (vs ++ dvs)) (upd (upd H dx (.own x)) x (.ins C dx [])) (fun v H2 => v = .non ∧ Q (.ref x) H2) E) :
    wpAny (model X.prog X.w) X.A (call (.ref C) us) (EP X pins σ Q) X.xe s := by
  have hq := h (s.heap.objs.size + 1) s.heap.objs.size (I.hok.fresh (Nat.le_succ _)) (I.hok.fresh (Nat.le_refl _)) (Nat.ne_of_lt (Nat.lt_succ_self _))
  have I2 := Inv.made (C := C) I
  have r2 : Vals (V.ref (s.heap.objs.size + 1) :: (vs ++ dvs)) (Value.ref (s.heap.objs.size + 1) :: (us ++ ds)) := .cons rfl (r.append hd)
  have hl : (Value.ref (s.heap.objs.size + 1) :: us ++ ds).length = ps.length := by
    have e := r2.length
    rw [F.len _ _ _ _ hq] at e
    exact e.symm
  refine wpAny_call (make_map (f := f) I.kIn M.makes M.init (beq_iff_eq.mp M.fn) (codeAny_mono (F.run _ X.stack _ _ ⟨Value.ref (s.heap.objs.size + 1) :: us, []⟩ (Value.ref (s.heap.objs.size + 1) :: (us ++ ds)) _ _ E (hr.make C us [])
    (I2.env0.make C us []) (hb _ (Value.ref (s.heap.objs.size + 1) :: us) I2.kIn hl) r2 hq) fun r s' hq' => ?_))
  cases r with
  | error e => exact hx pins _ _ e s' I2 hq'
  | ok fl =>
    cases fl with
    | ret u =>
      obtain ⟨v, H', I3, rv, ev, q3⟩ := I2.after hq'
      subst ev
      exact ⟨rv, ⟨V.ref (s.heap.objs.size + 1), H', I3, rfl, q3⟩⟩
    | next => exact False.elim hq'
    | brk => exact False.elim hq'
    | cont => exact False.elim hq'
theorem pe_makeSD {E : L2.St → XK} (M : Mk X.K C f) (F : FnOk X.prog X.w X.K X.mg X.base CX k f fd ps sp) (hr : Room (k + 1) X.A) (hg : Gl X x) (hm : X.mg x = some (.ref C)) (hb : Binds X.K fd ps ds) (hd : Vals dvs ds) (hx : ∀ σ, PassesAt CX X σ (E σ))
    (ha : PA X (e :: es) t) (hdb : (x == ("__debug__" : Str)) = false := by decide) (he : starEach (e :: es) X.env = (false, eval e X.env) :: starEach es X.env := by rfl) (hpl : (backTo pos (starEach es X.env)).any (·.1) = false := by rfl) :
    PE X (.Call (.Name x p) (e :: es) [] pos) (tMakeSD C sp dvs E t) := by
  refine ⟨fun pins s σ H Q I h => ?_⟩
  refine wpAny_Call_Name_kw (ld_glob I hg hm ?_ hdb)
  refine PySem.W.callWith_K (h₀ := X.base) I.ok.mod.kin M.kp (thn (ha.run pos pins s σ H _ I h) fun us s1 ⟨vs, H1, I1, r, q⟩ => ⟨I1.kIn, ?_⟩) he hpl
  exact run_makeSD M F hr hb hd (hx σ) I1 r q
end
def mMade (c : Nat) (F : FS) (ds : List D) (L : List O) : Rs D := (F (.ref L.length :: ds) (L ++ [.ins c []])).bind fun d L' => match d with
  | .non => .ok (.ref L.length) L'
  | _ => .bad
def mMake (c : Nat) (F : FS) (args : MA) : ME := fun ε L => (args ε L).bind fun ds L1 => mMade c F ds L1
theorem made_sp {n c : Nat} {F : FS} {ds : List D} {vs : List V} {σ : L2.St} {Q : VK} (hh : HR g ρ L H) (r : VRs g ρ H ds vs) (hn : vs.length + 1 = n) (q : LfD g ρ H σ W (mMade c F ds L) Q) {x dx : Addr} (nx : H x = none) (nd : H dx = none) (ne : dx ≠ x) :
    spF g.w g.K g.cm n F (.ref x :: vs) (upd (upd H dx (.own x)) x (.ins (g.cm c) dx [])) (fun v H2 => v = .non ∧ Q (.ref x) H2) (EW W σ) := by
  have nx' : upd H dx (.own x) x = none := by rw [upd_ne (Ne.symm ne)]; exact nx
  have t1 : TP H (upd H dx (.own x)) := TP.new nd
  have t2 := t1.trans (TP.new (o := .ins (g.cm c) dx []) nx')
  have h2 := (hh.fresh nd (.own x)).new nx' (u := .ins (g.cm c) dx []) (o := .ins c []) ⟨dx, [], upd_same, .nil⟩
  have ex : (ρ ++ [x])[L.length]? = some x := by rw [← hh.len]; simp
  refine ⟨by simpa using hn, g.fx, ρ ++ [x], L ++ [.ins c []], .ref L.length :: ds, h2, .cons (.ref ex) (r.mono (pre_snoc _ _) t2), ?_⟩
  unfold mMade at q
  cases hF : F (.ref L.length :: ds) (L ++ [.ins c []]) with
  | ok d L' =>
    rw [hF] at q
    intro v ρ' H' p t h rv
    cases rv with
    | non => exact ⟨rfl, q _ ρ' H' ((pre_snoc _ _).trans p) (t2.trans t) h (.ref (pre_get p ex))⟩
    | _ => exact q.elim
  | ex c' fs L' =>
    rw [hF] at q
    exact fun ρ' H' dx p t h x => q ρ' H' dx ((pre_snoc _ _).trans p) (t2.trans t) h x
  | bad => rw [hF] at q; exact q.elim
theorem se_make {cm : Nat → Addr} {fx : Hp} {x : Str} {c k n : Nat} {F : FS} {e : Expr} {es : List Expr} {args : MA} {p pos : Pos} (h : CI X.prog X.w X.K X.mg X.base cm x c k (n + 1) F) (hr : Room (k + 1) X.A) (tk : Takes X W) (ha : PA X (e :: es) (tMA ⟨X.K, cm, fx, X.w⟩ W args)) (hl : Len args n)
    (hg : Gl X x := by rfl) (hdb : (x == ("__debug__" : Str)) = false := by decide) (he : starEach (e :: es) X.env = (false, eval e X.env) :: starEach es X.env := by rfl) (hpl : (backTo pos (starEach es X.env)).any (·.1) = false := by rfl) :
    PE X (.Call (.Name x p) (e :: es) [] pos) (tM ⟨X.K, cm, fx, X.w⟩ W (mMake c F args)) := by
  obtain ⟨f, fd, ps, hm, M, hb, hps, G⟩ := h.ex
  refine (pe_makeSD (E := EW W) M G hr hg hm hb .nil (fun σ => pass_at tk σ) ha hdb he hpl).imp fun σ H Q q => ?_
  obtain ⟨ε, ρ, L, he, hh, q⟩ := q
  refine ⟨ε, ρ, L, he, hh, Lf.bind q fun ds L1 vs ρ1 H1 e1 p1 t1 h1 r1 q1 => fun x dx nx nd ne => ?_⟩
  rw [List.append_nil]
  exact made_sp h1 r1 (by rw [hps, ← r1.length, hl.h _ _ _ _ e1]) q1 nx nd ne
end Tw
end

section
set_option Elab.async false
set_option linter.all false
set_option maxRecDepth 100000
set_option maxHeartbeats 1000000
/-! Tw, part H: built-in functions, methods of lists. -/
namespace Tw
open PySem PySem.Spec L2
variable {g : Gx} {ρ ρ' : List Addr} {H H' : Hp} {X : Cx} {W : WX} {L : List O} {cm : Nat → Addr} {fx : Hp}

abbrev OC := List D → List O → OD
def rC (g : Gx) (oc : OC) : List V → Hp → VK → Prop := fun vs H Q => ∃ ρ L ds, HR g ρ L H ∧ VRs g ρ H ds vs ∧ LfO g ρ H (oc ds L) Q
def mFn (oc : OC) (args : MA) : ME := fun ε L => (args ε L).bind fun ds L1 => ofO (oc ds L1)
theorem tMA_fn {oc : OC} {args : MA} {σ : L2.St} {Q : VK} (q : tM g W (mFn oc args) σ H Q) : tMA g W args σ H fun vs H1 => rC g oc vs H1 Q := by
  obtain ⟨ε, ρ, L, he, hh, q⟩ := q
  exact ⟨ε, ρ, L, he, hh, Lf.bind q fun ds L1 vs ρ1 H1 e1 p1 t1 h1 r1 q1 => ⟨ρ1, L1, ds, h1, r1, LfO.of q1⟩⟩
theorem se_fnB {oc : OC} {x : Str} {id : String} {e : Expr} {es : List Expr} {args : MA} {p pos : Pos} (hc : CallR X (.builtin id) (rC g oc)) (hm : X.mg x = none) (ha : PA X (e :: es) (tMA g W args)) (hv : bootBuiltins x = some (.builtin id) := by decide +kernel) (hg : Gl X x := by rfl) (hn : x ≠ "__name__" := by decide) (hdb : (x == ("__debug__" : Str)) = false := by decide)
    (he : starEach (e :: es) X.env = (false, eval e X.env) :: starEach es X.env := by rfl) (hpl : (backTo pos (starEach es X.env)).any (·.1) = false := by rfl) : PE X (.Call (.Name x p) (e :: es) [] pos) (tM g W (mFn oc args)) :=
  (pe_callB hc hg hm hv ha hn hdb he hpl).imp fun σ H Q q => tMA_fn q
theorem se_fnT {oc : OC} {x : Str} {T : String} {e : Expr} {es : List Expr} {args : MA} {p pos : Pos} (hc : CallR X (.type T) (rC g oc)) (hm : X.mg x = none) (ha : PA X (e :: es) (tMA g W args)) (hv : bootBuiltins x = some (.type T) := by decide +kernel) (hg : Gl X x := by rfl) (hn : x ≠ "__name__" := by decide) (hdb : (x == ("__debug__" : Str)) = false := by decide)
    (he : starEach (e :: es) X.env = (false, eval e X.env) :: starEach es X.env := by rfl) (hpl : (backTo pos (starEach es X.env)).any (·.1) = false := by rfl) : PE X (.Call (.Name x p) (e :: es) [] pos) (tM g W (mFn oc args)) :=
  (pe_callTy hc hg hm hv ha hn hdb he hpl).imp fun σ H Q q => tMA_fn q
theorem rC_one {oc : OC} {us : List V} {Q : VK} (q : rC g oc us H Q) : ∃ ρ L ds, HR g ρ L H ∧ VRs g ρ H ds us ∧ LfO g ρ H (oc ds L) Q := q
/-! len, abs, int, max, min -/
def cLen : OC := fun ds L => match ds with
  | [x] => match x with
    | .str y => if y.length ≤ most then some (.int y.length, L) else none
    | .ref n => match L[n]? with
      | some (.dic false ks) => some (.int ks.length, L)
      | some (.lst ds) => some (.int ds.length, L)
      | _ => none
    | .tup ds => some (.int ds.length, L)
    | .rol ds => some (.int ds.length, L)
    | _ => none
  | _ => none
theorem c_len : CallR X (.builtin "len") (rC ⟨X.K, cm, fx, X.w⟩ cLen) := by
  have h := (call_len (X := X)).or call_lenD
  intro pins s σ H xs us Q I r q
  refine h pins s σ H xs us Q I r ?_
  obtain ⟨ρ, L, ds, hh, rr, q⟩ := q
  unfold cLen at q
  split at q
  · obtain ⟨v, rfl, rv⟩ := rr.one
    split at q
    · cases rv
      split at q
      · rename_i hz
        exact .inl ⟨_, _, rfl, ⟨most_le hz, rfl⟩, q.same hh (.int _)⟩
      · exact q.elim
    · cases rv with
      | ref ea =>
        split at q
        · rename_i ks h1
          obtain ⟨vs, b1, b2⟩ := hh.ob _ _ _ h1 ea
          exact .inr ⟨_, _, rfl, b1, by rw [← b2.length]; exact q.same hh (.int _)⟩
        · rename_i ds h1
          obtain ⟨vs, b1, b2⟩ := hh.lst h1 ea
          exact .inl ⟨_, _, rfl, .inl ⟨_, SqL.of b1, rfl⟩, by rw [← b2.length]; exact q.same hh (.int _)⟩
        · exact q.elim
    · cases rv with
      | tup s1 t1 => exact .inl ⟨_, _, rfl, .inr ⟨_, s1.sq, rfl⟩, by rw [← t1.length]; exact q.same hh (.int _)⟩
    · cases rv with
      | rol s1 t1 => exact .inl ⟨_, _, rfl, .inl ⟨_, s1.seq, rfl⟩, by rw [← t1.length]; exact q.same hh (.int _)⟩
    · exact q.elim
  · exact q.elim
def cAbs : OC := fun ds L => match ds with
  | [.int i] => some (.int (if i < 0 then -i else i), L)
  | _ => none
theorem c_abs : CallR X (.builtin "abs") (rC g cAbs) := fun pins s σ H xs us Q I r q => call_abs pins s σ H xs us Q I r (by
  obtain ⟨ρ, L, ds, hh, rr, q⟩ := q
  unfold cAbs at q
  split at q
  · obtain ⟨v, rfl, rv⟩ := rr.one
    cases rv
    exact ⟨_, rfl, q.same hh (.int _)⟩
  · exact q.elim)
def cInt : OC := fun ds L => match ds with
  | [.int i] => some (.int i, L)
  | [.bl b] => some (.int (if b then 1 else 0), L)
  | _ => none
theorem c_int : CallR X (.type "int") (rC g cInt) := fun pins s σ H xs us Q I r q => call_int1 pins s σ H xs us Q I r (by
  obtain ⟨ρ, L, ds, hh, rr, q⟩ := q
  unfold cInt at q
  split at q
  · obtain ⟨v, rfl, rv⟩ := rr.one
    cases rv
    exact .inl ⟨_, rfl, q.same hh (.int _)⟩
  · obtain ⟨v, rfl, rv⟩ := rr.one
    cases rv
    exact .inr ⟨_, rfl, q.same hh (.int _)⟩
  · exact q.elim)
/-- ints of a list of data -/
def intsD : List D → Option (List Int)
  | [] => some []
  | .int i :: ds => (intsD ds).map (i :: ·)
  | _ => none
theorem intsD_ok : ∀ {ds : List D} {vs : List V} {ns : List Int}, VRs g ρ H ds vs → intsD ds = some ns → vs = ns.map V.int ∧ ds = ns.map D.int
  | [], _, _, r, e => by cases r; cases e; exact ⟨rfl, rfl⟩
  | d :: ds, _, ns, r, e => by
    cases r with
    | cons r t =>
      unfold intsD at e
      cases r with
      | int i =>
        simp only at e
        cases h : intsD ds with
        | none => rw [h] at e; cases e
        | some ms =>
          rw [h] at e
          cases e
          obtain ⟨e1, e2⟩ := intsD_ok t h
          exact ⟨by rw [e1]; rfl, by rw [e2]; rfl⟩
      | _ => cases e
def maxI : List Int → Int
  | [] => 0
  | a :: l => l.foldl (fun m x => if x > m then x else m) a
def minI : List Int → Int
  | [] => 0
  | a :: l => l.foldl (fun m x => if x < m then x else m) a
theorem foldmax (l : List Int) : ∀ a, (∀ y ∈ a :: l, y ≤ l.foldl (fun m x => if x > m then x else m) a) ∧ l.foldl (fun m x => if x > m then x else m) a ∈ a :: l := by
  induction l with
  | nil => intro a; simp
  | cons b l ih =>
    intro a
    simp only [List.foldl_cons]
    obtain ⟨h1, h2⟩ := ih (if b > a then b else a)
    have hb := h1 _ List.mem_cons_self
    generalize List.foldl (fun m x => if x > m then x else m) (if b > a then b else a) l = F at h1 h2 hb ⊢
    refine ⟨fun y hy => ?_, ?_⟩
    · rcases List.mem_cons.mp hy with rfl | hy
      · split at hb <;> omega
      · rcases List.mem_cons.mp hy with rfl | hy
        · split at hb <;> omega
        · exact h1 y (List.mem_cons_of_mem _ hy)
    · rcases List.mem_cons.mp h2 with e | h2
      · rw [e]
        split <;> simp
      · exact List.mem_cons_of_mem _ (List.mem_cons_of_mem _ h2)
theorem foldmin (l : List Int) : ∀ a, (∀ y ∈ a :: l, l.foldl (fun m x => if x < m then x else m) a ≤ y) ∧ l.foldl (fun m x => if x < m then x else m) a ∈ a :: l := by
  induction l with
  | nil => intro a; simp
  | cons b l ih =>
    intro a
    simp only [List.foldl_cons]
    obtain ⟨h1, h2⟩ := ih (if b < a then b else a)
    have hb := h1 _ List.mem_cons_self
    generalize List.foldl (fun m x => if x < m then x else m) (if b < a then b else a) l = F at h1 h2 hb ⊢
    refine ⟨fun y hy => ?_, ?_⟩
    · rcases List.mem_cons.mp hy with rfl | hy
      · split at hb <;> omega
      · rcases List.mem_cons.mp hy with rfl | hy
        · split at hb <;> omega
        · exact h1 y (List.mem_cons_of_mem _ hy)
    · rcases List.mem_cons.mp h2 with e | h2
      · rw [e]
        split <;> simp
      · exact List.mem_cons_of_mem _ (List.mem_cons_of_mem _ h2)
def cMax : OC := fun ds L => match ds with
  | [.int i, .int j] => some (.int (if j > i then j else i), L)
  | [x] => match seqD L x with
    | some ds => match x with
      | .tup _ => none
      | _ => match intsD ds with
        | some (a :: l) => some (.int (maxI (a :: l)), L)
        | _ => none
    | none => none
  | _ => none
def cMin : OC := fun ds L => match ds with
  | [.int i, .int j] => some (.int (if j < i then j else i), L)
  | [x] => match seqD L x with
    | some ds => match x with
      | .tup _ => none
      | _ => match intsD ds with
        | some (a :: l) => some (.int (minI (a :: l)), L)
        | _ => none
    | none => none
  | _ => none
theorem seqL_ok {x : D} {v : V} {ds : List D} (hh : HR g ρ L H) (r : VR g ρ H x v) (e : seqD L x = some ds) (hx : ∀ l, x ≠ .tup l) : ∃ a vs, v = .ref a ∧ VRs g ρ H ds vs ∧ SqL g.K H a vs := by
  unfold seqD at e
  split at e
  · exact (hx _ rfl).elim
  · cases e
    cases r with
    | rol s t => exact ⟨_, _, rfl, t, s.seq⟩
  · cases r with
    | ref ea =>
      split at e
      · rename_i h1
        cases e
        obtain ⟨vs, b1, b2⟩ := hh.lst h1 ea
        exact ⟨_, vs, rfl, b2, SqL.of b1⟩
      · cases e
  · cases e
theorem c_max (hc : X.calm = true) : CallR X (.builtin "max") (rC ⟨X.K, cm, fx, X.w⟩ cMax) := by
  have h := (call_max2 (X := X) hc).or (cr_max hc)
  intro pins s σ H xs us Q I r q
  refine h pins s σ H xs us Q I r ?_
  obtain ⟨ρ, L, ds, hh, rr, q⟩ := q
  unfold cMax at q
  split at q
  · obtain ⟨v, u, rfl, r1, r2⟩ := rr.two
    cases r1; cases r2
    exact .inl ⟨_, _, rfl, q.same hh (.int _)⟩
  · obtain ⟨v, rfl, rv⟩ := rr.one
    split at q
    · rename_i ds hs
      split at q
      · exact q.elim
      · rename_i hx
        split at q
        · rename_i a l hi
          obtain ⟨b, vs, rfl, t, sq⟩ := seqL_ok hh rv hs (fun l e => hx l e)
          obtain ⟨e1, _⟩ := intsD_ok t hi
          subst e1
          refine .inr ⟨b, a :: l, rfl, sq, by simp, fun m hm hmax => ?_⟩
          obtain ⟨f1, f2⟩ := foldmax l a
          have : m = maxI (a :: l) := by
            have h1 := hmax _ f2
            have h2 := f1 m hm
            show m = l.foldl _ a
            omega
          rw [this]
          exact q.same hh (.int _)
        · exact q.elim
    · exact q.elim
  · exact q.elim
theorem c_min (hc : X.calm = true) : CallR X (.builtin "min") (rC ⟨X.K, cm, fx, X.w⟩ cMin) := by
  have h := (call_min2 (X := X) hc).or (cr_min hc)
  intro pins s σ H xs us Q I r q
  refine h pins s σ H xs us Q I r ?_
  obtain ⟨ρ, L, ds, hh, rr, q⟩ := q
  unfold cMin at q
  split at q
  · obtain ⟨v, u, rfl, r1, r2⟩ := rr.two
    cases r1; cases r2
    exact .inl ⟨_, _, rfl, q.same hh (.int _)⟩
  · obtain ⟨v, rfl, rv⟩ := rr.one
    split at q
    · rename_i ds hs
      split at q
      · exact q.elim
      · rename_i hx
        split at q
        · rename_i a l hi
          obtain ⟨b, vs, rfl, t, sq⟩ := seqL_ok hh rv hs (fun l e => hx l e)
          obtain ⟨e1, _⟩ := intsD_ok t hi
          subst e1
          refine .inr ⟨b, a :: l, rfl, sq, by simp, fun m hm hmin => ?_⟩
          obtain ⟨f1, f2⟩ := foldmin l a
          have : m = minI (a :: l) := by
            have h1 := hmin _ f2
            have h2 := f1 m hm
            show m = l.foldl _ a
            omega
          rw [this]
          exact q.same hh (.int _)
        · exact q.elim
    · exact q.elim
  · exact q.elim
/-! all, any of a list of truths -/
def blsD : List D → Option (List Bool)
  | [] => some []
  | .bl i :: ds => (blsD ds).map (i :: ·)
  | _ => none
theorem blsD_ok : ∀ {ds : List D} {vs : List V} {ns : List Bool}, VRs g ρ H ds vs → blsD ds = some ns → vs = ns.map V.bl
  | [], _, _, r, e => by cases r; cases e; rfl
  | d :: ds, _, ns, r, e => by
    cases r with
    | cons r t =>
      unfold blsD at e
      cases r with
      | bl i =>
        simp only at e
        cases h : blsD ds with
        | none => rw [h] at e; cases e
        | some ms =>
          rw [h] at e
          cases e
          rw [blsD_ok t h]
          rfl
      | _ => cases e
def cAll : OC := fun ds L => match ds with
  | [.ref n] => match L[n]? with
    | some (.lst ds) => (blsD ds).map fun bs => (.bl (bs.all id), L)
    | _ => none
  | _ => none
def cAny : OC := fun ds L => match ds with
  | [.ref n] => match L[n]? with
    | some (.lst ds) => (blsD ds).map fun bs => (.bl (bs.any id), L)
    | _ => none
  | _ => none
theorem c_all (hc : X.calm = true) : CallR X (.builtin "all") (rC ⟨X.K, cm, fx, X.w⟩ cAll) := fun pins s σ H xs us Q I r q => cr_all hc pins s σ H xs us Q I r (by
  obtain ⟨ρ, L, ds, hh, rr, q⟩ := q
  unfold cAll at q
  split at q
  · obtain ⟨v, rfl, rv⟩ := rr.one
    cases rv with
    | ref ea =>
      split at q
      · rename_i ds h1
        obtain ⟨vs, b1, b2⟩ := hh.lst h1 ea
        cases hb : blsD ds with
        | none => rw [hb] at q; exact q.elim
        | some bs =>
          rw [hb] at q
          refine ⟨_, bs, rfl, ?_, LfO.same q hh (.bl _)⟩
          rw [← blsD_ok b2 hb]
          exact SqL.of b1
      · exact q.elim
  · exact q.elim)
theorem c_any (hc : X.calm = true) : CallR X (.builtin "any") (rC ⟨X.K, cm, fx, X.w⟩ cAny) := fun pins s σ H xs us Q I r q => cr_any hc pins s σ H xs us Q I r (by
  obtain ⟨ρ, L, ds, hh, rr, q⟩ := q
  unfold cAny at q
  split at q
  · obtain ⟨v, rfl, rv⟩ := rr.one
    cases rv with
    | ref ea =>
      split at q
      · rename_i ds h1
        obtain ⟨vs, b1, b2⟩ := hh.lst h1 ea
        cases hb : blsD ds with
        | none => rw [hb] at q; exact q.elim
        | some bs =>
          rw [hb] at q
          refine ⟨_, bs, rfl, ?_, LfO.same q hh (.bl _)⟩
          rw [← blsD_ok b2 hb]
          exact SqL.of b1
      · exact q.elim
  · exact q.elim)
/-! list(xs), tuple(xs) -/
def cList : OC := fun ds L => match ds with
  | [x] => (seqD L x).map fun ds => (.ref L.length, L ++ [.lst ds])
  | _ => none
def cTuple : OC := fun ds L => match ds with
  | [x] => (seqD L x).map fun ds => (.tup ds, L)
  | _ => none
theorem c_list : CallR X (.type "list") (rC ⟨X.K, cm, fx, X.w⟩ cList) := fun pins s σ H xs us Q I r q => call_list_of pins s σ H xs us Q I r (by
  obtain ⟨ρ, L, ds, hh, rr, q⟩ := q
  unfold cList at q
  split at q
  · obtain ⟨v, rfl, rv⟩ := rr.one
    cases hs : seqD L _ with
    | none => rw [hs] at q; exact q.elim
    | some ds =>
      rw [hs] at q
      obtain ⟨a, vs, rfl, t, sq⟩ := seqD_ok hh rv hs
      exact ⟨a, vs, rfl, (sq.imp_left TuT.sq).symm, fun p hp => LfO.newL q hh t hp⟩
  · exact q.elim)
theorem c_tuple : CallR X (.type "tuple") (rC ⟨X.K, cm, fx, X.w⟩ cTuple) := fun pins s σ H xs us Q I r q => call_tuple_of pins s σ H xs us Q I r (by
  obtain ⟨ρ, L, ds, hh, rr, q⟩ := q
  unfold cTuple at q
  split at q
  · obtain ⟨v, rfl, rv⟩ := rr.one
    cases hs : seqD L _ with
    | none => rw [hs] at q; exact q.elim
    | some ds =>
      rw [hs] at q
      obtain ⟨a, vs, rfl, t, sq⟩ := seqD_ok hh rv hs
      rcases sq with sq | sq
      · exact ⟨a, vs, rfl, .inr ⟨sq.sq, LfO.same q hh (.tup sq t)⟩⟩
      · exact ⟨a, vs, rfl, .inl ⟨sq, fun p hp => LfO.newT q hh t hp⟩⟩
  · exact q.elim)
/-- list(range(n)), list(range(a, b)) -/
def mListRg1 (a : ME) : ME := fun ε L => (a ε L).bind fun x L1 => match x with
  | .int n => if -1000000 ≤ n ∧ n ≤ most then .ok (.ref L1.length) (L1 ++ [.lst (rngD 0 n.toNat)]) else .bad
  | _ => .bad
def mListRg2 (a b : ME) : ME := fun ε L => (a ε L).bind fun x L1 => (b ε L1).bind fun y L2 => match x, y with
  | .int lo, .int n => if 0 ≤ lo ∧ lo ≤ most ∧ 0 ≤ n ∧ n ≤ most then .ok (.ref L2.length) (L2 ++ [.lst (rngD lo (n - lo).toNat)]) else .bad
  | _, _ => .bad
theorem rng_vals (a b : Int) : VRs g ρ H (rngD a (b - a).toNat) (rgV a b) := by
  unfold rngD rgV
  generalize List.range (b - a).toNat = l
  induction l with
  | nil => exact .nil
  | cons k l ih => exact .cons (.int _) ih
theorem most_val : (most : Int) = 1000000 := rfl
theorem se_listRg1 {e : Expr} {a : ME} {p p2 pos pos2 : Pos} (hc : X.calm = true) (hm : X.mg "list" = none) (hmr : X.mg "range" = none) (ha : PE X e (tM g W a)) (hg : Gl X "list" := by rfl) (hgr : Gl X "range" := by rfl) (na : starEach [e] X.env = (false, eval e X.env) :: starEach [] X.env := by rfl)
    (na2 : starEach [.Call (.Name "range" p) [e] [] pos] X.env = (false, eval (.Call (.Name "range" p) [e] [] pos) X.env) :: starEach [] X.env := by rfl) : PE X (.Call (.Name "list" p2) [.Call (.Name "range" p) [e] [] pos] [] pos2) (tM g W (mListRg1 a)) :=
  (pe_listRg hc hg hm (prg_1 hgr hmr ha na) na2).imp fun σ H Q q => by
    obtain ⟨ε, ρ, L, he, hh, q⟩ := q
    refine ⟨ε, ρ, L, he, hh, Lf.bind q fun x L1 v ρ1 H1 e1 p1 t1 h1 r1 q1 => ?_⟩
    cases r1 with
    | int n =>
      simp only at q1
      split at q1
      · rename_i hz
        rw [most_val] at hz
        refine ⟨n, rfl, ⟨by omega, by omega, by omega, by omega, by omega⟩, fun p hp => LfO.newL q1 h1 ?_ hp⟩
        have := rng_vals (g := g) (ρ := ρ1) (H := H1) 0 n
        rwa [Int.sub_zero] at this
      · exact q1.elim
    | _ => exact q1.elim
/-! ### isinstance -/
inductive Tag | non | bl | int | str | tup | lst | dic | ins (c : Nat)
  deriving DecidableEq
def tagD (L : List O) : D → Option Tag
  | .non => some .non
  | .bl _ => some .bl
  | .int _ => some .int
  | .str _ => some .str
  | .tup _ => some .tup
  | .rol _ => some .lst
  | .ref n => match L[n]? with
    | some (.lst _) => some .lst
    | some (.dic false _) => some .dic
    | some (.ins c _) => some (.ins c)
    | _ => none
  | .cls _ => none
  | .ty _ => none
def tagV (cm : Nat → Addr) : Tag → Value
  | .non => .type "NoneType" | .bl => .type "bool" | .int => .type "int" | .str => .type "str" | .tup => .type "tuple" | .lst => .type "list" | .dic => .type "dict" | .ins c => .ref (cm c)
/-- what is asked of an own class whose instances are looked at -/
structure InsTy (K : PySem.W.Frag) (C : Addr) : Prop where
  cl : Cls K C
  ha : PySem.W.findIn K (.ref C) "__class__" = some (some (.builtin "object.__class__"))
  hn : PySem.W.specialIn K (.builtin "object.__class__") "__get__" = some (some (.builtin "getset_descriptor.__get__"))
  htk : PySem.W.takesIn K (.builtin "object.__class__") = some true
  hm : PySem.W.mroIn K C (.type "object") = some true
theorem tag_ok {x : D} {v : V} {t : Tag} (hh : HR g ρ L H) (r : VR g ρ H x v) (e : tagD L x = some t) (hi : ∀ c, t = .ins c → InsTy g.K (g.cm c)) : TyX g.K H v (tagV g.cm t) := by
  unfold tagD at e
  cases r with
  | non => cases e; exact .base .non
  | bl b => cases e; exact .base (.bl b)
  | int i => cases e; exact .base (.int i)
  | str y => cases e; exact .base (.str y)
  | cls c => cases e
  | ty c => cases e
  | tup s t =>
    cases e
    rcases s with s | ((s | ⟨o, s⟩) | ⟨o, its, n, h1, h2, _⟩)
    · exact .base (.tup s)
    · cases s
    · cases s
    · exact .kTuple h1 h2
  | rol s t =>
    cases e
    rcases s with ⟨o, s⟩ | s
    · exact .base (.frz s)
    · rcases s with (h | ⟨_, h⟩) | ⟨o, its, n, h1, h2, _⟩
      · cases h
      · cases h
      · exact .kList h1 h2
  | ref ea =>
    simp only at e
    split at e
    · rename_i ds h1
      cases e
      obtain ⟨vs, b1, b2⟩ := hh.lst h1 ea
      exact .base (.lst b1)
    · rename_i ks h1
      cases e
      obtain ⟨vs, b1, b2⟩ := hh.ob _ _ _ h1 ea
      exact .base (.dK b1)
    · rename_i c fs h1
      cases e
      obtain ⟨dx, vs, b1, b2⟩ := hh.ins h1 ea
      obtain ⟨cl, ha, hn, htk, hm⟩ := hi c rfl
      exact .base (.ins b1 cl ha hn htk hm)
    · cases e
end Tw
end

section
set_option Elab.async false
set_option linter.all false
set_option maxRecDepth 100000
set_option maxHeartbeats 1000000
/-! Tw, part I: isinstance, methods of lists and dicts. -/
namespace Tw
open PySem PySem.Spec L2
variable {g : Gx} {ρ ρ' : List Addr} {H H' : Hp} {X : Cx} {W : WX} {L : List O} {cm : Nat → Addr} {fx : Hp}

/-! ### isinstance -/
def tagN : Tag → String
  | .non => "NoneType" | .bl => "bool" | .int => "int" | .str => "str" | .tup => "tuple" | .lst => "list" | .dic => "dict" | .ins _ => ""
def isiT (T : Tag) (cs : List Nat) : Tag → Option Bool
  | .ins c => if c ∈ cs then some false else none
  | t => some (decide (t = T) || (decide (t = .bl) && decide (T = .int)))
theorem kit_tab (T t : Tag) (hT : ∀ c, T ≠ .ins c) (hn : T ≠ .non) (ht : ∀ c, t ≠ .ins c) : kitB (tagN t) (tagN T) = some (decide (t = T) || (decide (t = .bl) && decide (T = .int))) := by
  cases T <;> first | exact (hT _ rfl).elim | exact (hn rfl).elim | skip
  all_goals (cases t <;> first | exact (ht _ rfl).elim | decide +kernel)
def mIsi (f : Tag → Option Bool) (a : ME) : ME := fun ε L => (a ε L).bind fun x L1 => match (tagD L1 x).bind f with
  | some b => .ok (.bl b) L1
  | none => .bad
theorem se_isi {f : Tag → Option Bool} {e eT : Expr} {a : ME} {c : V} {u : Value} {p pos : Pos} (hm : X.mg "isinstance" = none) (ha : PE X e (tM ⟨X.K, cm, fx, X.w⟩ W a)) (hT : PE X eT (tC c)) (hc : ClsV c u)
    (hf : ∀ t b, f t = some b → PySem.W.kitOne X.K (tagV cm t) u = some b) (hi : ∀ c b, f (.ins c) = some b → InsTy X.K (cm c)) (hg : Gl X "isinstance" := by rfl)
    (he : starEach [e, eT] X.env = (false, eval e X.env) :: starEach [eT] X.env := by rfl) (he2 : starEach [eT] X.env = (false, eval eT X.env) :: starEach [] X.env := by rfl) (hpl : (backTo pos (starEach [eT] X.env)).any (·.1) = false := by rfl) :
    PE X (.Call (.Name "isinstance" p) [e, eT] [] pos) (tM ⟨X.K, cm, fx, X.w⟩ W (mIsi f a)) :=
  (pe_callB call_isi hg hm (by decide +kernel) (pa_cons ha (pa_cons hT pa_nil he2) he) (by decide) (by decide) he hpl).imp fun σ H Q q => by
    obtain ⟨ε, ρ, L, he, hh, q⟩ := q
    refine ⟨ε, ρ, L, he, hh, Lf.bind q fun x L1 v ρ1 H1 e1 p1 t1 h1 r1 q1 => ?_⟩
    cases ht : tagD L1 x with
    | none => rw [ht] at q1; exact q1.elim
    | some t =>
      rw [ht] at q1
      simp only [Option.bind_some] at q1
      cases hb : f t with
      | none => rw [hb] at q1; exact q1.elim
      | some b =>
        rw [hb] at q1
        refine ⟨v, c, tagV cm t, u, b, rfl, hc, tag_ok h1 r1 ht (fun c e => hi c b (by rw [← e]; exact hb)), hf t b hb, ?_⟩
        exact q1 (.bl b) ρ1 H1 (List.prefix_refl _) (TP.refl H1) h1 (.bl b)
/-- isinstance(x, T), T a built-in type -/
theorem se_isiB {cm : Nat → Addr} {fx : Hp} (T : Tag) (cs : List Nat) {e : Expr} {a : ME} {x : Str} {p p2 pos : Pos} (hm : X.mg "isinstance" = none) (hmT : X.mg x = none) (ha : PE X e (tM ⟨X.K, cm, fx, X.w⟩ W a))
    (hcs : ∀ c ∈ cs, InsTy X.K (cm c) ∧ PySem.W.kitOne X.K (.ref (cm c)) (.type (tagN T)) = some false) (hT : ∀ c, T ≠ .ins c) (hn : T ≠ .non)
    (hv : bootBuiltins x = some (.type (tagN T)) := by decide +kernel) (hgT : Gl X x := by rfl) (hnx : x ≠ "__name__" := by decide) (hdb : (x == ("__debug__" : Str)) = false := by decide) (hg : Gl X "isinstance" := by rfl)
    (he : starEach [e, .Name x p2] X.env = (false, eval e X.env) :: starEach [.Name x p2] X.env := by rfl) (he2 : starEach [.Name x p2] X.env = (false, eval (.Name x p2) X.env) :: starEach [] X.env := by rfl) (hpl : (backTo pos (starEach [.Name x p2] X.env)).any (·.1) = false := by rfl) :
    PE X (.Call (.Name "isinstance" p) [e, .Name x p2] [] pos) (tM ⟨X.K, cm, fx, X.w⟩ W (mIsi (isiT T cs) a)) :=
  se_isi (cm := cm) hm ha (pe_bltn hgT hmT hv (v := .ty (tagN T)) rfl hnx hdb) (.ty _) (fun t b hb => by
    cases t with
    | ins c =>
      simp only [isiT] at hb
      split at hb
      · rename_i hc
        cases hb
        exact (hcs c hc).2
      · cases hb
    | non => cases hb; exact kit_ty (kit_tab T .non hT hn (by intro c h; cases h))
    | bl => cases hb; exact kit_ty (kit_tab T .bl hT hn (by intro c h; cases h))
    | int => cases hb; exact kit_ty (kit_tab T .int hT hn (by intro c h; cases h))
    | str => cases hb; exact kit_ty (kit_tab T .str hT hn (by intro c h; cases h))
    | tup => cases hb; exact kit_ty (kit_tab T .tup hT hn (by intro c h; cases h))
    | lst => cases hb; exact kit_ty (kit_tab T .lst hT hn (by intro c h; cases h))
    | dic => cases hb; exact kit_ty (kit_tab T .dic hT hn (by intro c h; cases h))) (fun c b hb => by
    simp only [isiT] at hb
    split at hb
    · rename_i hc
      exact (hcs c hc).1
    · cases hb) hg he he2 hpl
/-- isinstance(x, C), C an own class -/
structure IsiC (K : PySem.W.Frag) (C : Addr) : Prop where
  non : PySem.W.kitOne K (.type "NoneType") (.ref C) = some false
  bl : PySem.W.kitOne K (.type "bool") (.ref C) = some false
  int : PySem.W.kitOne K (.type "int") (.ref C) = some false
  str : PySem.W.kitOne K (.type "str") (.ref C) = some false
  tup : PySem.W.kitOne K (.type "tuple") (.ref C) = some false
  lst : PySem.W.kitOne K (.type "list") (.ref C) = some false
  dic : PySem.W.kitOne K (.type "dict") (.ref C) = some false
  self : PySem.W.kitOne K (.ref C) (.ref C) = some true
def isiC (c : Nat) (cs : List Nat) : Tag → Option Bool
  | .ins c' => if c' = c then some true else if c' ∈ cs then some false else none
  | _ => some false
theorem se_isiC {cm : Nat → Addr} {fx : Hp} (c : Nat) (cs : List Nat) {e : Expr} {a : ME} {x : Str} {p p2 pos : Pos} (hm : X.mg "isinstance" = none) (hmT : X.mg x = some (.ref (cm c))) (ha : PE X e (tM ⟨X.K, cm, fx, X.w⟩ W a)) (hC : IsiC X.K (cm c)) (hi : InsTy X.K (cm c))
    (hcs : ∀ c' ∈ cs, InsTy X.K (cm c') ∧ PySem.W.kitOne X.K (.ref (cm c')) (.ref (cm c)) = some false) (hgT : Gl X x := by rfl) (hdb : (x == ("__debug__" : Str)) = false := by decide) (hg : Gl X "isinstance" := by rfl)
    (he : starEach [e, .Name x p2] X.env = (false, eval e X.env) :: starEach [.Name x p2] X.env := by rfl) (he2 : starEach [.Name x p2] X.env = (false, eval (.Name x p2) X.env) :: starEach [] X.env := by rfl) (hpl : (backTo pos (starEach [.Name x p2] X.env)).any (·.1) = false := by rfl) :
    PE X (.Call (.Name "isinstance" p) [e, .Name x p2] [] pos) (tM ⟨X.K, cm, fx, X.w⟩ W (mIsi (isiC c cs) a)) :=
  se_isi (cm := cm) hm ha (pe_glob hgT hmT (v := .ref (cm c)) rfl hdb) (.own _) (fun t b hb => by
    cases t with
    | ins c' =>
      simp only [isiC] at hb
      split at hb
      · rename_i hc
        cases hb
        subst hc
        exact hC.self
      · split at hb
        · rename_i hc
          cases hb
          exact (hcs c' hc).2
        · cases hb
    | non => cases hb; exact hC.non
    | bl => cases hb; exact hC.bl
    | int => cases hb; exact hC.int
    | str => cases hb; exact hC.str
    | tup => cases hb; exact hC.tup
    | lst => cases hb; exact hC.lst
    | dic => cases hb; exact hC.dic) (fun c' b hb => by
    simp only [isiC] at hb
    split at hb
    · rename_i hc
      subst hc
      exact hi
    · split at hb
      · rename_i hc
        exact (hcs c' hc).1
      · cases hb) hg he he2 hpl

/-! ### methods of lists -/
abbrev OM := D → List D → List O → OD
def rMt (g : Gx) (om : OM) : V → List V → Hp → VK → Prop := fun x vs H Q => ∃ ρ L d ds, HR g ρ L H ∧ VR g ρ H d x ∧ VRs g ρ H ds vs ∧ LfO g ρ H (om d ds L) Q
def isLst (L : List O) : D → Bool
  | .ref n => match L[n]? with
    | some (.lst _) => true
    | _ => false
  | .rol _ => true
  | _ => false
theorem isLst_ok {x : D} {v : V} (hh : HR g ρ L H) (r : VR g ρ H x v) (e : isLst L x = true) : tyV g.K "list" v H := by
  cases r with
  | ref ea =>
    simp only [isLst] at e
    split at e
    · rename_i h1
      obtain ⟨vs, b1, b2⟩ := hh.lst h1 ea
      exact .inl ⟨rfl, _, SqL.of b1⟩
    · cases e
  | rol s t => exact .inl ⟨rfl, _, s.seq⟩
  | _ => cases e
def mBmL (om : OM) (o : ME) (args : MA) : ME := fun ε L => (o ε L).bind fun x L1 => if isLst L1 x = true then (args ε L1).bind fun ds L2 => ofO (om x ds L2) else .bad
theorem se_bmL {om : OM} {id : String} {name : Str} {o e : Expr} {es : List Expr} {mo : ME} {args : MA} {apos cpos : Pos} (slot : Slot "list" name id) (hty : typeOf (.builtin id) = pure (.type "method_descriptor")) (hm : MtR X id (rMt ⟨X.K, cm, fx, X.w⟩ om))
    (ho : PE X o (tM ⟨X.K, cm, fx, X.w⟩ W mo)) (ha : PA X (e :: es) (tMA ⟨X.K, cm, fx, X.w⟩ W args)) (hbase : attributeBase o name X.env (eval o X.env) = eval o X.env := by rfl)
    (hfew : ((backTo cpos (starEach (e :: es) X.env)).all (fun x => !x.1) && (backToKw cpos (keywordEach [] X.env)).all (fun x => x.1.isSome)
      && decide ((e :: es).length + ([] : List Keyword).length + (if ([] : List Keyword).isEmpty then 0 else 1) < 30)) = true := by rfl)
    (hline : (apos.endLine == cpos.line) = true := by rfl) (hs : starEach (e :: es) X.env = (false, eval e X.env) :: starEach es X.env := by rfl) (hplain : (backTo cpos (starEach es X.env)).any (·.1) = false := by rfl) :
    PE X (.Call (.Attribute o name apos) (e :: es) [] cpos) (tM ⟨X.K, cm, fx, X.w⟩ W (mBmL om mo args)) :=
  (pe_bm PySem.F.plainAttrs_list slot hty hm ho ha hbase hfew hline hs hplain).imp fun σ H Q q => by
    obtain ⟨ε, ρ, L, he, hh, q⟩ := q
    refine ⟨ε, ρ, L, he, hh, Lf.bind q fun x L1 v ρ1 H1 e1 p1 t1 h1 r1 q1 => ?_⟩
    cases hi : isLst L1 x with
    | false => rw [hi, if_neg (by decide)] at q1; exact q1.elim
    | true =>
      rw [hi, if_pos rfl] at q1
      refine ⟨isLst_ok h1 r1 hi, ε, ρ1, L1, he.mono p1 t1, h1, Lf.bind q1 fun ds L2 vs ρ2 H2 e2 p2 t2 h2 r2 q2 => ?_⟩
      exact ⟨ρ2, L2, x, ds, h2, r1.mono p2 t2, r2, LfO.of q2⟩
theorem se_bmL0 {om : OM} {id : String} {name : Str} {o : Expr} {mo : ME} {apos cpos : Pos} (slot : Slot "list" name id) (hty : typeOf (.builtin id) = pure (.type "method_descriptor")) (hm : MtR X id (rMt ⟨X.K, cm, fx, X.w⟩ om))
    (ho : PE X o (tM ⟨X.K, cm, fx, X.w⟩ W mo)) (hbase : attributeBase o name X.env (eval o X.env) = eval o X.env := by rfl) (hline : (apos.endLine == cpos.line) = true := by rfl) :
    PE X (.Call (.Attribute o name apos) [] [] cpos) (tM ⟨X.K, cm, fx, X.w⟩ W (mBmL om mo mNil)) :=
  (pe_bm0 PySem.F.plainAttrs_list slot hty hm ho hbase hline).imp fun σ H Q q => by
    obtain ⟨ε, ρ, L, he, hh, q⟩ := q
    refine ⟨ε, ρ, L, he, hh, Lf.bind q fun x L1 v ρ1 H1 e1 p1 t1 h1 r1 q1 => ?_⟩
    cases hi : isLst L1 x with
    | false => rw [hi, if_neg (by decide)] at q1; exact q1.elim
    | true =>
      rw [hi, if_pos rfl] at q1
      exact ⟨isLst_ok h1 r1 hi, ρ1, L1, x, [], h1, r1, .nil, LfO.of q1⟩
/-- a list is changed -/
theorem LfO.setL {d : D} {v : V} {n : Nat} {a : Addr} {ds es : List D} {us vs : List V} {Q : VK} (h : LfO g ρ H (some (d, L.set n (.lst es))) Q) (hh : HR g ρ L H) (ea : ρ[n]? = some a) (e : H a = some (.lst us)) (r : VRs g ρ H es vs) (rv : VR g ρ H d v) : Q v (upd H a (.lst vs)) := by
  have t : TP H (upd H a (.lst vs)) := TP.mut e rfl
  exact h v ρ _ (List.prefix_refl _) t (hh.set ea e rfl ⟨vs, upd_same, r.mono (List.prefix_refl _) t⟩) (rv.mono (List.prefix_refl _) t)
def oAppend : OM := fun x ds L => match x, ds with
  | .ref n, [y] => match L[n]? with
    | some (.lst xs) => if xs.length < most then some (.non, L.set n (.lst (xs ++ [y]))) else none
    | _ => none
  | _, _ => none
theorem mt_oAppend : MtR X "list.append" (rMt ⟨X.K, cm, fx, X.w⟩ oAppend) := fun pins s σ H x xs v us Q I rx r q => mt_append pins s σ H x xs v us Q I rx r (by
  obtain ⟨ρ, L, d, ds, hh, rd, rr, q⟩ := q
  unfold oAppend at q
  split at q
  · obtain ⟨yv, rfl, ry⟩ := rr.one
    cases rd with
    | ref ea =>
      split at q
      · rename_i zs h1
        obtain ⟨vs, b1, b2⟩ := hh.lst h1 ea
        split at q
        · rename_i hz
          exact ⟨_, vs, yv, rfl, rfl, b1, Nat.lt_of_lt_of_le (by rw [← b2.length]; exact hz) (most_le (Nat.le_refl _)), q.setL (ds := []) hh ea b1 (b2.append (.cons ry .nil)) .non⟩
        · exact q.elim
      · exact q.elim
  · exact q.elim)
def oExtend : OM := fun x ds L => match x, ds with
  | .ref n, [.ref m] => match L[n]?, L[m]? with
    | some (.lst xs), some (.lst ys) => if xs.length + ys.length ≤ most then some (.non, L.set n (.lst (xs ++ ys))) else none
    | _, _ => none
  | _, _ => none
theorem mt_oExtend : MtR X "list.extend" (rMt ⟨X.K, cm, fx, X.w⟩ oExtend) := fun pins s σ H x xs v us Q I rx r q => mt_extend pins s σ H x xs v us Q I rx r (by
  obtain ⟨ρ, L, d, ds, hh, rd, rr, q⟩ := q
  unfold oExtend at q
  split at q
  · obtain ⟨yv, rfl, ry⟩ := rr.one
    cases rd with
    | ref ea =>
      cases ry with
      | ref eb =>
        split at q
        · rename_i zs ys h1 h2
          obtain ⟨vs, b1, b2⟩ := hh.lst h1 ea
          obtain ⟨ws, c1, c2⟩ := hh.lst h2 eb
          split at q
          · rename_i hz
            exact ⟨_, _, vs, ws, rfl, rfl, b1, c1, most_le (by rw [← b2.length, ← c2.length]; exact hz), q.setL (ds := []) hh ea b1 (b2.append c2) .non⟩
          · exact q.elim
        · exact q.elim
  · exact q.elim)
def oReverse : OM := fun x ds L => match x, ds with
  | .ref n, [] => match L[n]? with
    | some (.lst xs) => some (.non, L.set n (.lst xs.reverse))
    | _ => none
  | _, _ => none
theorem mt_oReverse : MtR X "list.reverse" (rMt ⟨X.K, cm, fx, X.w⟩ oReverse) := fun pins s σ H x xs v us Q I rx r q => mt_reverse pins s σ H x xs v us Q I rx r (by
  obtain ⟨ρ, L, d, ds, hh, rd, rr, q⟩ := q
  unfold oReverse at q
  split at q
  · cases rr
    cases rd with
    | ref ea =>
      split at q
      · rename_i zs h1
        obtain ⟨vs, b1, b2⟩ := hh.lst h1 ea
        exact ⟨_, vs, rfl, rfl, b1, q.setL (ds := []) hh ea b1 b2.reverse .non⟩
      · exact q.elim
  · exact q.elim)
def oClear : OM := fun x ds L => match x, ds with
  | .ref n, [] => match L[n]? with
    | some (.lst _) => some (.non, L.set n (.lst []))
    | _ => none
  | _, _ => none
theorem mt_oClear : MtR X "list.clear" (rMt ⟨X.K, cm, fx, X.w⟩ oClear) := fun pins s σ H x xs v us Q I rx r q => mt_clear pins s σ H x xs v us Q I rx r (by
  obtain ⟨ρ, L, d, ds, hh, rd, rr, q⟩ := q
  unfold oClear at q
  split at q
  · cases rr
    cases rd with
    | ref ea =>
      split at q
      · rename_i zs h1
        obtain ⟨vs, b1, b2⟩ := hh.lst h1 ea
        exact ⟨_, vs, rfl, rfl, b1, q.setL (ds := []) hh ea b1 .nil .non⟩
      · exact q.elim
  · exact q.elim)
theorem VRs.eraseIdx : ∀ {ds : List D} {vs : List V} (k : Nat), VRs g ρ H ds vs → VRs g ρ H (ds.eraseIdx k) (vs.eraseIdx k)
  | _, _, _, .nil => by simp; exact .nil
  | _, _, 0, .cons r t => by simpa using t
  | _, _, k + 1, .cons r t => by simp only [List.eraseIdx_cons_succ]; exact .cons r (VRs.eraseIdx k t)
theorem VRs.dropLast {ds : List D} {vs : List V} (r : VRs g ρ H ds vs) : VRs g ρ H ds.dropLast vs.dropLast := by
  rw [List.dropLast_eq_take, List.dropLast_eq_take, r.length]
  exact r.take _
def oPop : OM := fun x ds L => match x, ds with
  | .ref n, [] => match L[n]? with
    | some (.lst xs) => match xs[xs.length - 1]? with
      | some y => some (y, L.set n (.lst xs.dropLast))
      | none => none
    | _ => none
  | .ref n, [.int i] => match L[n]? with
    | some (.lst xs) => if -1000000 ≤ i ∧ i ≤ 1000000 then (match seqIndex? i xs.length with
      | some k => match xs[k]? with
        | some y => some (y, L.set n (.lst (xs.eraseIdx k)))
        | none => none
      | none => none) else none
    | _ => none
  | _, _ => none
theorem mt_oPop : MtR X "list.pop" (rMt ⟨X.K, cm, fx, X.w⟩ oPop) := by
  have h := MtR.or (X := X) (show MtR X "list.pop" rPop from mt_pop) (show MtR X "list.pop" rPopAt from mt_popAt)
  intro pins s σ H x xs v us Q I rx r q
  refine h pins s σ H x xs v us Q I rx r ?_
  obtain ⟨ρ, L, d, ds, hh, rd, rr, q⟩ := q
  unfold oPop at q
  split at q
  · cases rr
    cases rd with
    | ref ea =>
      split at q
      · rename_i zs h1
        obtain ⟨vs, b1, b2⟩ := hh.lst h1 ea
        split at q
        · rename_i y hy
          obtain ⟨yv, ey, ry⟩ := b2.get hy
          exact .inl ⟨_, vs, yv, rfl, rfl, b1, by rw [← b2.length]; exact ey, q.setL (ds := []) hh ea b1 b2.dropLast ry⟩
        · exact q.elim
      · exact q.elim
  · obtain ⟨yv, rfl, ry⟩ := rr.one
    cases ry
    cases rd with
    | ref ea =>
      split at q
      · rename_i zs h1
        obtain ⟨vs, b1, b2⟩ := hh.lst h1 ea
        split at q
        · rename_i hz
          split at q
          · rename_i k hk
            split at q
            · rename_i y hy
              obtain ⟨yv, ey, ry⟩ := b2.get hy
              exact .inr ⟨_, vs, _, k, yv, rfl, rfl, b1, by omega, by omega, by rw [← b2.length]; exact hk, ey, q.setL (ds := []) hh ea b1 (b2.eraseIdx k) ry⟩
            · exact q.elim
          · exact q.elim
        · exact q.elim
      · exact q.elim
  · exact q.elim
/-- xs.index(y), plain things -/
def findF (y : D) : List D → Option Nat
  | [] => none
  | z :: zs => if eqF z y = true then some 0 else (findF y zs).map (· + 1)
def oIndex : OM := fun x ds L => match ds with
  | [y] => match seqD L x with
    | some zs => match x with
      | .tup _ => none
      | _ => if flatD y = true ∧ zs.all flatD = true then (findF y zs).map fun j => (.int j, L) else none
    | none => none
  | _ => none
theorem findF_ok {y : D} : ∀ {zs : List D} {j : Nat}, findF y zs = some j → (∃ z, zs[j]? = some z ∧ eqF z y = true) ∧ ∀ m z, m < j → zs[m]? = some z → eqF z y = false
  | [], j, e => by cases e
  | z :: zs, j, e => by
    unfold findF at e
    by_cases h : eqF z y = true
    · rw [if_pos h] at e
      cases e
      exact ⟨⟨z, rfl, h⟩, fun m z hm => absurd hm (Nat.not_lt_zero _)⟩
    · rw [if_neg h] at e
      cases hf : findF y zs with
      | none => rw [hf] at e; cases e
      | some i =>
        rw [hf] at e
        cases e
        obtain ⟨h1, h2⟩ := findF_ok hf
        refine ⟨by simpa using h1, fun m w hm hw => ?_⟩
        cases m with
        | zero => simp at hw; subst hw; simpa using h
        | succ m => exact h2 m w (Nat.lt_of_succ_lt_succ hm) (by simpa using hw)
theorem mt_oIndex : MtR X "list.index" (rMt ⟨X.K, cm, fx, X.w⟩ oIndex) := fun pins s σ H x xs v us Q I rx r q => mt_index pins s σ H x xs v us Q I rx r (by
  obtain ⟨ρ, L, d, ds, hh, rd, rr, q⟩ := q
  unfold oIndex at q
  split at q
  · obtain ⟨yv, rfl, ry⟩ := rr.one
    split at q
    · rename_i zs hs
      split at q
      · exact q.elim
      · rename_i hx
        split at q
        · rename_i hz
          obtain ⟨b, vs, rfl, t, sq⟩ := seqL_ok hh rd hs (fun l e => hx l e)
          cases hf : findF _ zs with
          | none => rw [hf] at q; exact q.elim
          | some j =>
            rw [hf] at q
            obtain ⟨⟨z, h1, h2⟩, h3⟩ := findF_ok hf
            obtain ⟨zv, ez, rz⟩ := t.get h1
            refine ⟨b, vs, yv, j, zv, rfl, rfl, sq, by rw [flatD_ok ry]; exact hz.1, by rw [flatDs_ok t]; exact hz.2, ez, by rw [eqF_ok rz ry]; exact h2, fun m z' hm e' => ?_, LfO.same q hh (.int _)⟩
            obtain ⟨w', ew, rw'⟩ := t.getV e'
            rw [eqF_ok rw' ry]
            exact h3 m w' hm ew
        · exact q.elim
    · exact q.elim
  · exact q.elim)
end Tw
end

section
set_option Elab.async false
set_option linter.all false
set_option maxRecDepth 100000
set_option maxHeartbeats 1000000
/-! Tw, part J: a module's constants, room. -/
namespace Tw
open PySem PySem.Spec L2
variable {g : Gx} {ρ ρ' : List Addr} {H H' : Hp} {X : Cx} {W : WX} {L : List O} {cm : Nat → Addr} {fx : Hp}
theorem u65 {k : Nat} {A : Around} (hr : Room k A) : A.units + 65 < cLine := by have := hr.un; omega
theorem u64 {k : Nat} {A : Around} (hr : Room k A) : A.units + 64 < cLine := by have := hr.un; omega
structure GC (K : PySem.W.Frag) (mg : Str → Option Value) (cm : Nat → Addr) (x : Str) (d : D) : Prop where
  ex : ∃ u v, mg x = some u ∧ RelV v u ∧ ∀ {w : World} fx ρ H, VR ⟨K, cm, fx, w⟩ ρ H d v
theorem se_g {x : Str} {d : D} {pos : Pos} (h : GC X.K X.mg cm x d) (hg : Gl X x := by rfl) (hd : (x == ("__debug__" : Str)) = false := by decide) : PE X (.Name x pos) (tM ⟨X.K, cm, fx, X.w⟩ W (mC d)) := by
  obtain ⟨u, v, hm, r, hv⟩ := h.ex
  exact se_c (pe_glob hg hm r hd) (hv fx)
end Tw
end

section
set_option Elab.async false
set_option linter.all false
set_option maxRecDepth 100000
set_option maxHeartbeats 1000000
/-! Tw, part K: enumerate over tuples and lists. -/
namespace Tw
open PySem PySem.Spec L2
variable {g : Gx} {ρ ρ' : List Addr} {H H' : Hp} {X : Cx} {W : WX} {L : List O} {cm : Nat → Addr} {fx : Hp}

/-- enumerate(t, k₀) of a tuple -/
def IteT (K : PySem.W.Frag) (a : Addr) (k₀ : Int) : It :=
  ⟨fun i H => ∃ (xs : List V) (x : V), SqT K H a xs ∧ xs[i]? = some x, fun i H v H' => ∃ T x, v = .ref T ∧ H T = none ∧ H' = upd H T (.tup [.int (k₀ + (i : Nat)), x]) ∧ ∀ xs, SqT K H a xs → xs[i]? = some x, fun i H => ∃ xs : List V, SqT K H a xs ∧ xs.length = i⟩
theorem turn_enumT {P : Program} {w : World} {K : PySem.W.Frag} {elts : List Expr} {kk : Nat} {tpos : Pos} (a e it : Addr) (k₀ : Int) :
    Turn P w K (.Tuple elts kk tpos) (IteT K a k₀) [e, it] e (fun i h => (∃ old, IsEnum h e it (k₀ + ((i : Nat) : Int)) old) ∧ h.IsTupleIter it a i ∧ e ≠ it ∧ a ≠ it ∧ a ≠ e) where
  mem := by simp
  obj := fun i h st b hb => by
    obtain ⟨⟨old, he⟩, ⟨o, ho, hc, hd⟩, _⟩ := st
    have e' : b = e ∨ b = it := by simpa using hb
    rcases e' with z | z
    · rw [z]; exact ⟨_, he, fun v q => nomatch q⟩
    · rw [z]; exact ⟨o, ho, fun v q => by rw [hd] at q; cases q⟩
  keep := fun i h h' st k => let ⟨⟨old, he⟩, hi, hne⟩ := st; ⟨⟨old, k e (by simp) _ he⟩, hi.at fun o q => k it (by simp) o q, hne⟩
  item := by
    intro X hP hw hK hc i pins s σ H E I hf st hg
    subst hP hw hK
    obtain ⟨⟨old, he⟩, hit, hne, hai, hae⟩ := st
    obtain ⟨xs, x, hq, hx⟩ := hg
    obtain ⟨its, rv, p, hz⟩ := I.tuple hq
    obtain ⟨u, hu, ru⟩ := rv.get hx
    have hel : e < s.heap.objs.size := Heap.lt_size he
    have hil : it < s.heap.objs.size := by obtain ⟨_, q, _⟩ := hit; exact Heap.lt_size q
    have hlt : i < its.toArray.size := by
      obtain ⟨q, _⟩ := List.getElem?_eq_some_iff.mp hu
      simpa using q
    refine wpAny_pyNext_enum_itemC (Draws.tuple (prog := X.prog) (w := X.w) (A := X.A.in1) (I.ok.hd hc) it a hai its.toArray) he ⟨hit, p⟩ hlt hne (by simp [hne, Ne.symm hae]) fun u' h' tk hu' ho hst' hT hsz hk => ?_
    obtain rfl : u' = u := by
      have : its.toArray[i]? = some u := by simpa using hu
      rw [this] at hu'
      exact (Option.some.inj hu').symm
    obtain ⟨hit', _⟩ := hst'
    refine ⟨_, rfl, wpAny_letOwnedTupleGo_enum (s := { s with heap := h', toks := tk + 1 }) ho fun h'' he' sb => ?_⟩
    have hT2 : h''.get? s.heap.objs.size = some { cls := .type "tuple", data := .seq #[.int (k₀ + (i : Int)) tk, u'] } := (sb.2 _ (Nat.ne_of_gt hel)).trans hT
    have new : ObjOk X.prog X.w (upd H s.heap.objs.size (.tup [.int (k₀ + (i : Nat)), x])) h'' s.heap.objs.size (.tup [.int (k₀ + (i : Nat)), x]) :=
      ⟨by show 2 ≤ sizeLine; decide, [.int (k₀ + (i : Int)) tk, u'], .cons ⟨_, rfl⟩ (.cons ru .nil), ⟨_, hT2, rfl, _, rfl⟩⟩
    have I1 : Inv X pins σ (upd H s.heap.objs.size (.tup [.int (k₀ + (i : Nat)), x])) { s with heap := h'', toks := tk + 1 } :=
      I.turnedNew (ch := [e, it]) (fun b ob hb q => (sb.2 b (fun z => hb (by simp [z]))).trans (hk b ob (fun z => hb (by simp [z])) (fun z => hb (by simp [z])) q)) hf (Nat.le_refl _) new
    refine ⟨.ref s.heap.objs.size, _, I1, rfl, ⟨_, x, rfl, I.hok.fresh (Nat.le_refl _), rfl, fun ys hy => by rw [I.tuple_inj hy hq]; exact hx⟩, ⟨⟨u', ?_⟩, hit'.at fun o q => (sb.2 it (Ne.symm hne)).trans q, hne, hai, hae⟩, fun b hb => ?_⟩
    · have e1 : k₀ + ((i + 1 : Nat) : Int) = k₀ + (i : Int) + 1 := by omega
      rw [e1]; exact he'
    · have hb' : b < s.heap.objs.size := by
        have e' : b = e ∨ b = it := by simpa using hb
        rcases e' with z | z
        · rw [z]; exact hel
        · rw [z]; exact hil
      rw [upd_ne (Nat.ne_of_lt hb')]
      exact (hf b hb).1
  done := by
    intro X hP hw hK hc i pins s σ H E I hf st hg
    subst hP hw hK
    obtain ⟨⟨old, he⟩, hit, hne, hai, hae⟩ := st
    obtain ⟨xs, hq, hx⟩ := hg
    obtain ⟨its, rv, p, hz⟩ := I.tuple hq
    obtain ⟨f0, f1, f2, f3, f4, f5⟩ := hf it (by simp)
    have hl := rv.length
    have hsz : its.toArray.size = i := by simp; omega
    rw [← hsz] at hit
    exact wpAny_pyNext_enum_endD (Draws.tuple (prog := X.prog) (w := X.w) (A := X.A.in1) (I.ok.hd hc) it a hai its.toArray) he ⟨hit, p⟩ fun h' eb => ⟨rfl, I.turned (t' := s.toks) (fun b o hb q => eb b o hb q) f0 f1 f3 f4 f5⟩
  self := fun A i s Q E st h => let ⟨⟨_, he⟩, _⟩ := st; wpAny_pyIter_enum he h
/-- the cells of enumerate(t) -/
theorem meets_enumerate_newB1 {v : Value} {o : Obj} {H : Heap → Prop} (B : Begins v o H) :
    Meets (Builtin.«enumerate.__new__» ⟨[.type "enumerate", v], []⟩) (fun _ R s => H s.heap ∧
      R (.ok (.ret (.ref (s.heap.push o).objs.size))) { s with heap := (s.heap.push o).push { cls := .type "enumerate", data := .fields #[.none, .bool false, .ref s.heap.objs.size, rawInt 0, .none, .none] } }) :=
  .of_wp fun prog w A R s h => by
    obtain ⟨hp, g, d, tk, os⟩ := s; obtain ⟨h1, h⟩ := h
    have hsub := sub_enumerate
    have q1 : ∀ {A' : Around} {E : Value → Shared → Prop} {Q : Value → Shared → Prop}, Q (.ref hp.objs.size) ⟨hp.push o, g, d, tk, os⟩ → wpAny (model prog w) A' (pyIter v) Q E ⟨hp, g, d, tk, os⟩ :=
      fun q => B.iter prog w _ _ ⟨hp, g, d, tk, os⟩ _ h1 q
    wp_walk using q1
    refine wpAny_stack_any fun st => wpAny_pure ?_
    split
    · rename_i c _ _ _ _ _
      cases (c == Value.type "enumerate")
      · wp_walk using q1
        exact ⟨_, rfl, h⟩
      · wp_walk using q1
        exact ⟨_, rfl, h⟩
    · wp_walk using q1
      exact ⟨_, rfl, h⟩
theorem enum_begins1 {prog : Program} {w : World} {A : Around} {E : Value → Shared → Prop} {s : Shared} {v : Value} {o : Obj} {H : Heap → Prop} {Q : Value → Shared → Prop} (B : Begins v o H) (h1 : H s.heap)
    (h : ∀ h', IsEnum h' (s.heap.objs.size + 1) s.heap.objs.size 0 .none → h'.get? s.heap.objs.size = some o → h'.objs.size = s.heap.objs.size + 2 →
      (∀ b o, s.heap.get? b = some o → h'.get? b = some o) → Q (.ref (s.heap.objs.size + 1)) { s with heap := h' }) :
    wpAny (model prog w) A (call (.type "enumerate") [v]) Q E s := by
  refine callType_new F.called_enumerate (by decide) (F.typeCall_enumerate_1 _) (F.newCall_enumerate_1 _) (fun obj => F.args_object_init_2 obj _) F.entry_enumerate_new
    (meets_enumerate_newB1 B) ⟨h1, ?_⟩
  have hz : (s.heap.push o).objs.size = s.heap.objs.size + 1 := Heap.size_push ..
  show _ ∧ _
  rw [hz]
  have he : IsEnum ((s.heap.push o).push { cls := .type "enumerate", data := .fields #[.none, .bool false, .ref s.heap.objs.size, rawInt 0, .none, .none] }) (s.heap.objs.size + 1) s.heap.objs.size 0 .none := by
    have := Heap.get?_push_size (s.heap.push o) (o := { cls := .type "enumerate", data := .fields #[.none, .bool false, .ref s.heap.objs.size, rawInt 0, .none, .none] }) rfl
    rw [hz] at this; exact this
  refine ⟨⟨_, he, rfl⟩, h _ he (Heap.get?_push_of_some _ (Heap.get?_push_size _ B.free)) (by rw [Heap.size_push, hz]) fun b o x => Heap.get?_push_of_some _ (Heap.get?_push_of_some _ x)⟩
/-- an enumerate just made, walked -/
theorem enum_itT {tg : Expr} {elts : List Expr} {kk : Nat} {tpos : Pos} {pins : List (Addr × Obj)} {σ : L2.St} {H : Hp} {s : Shared} {R : It → Hp → Prop} {E : Value → Shared → Prop} {a : Addr} {xs : List V} {k₀ : Int} {h' : Heap} (I : Inv X pins σ H s) (hq : SqT X.K H a xs)
    (he : IsEnum h' (s.heap.objs.size + 1) s.heap.objs.size k₀ .none) (hit : h'.get? s.heap.objs.size = some { cls := .type "tuple_iterator", data := .fields #[.ref a, .int 0 0] }) (hsz : h'.objs.size = s.heap.objs.size + 2)
    (hk : ∀ b o, s.heap.get? b = some o → h'.get? b = some o) (q : R (IteT X.K a k₀) H) : wpAny (model X.prog X.w) X.A (pyIter (.ref (s.heap.objs.size + 1))) (PIE X pins σ (.Tuple elts kk tpos) R) E { s with heap := h' } := by
  refine wpAny_pyIter_enum he ?_
  obtain ⟨its, rv, p, hz⟩ := I.tuple hq
  have hla : a < s.heap.objs.size := p.lt
  have I2 : Inv X pins σ H { s with heap := h' } := I.kept (t' := s.toks) hk
  refine ⟨s.heap.objs.size + 1, [s.heap.objs.size + 1, s.heap.objs.size], _, _, H, rfl, I2, turn_enumT a (s.heap.objs.size + 1) s.heap.objs.size k₀, ⟨⟨.none, by simpa using he⟩, ⟨_, hit, rfl, rfl⟩, Nat.succ_ne_self _, Nat.ne_of_lt hla, Nat.ne_of_lt (Nat.lt_succ_of_lt hla)⟩, fun b hb => ?_, q⟩
  have e' : b = s.heap.objs.size + 1 ∨ b = s.heap.objs.size := by simpa using hb
  have hle : s.heap.objs.size ≤ b := by
    rcases e' with z | z
    · rw [z]; exact Nat.le_add_right _ _
    · rw [z]; exact Nat.le_refl _
  exact I.fpOk hle (I.hok.fresh hle)
def iEnumT (K : PySem.W.Frag) (ta : TA) : TI := fun σ H R => ta σ H fun vs H1 => ∃ a xs, vs = [.ref a] ∧ SqT K H1 a xs ∧ R (IteT K a 0) H1
theorem pi_enumT {e : Expr} {ta : TA} {p pos tpos : Pos} {elts : List Expr} {kk : Nat} (hg : Gl X "enumerate") (hm : X.mg "enumerate" = none) (ha : PA X [e] ta) (hs : starEach [e] X.env = [(false, eval e X.env)] := by rfl) :
    PI X (.Tuple elts kk tpos) (.Call (.Name "enumerate" p) [e] [] pos) (iEnumT X.K ta) := by
  refine ⟨fun pins s σ H R I h => ?_⟩
  refine PyProof.Rows.Call_ (ld_blt I hg hm PyProof.Rows.boot_enumerate (PyProof.Rows.callWith_type1 (thn (ha.run pos pins s σ H _ I h) fun us s1 ⟨vs, H1, I1, r1, q1⟩ => ?_) hs rfl))
  obtain ⟨a, xs, ex, hq, q⟩ := q1
  subst ex
  cases r1 with
  | cons r rr =>
    cases rr
    cases r
    obtain ⟨its, rv, p', hz⟩ := I1.tuple hq
    exact enum_begins1 (begins_tuple a its.toArray) p' fun h' he hit hsz hk => enum_itT (tg := e) I1 hq he hit hsz hk q
end Tw
end

section
set_option Elab.async false
set_option linter.all false
set_option maxRecDepth 100000
set_option maxHeartbeats 1000000
/-! Tw, part L: enumerate, reversed, zip as what is walked. -/
namespace Tw
open PySem PySem.Spec L2 RZ
variable {g : Gx} {ρ ρ' : List Addr} {H H' : Hp} {X : Cx} {W : WX} {L : List O} {cm : Nat → Addr} {fx : Hp}

def enumD (k : Int) : List D → List D
  | [] => []
  | d :: ds => .tup [.int k, d] :: enumD (k + 1) ds
theorem enumD_len : ∀ (k : Int) (ds : List D), (enumD k ds).length = ds.length
  | _, [] => rfl
  | k, d :: ds => by simp [enumD, enumD_len (k + 1) ds]
theorem enumD_get : ∀ (ds : List D) (k : Int) (i : Nat) (e : D), (enumD k ds)[i]? = some e → ∃ d, ds[i]? = some d ∧ e = .tup [.int (k + i), d]
  | [], k, i, e, h => by simp [enumD] at h
  | d :: ds, k, 0, e, h => by simp [enumD] at h; exact ⟨d, rfl, by rw [← h]; simp⟩
  | d :: ds, k, i + 1, e, h => by
    obtain ⟨x, h1, h2⟩ := enumD_get ds (k + 1) i e (by simpa [enumD] using h)
    refine ⟨x, by simpa using h1, by rw [h2]; congr 3; push_cast; omega⟩
theorem pairVR {T : Addr} {k : Int} {d : D} {x : V} (n : H T = none) (r : VR g ρ H d x) : VR g ρ (upd H T (.tup [.int k, x])) (.tup [.int k, d]) (.ref T) :=
  .tup (.inl upd_same) ((VRs.cons (.int k) (.cons r .nil)).mono (List.prefix_refl _) (TP.new n))
theorem wk_enumT {ds : List D} {a : Addr} {vs : List V} {k : Int} (s : SqT g.K H a vs) (t : VRs g ρ H ds vs) : Wk g ρ H ⟨enumD k ds, none⟩ (IteT g.K a k) where
  go := fun i ρ' L' H' hi p tt _ _ => by
    have := t.length
    rw [enumD_len] at hi
    exact ⟨vs, vs[i]'(by rw [← this]; exact hi), tt.rd s, by simp⟩
  stop := fun ρ' L' H' p tt _ _ => ⟨vs, tt.rd s, by rw [← t.length, enumD_len]⟩
  yld := fun i d ρ' L' H' x H2 e p tt hh _ y => by
    obtain ⟨T, z, rfl, hT, rfl, y⟩ := y
    obtain ⟨d', e1, rfl⟩ := enumD_get ds k i d e
    obtain ⟨v, ev, r⟩ := t.get e1
    have := y vs (tt.rd s)
    rw [ev] at this
    cases this
    exact ⟨TP.new hT, hh.fresh hT _, pairVR hT (r.mono p tt)⟩
theorem wk_enumR {ds : List D} {a : Addr} {vs : List V} (s : RoL g.K H a vs) (t : VRs g ρ H ds vs) : Wk g ρ H ⟨enumD 0 ds, none⟩ (Ite g.K a) where
  go := fun i ρ' L' H' hi p tt _ _ => by
    have := t.length
    rw [enumD_len] at hi
    exact ⟨vs, vs[i]'(by rw [← this]; exact hi), (tt.rol s).seq, by simp⟩
  stop := fun ρ' L' H' p tt _ _ => ⟨vs, (tt.rol s).seq, by rw [← t.length, enumD_len]; exact Nat.le_refl _⟩
  yld := fun i d ρ' L' H' x H2 e p tt hh _ y => by
    obtain ⟨T, z, rfl, hT, rfl, y⟩ := y
    obtain ⟨d', e1, rfl⟩ := enumD_get ds 0 i d e
    obtain ⟨v, ev, r⟩ := t.get e1
    have := y vs (tt.rol s).seq
    rw [ev] at this
    cases this
    have e2 : (0 : Int) + (i : Int) = (i : Nat) := by omega
    rw [e2]
    exact ⟨TP.new hT, hh.fresh hT _, pairVR hT (r.mono p tt)⟩
theorem wk_enumL {ds : List D} {n : Nat} {a : Addr} (ea : ρ[n]? = some a) : Wk g ρ H ⟨enumD 0 ds, some (n, .lst ds)⟩ (Ite g.K a) where
  go := fun i ρ' L' H' hi p tt hh ok => by
    obtain ⟨vs, b1, b2⟩ := hh.lst (of_decide_eq_true ok) (pre_get p ea)
    have := b2.length
    rw [enumD_len] at hi
    exact ⟨vs, vs[i]'(by rw [← this]; exact hi), SqL.of b1, by simp⟩
  stop := fun ρ' L' H' p tt hh ok => by
    obtain ⟨vs, b1, b2⟩ := hh.lst (of_decide_eq_true ok) (pre_get p ea)
    exact ⟨vs, SqL.of b1, by rw [← b2.length, enumD_len]; exact Nat.le_refl _⟩
  yld := fun i d ρ' L' H' x H2 e p tt hh ok y => by
    obtain ⟨T, z, rfl, hT, rfl, y⟩ := y
    obtain ⟨vs, b1, b2⟩ := hh.lst (of_decide_eq_true ok) (pre_get p ea)
    obtain ⟨d', e1, rfl⟩ := enumD_get ds 0 i d e
    obtain ⟨v, ev, r⟩ := b2.get e1
    have := y vs (SqL.of b1)
    rw [ev] at this
    cases this
    have e2 : (0 : Int) + (i : Int) = (i : Nat) := by omega
    rw [e2]
    exact ⟨TP.new hT, hh.fresh hT _, pairVR hT r⟩
def mEnum (a : ME) : MI := fun ε L => (a ε L).bind fun x L1 => match x with
  | .tup ds => .ok ⟨enumD 0 ds, none⟩ L1
  | .rol ds => .ok ⟨enumD 0 ds, none⟩ L1
  | .ref n => match L1[n]? with
    | some (.lst ds) => .ok ⟨enumD 0 ds, some (n, .lst ds)⟩ L1
    | _ => .bad
  | _ => .bad
theorem si_enum {elts : List Expr} {kk : Nat} {tpos p pos : Pos} {e : Expr} {a : ME} (hg : Gl X "enumerate") (hm : X.mg "enumerate" = none) (h : PA X [e] (tCons (tM ⟨X.K, cm, fx, X.w⟩ W a) tNil)) (hs : starEach [e] X.env = [(false, eval e X.env)] := by rfl) :
    PI X (.Tuple elts kk tpos) (.Call (.Name "enumerate" p) [e] [] pos) (tMI ⟨X.K, cm, fx, X.w⟩ W (mEnum a)) :=
  (PI.or (pi_enum hg hm h hs) (pi_enumT hg hm h hs)).imp fun σ H R q => by
    obtain ⟨ε, ρ, L, he, hh, q⟩ := q
    by_cases ht : ∃ ds L1, a ε L = .ok (.tup ds) L1
    · obtain ⟨ds, L1, ht⟩ := ht
      refine .inr ⟨ε, ρ, L, he, hh, Lf.bind q fun x L1 v ρ1 H1 e1 p1 t1 h1 r1 q1 => ?_⟩
      rw [ht] at e1
      cases e1
      cases r1 with
      | tup s t => exact ⟨_, _, rfl, s.sq, q1 _ ρ1 H1 (List.prefix_refl _) (TP.refl H1) h1 (wk_enumT s.sq t)⟩
    · refine .inl ⟨ε, ρ, L, he, hh, Lf.bind q fun x L1 v ρ1 H1 e1 p1 t1 h1 r1 q1 => ?_⟩
      cases r1 with
      | tup s t => exact (ht ⟨_, _, e1⟩).elim
      | rol s t => exact ⟨_, _, rfl, s.seq, q1 _ ρ1 H1 (List.prefix_refl _) (TP.refl H1) h1 (wk_enumR s t)⟩
      | ref ea =>
        simp only at q1
        split at q1
        · rename_i ds h2
          obtain ⟨vs, b1, b2⟩ := h1.lst h2 ea
          exact ⟨_, _, rfl, SqL.of b1, q1 _ ρ1 H1 (List.prefix_refl _) (TP.refl H1) h1 (wk_enumL ea)⟩
        · exact q1.elim
      | _ => exact q1.elim
/-! zip of two tuples, of two lists -/
def zipD : List D → List D → List D
  | d :: ds, e :: es => .tup [d, e] :: zipD ds es
  | _, _ => []
theorem zipD_len : ∀ (ds es : List D), (zipD ds es).length = min ds.length es.length
  | [], _ => by simp [zipD]
  | _ :: _, [] => by simp [zipD]
  | d :: ds, e :: es => by simp only [zipD, List.length_cons, zipD_len ds es]; omega
theorem zipD_get : ∀ (ds es : List D) (i : Nat) (x : D), (zipD ds es)[i]? = some x → ∃ d e, ds[i]? = some d ∧ es[i]? = some e ∧ x = .tup [d, e]
  | [], _, i, x, h => by simp [zipD] at h
  | _ :: _, [], i, x, h => by simp [zipD] at h
  | d :: ds, e :: es, 0, x, h => by simp [zipD] at h; exact ⟨d, e, rfl, rfl, h.symm⟩
  | d :: ds, e :: es, i + 1, x, h => by
    obtain ⟨a, b, h1, h2, h3⟩ := zipD_get ds es i x (by simpa [zipD] using h)
    exact ⟨a, b, by simpa using h1, by simpa using h2, h3⟩
theorem pairVR2 {T : Addr} {d e : D} {x y : V} (n : H T = none) (r : VR g ρ H d x) (q : VR g ρ H e y) : VR g ρ (upd H T (.tup [x, y])) (.tup [d, e]) (.ref T) :=
  .tup (.inl upd_same) ((VRs.cons r (.cons q .nil)).mono (List.prefix_refl _) (TP.new n))
theorem wk_zipT {ds es : List D} {a b : Addr} {vs us : List V} (s : SqT g.K H a vs) (t : VRs g ρ H ds vs) (s2 : SqT g.K H b us) (t2 : VRs g ρ H es us) : Wk g ρ H ⟨zipD ds es, none⟩ (ItzT g.K a b) where
  go := fun i ρ' L' H' hi p tt _ _ => by
    have e1 := t.length
    have e2 := t2.length
    rw [zipD_len] at hi
    exact ⟨vs, us, vs[i]'(by omega), us[i]'(by omega), tt.rd s, tt.rd s2, by simp, by simp⟩
  stop := fun ρ' L' H' p tt _ _ => ⟨vs, us, tt.rd s, tt.rd s2, by rw [← t.length, ← t2.length, zipD_len]; omega⟩
  yld := fun i d ρ' L' H' x H2 e p tt hh _ y => by
    obtain ⟨T, z, z2, rfl, hT, rfl, y, y2⟩ := y
    obtain ⟨d1, d2, e1, e2, rfl⟩ := zipD_get ds es i d e
    obtain ⟨v, ev, r⟩ := t.get e1
    obtain ⟨v2, ev2, r2⟩ := t2.get e2
    have z1 := y vs (tt.rd s)
    rw [ev] at z1
    cases z1
    have z2 := y2 us (tt.rd s2)
    rw [ev2] at z2
    cases z2
    exact ⟨TP.new hT, hh.fresh hT _, pairVR2 hT (r.mono p tt) (r2.mono p tt)⟩
def mZip (a b : ME) : MI := fun ε L => (a ε L).bind fun x L1 => (b ε L1).bind fun y L2 => match x, y with
  | .tup ds, .tup es => .ok ⟨zipD ds es, none⟩ L2
  | _, _ => .bad
theorem si_zip {elts : List Expr} {kk : Nat} {tpos p pos : Pos} {e e2 : Expr} {a b : ME} (hg : Gl X "zip") (hm : X.mg "zip" = none) (h : PA X [e, e2] (tCons (tM ⟨X.K, cm, fx, X.w⟩ W a) (tCons (tM ⟨X.K, cm, fx, X.w⟩ W b) tNil))) (hs : starEach [e, e2] X.env = (false, eval e X.env) :: starEach [e2] X.env := by rfl) (hpl : (backTo pos (starEach [e2] X.env)).any (·.1) = false := by rfl) :
    PI X (.Tuple elts kk tpos) (.Call (.Name "zip" p) [e, e2] [] pos) (tMI ⟨X.K, cm, fx, X.w⟩ W (mZip a b)) :=
  (pi_zipA hg hm h hs hpl).imp fun σ H R q => by
    obtain ⟨ε, ρ, L, he, hh, q⟩ := q
    refine ⟨ε, ρ, L, he, hh, Lf.bind q fun x L1 v ρ1 H1 e1 p1 t1 h1 r1 q1 => ?_⟩
    refine ⟨ε, ρ1, L1, he.mono p1 t1, h1, Lf.bind q1 fun y L2 u ρ2 H2 e2 p2 t2 h2 r2 q2 => ?_⟩
    split at q2
    · cases r1 with
      | tup s t =>
        cases r2 with
        | tup s2 tt2 => exact ⟨_, _, _, _, rfl, .inr ⟨t2.rd s.sq, s2.sq, q2 _ ρ2 H2 (List.prefix_refl _) (TP.refl H2) h2 (wk_zipT (t2.rd s.sq) (t.mono p2 t2) s2.sq tt2)⟩⟩
    · exact q2.elim
/-! reversed(list) -/
theorem wk_rev {ds : List D} {n : Nat} {a : Addr} (ea : ρ[n]? = some a) : Wk g ρ H ⟨ds.reverse, some (n, .lst ds)⟩ (Itv g.K a ds.length) where
  go := fun i ρ' L' H' hi p tt hh ok => by
    obtain ⟨vs, b1, b2⟩ := hh.lst (of_decide_eq_true ok) (pre_get p ea)
    have := b2.length
    rw [List.length_reverse] at hi
    exact ⟨hi, vs, vs[ds.length - 1 - i]'(by omega), SqL.of b1, by simp⟩
  stop := fun ρ' L' H' p tt hh ok => by show ds.length ≤ _; rw [List.length_reverse]; exact Nat.le_refl _
  yld := fun i d ρ' L' H' x H2 e p tt hh ok y => by
    obtain ⟨rfl, y⟩ := y
    obtain ⟨vs, b1, b2⟩ := hh.lst (of_decide_eq_true ok) (pre_get p ea)
    have hi : i < ds.length := by
      obtain ⟨q, _⟩ := List.getElem?_eq_some_iff.mp e
      rwa [List.length_reverse] at q
    rw [List.getElem?_reverse hi] at e
    obtain ⟨v, ev, r⟩ := b2.get e
    have := y vs (SqL.of b1)
    rw [ev] at this
    cases this
    exact ⟨TP.refl _, hh, r⟩
def mRev (a : ME) : MI := fun ε L => (a ε L).bind fun x L1 => match x with
  | .ref n => match L1[n]? with
    | some (.lst ds) => .ok ⟨ds.reverse, some (n, .lst ds)⟩ L1
    | _ => .bad
  | _ => .bad
theorem si_rev {tg e : Expr} {p pos : Pos} {a : ME} (hg : Gl X "reversed") (hm : X.mg "reversed" = none) (h : PA X [e] (tCons (tM ⟨X.K, cm, fx, X.w⟩ W a) tNil)) (hs : starEach [e] X.env = [(false, eval e X.env)] := by rfl) :
    PI X tg (.Call (.Name "reversed" p) [e] [] pos) (tMI ⟨X.K, cm, fx, X.w⟩ W (mRev a)) :=
  (pi_reversed hg hm h hs).imp fun σ H R q => by
    obtain ⟨ε, ρ, L, he, hh, q⟩ := q
    refine ⟨ε, ρ, L, he, hh, Lf.bind q fun x L1 v ρ1 H1 e1 p1 t1 h1 r1 q1 => ?_⟩
    split at q1
    · cases r1 with
      | ref ea =>
        split at q1
        · rename_i ds h2
          obtain ⟨vs, b1, b2⟩ := h1.lst h2 ea
          have e3 := q1 _ ρ1 H1 (List.prefix_refl _) (TP.refl H1) h1 (wk_rev ea)
          rw [b2.length] at e3
          exact ⟨_, _, rfl, SqL.of b1, e3⟩
        · exact q1.elim
    · exact q1.elim
end Tw
end

section
set_option Elab.async false
set_option linter.all false
set_option maxRecDepth 100000
set_option maxHeartbeats 1000000
/-! Tw, part M: own __eq__ (== and !=), own __len__, __contains__; instances made with keywords, defaults; class constants. -/
namespace PySem.W
open PySem
variable {prog : Program} {w : World} {A : Around} {E : Value → Shared → Prop} {s : Shared} {K : Frag} {x C L f : Addr} {h₀ : Heap} {m : Str → Option Value} {ox : Obj} {od : Option Obj} {name : Str} {b tb : Value}
theorem tw_ifBoundB {M : Model} {id T : String} {args : List Value} {Q : Option Value → Shared → Prop} (X : K.In s.heap) (I : InstAt s.heap x ox C od) (hs : findIn K (.ref C) name = some (some (.builtin id))) (S : Slot T name id)
    (h : wpAny M A (call (.builtin id) (.ref x :: args)) (fun v => Q (some v)) E s) : wpAny M A (callSpecialIfBound? (.ref x) name args) Q E s := by
  simp only [callSpecialIfBound?, bindSpecialIfBound?]
  refine wpAny_holding (wpAny_bind (wpAny_bind (wpAny_bind (I.type.here ((looks_findIn X hs).here ?_)))))
  simp only [S.bind]
  refine wpAny_bind (wpAny_askSetting (wpAny_ite ?_))
  have fin : wpAny M A (call (.builtin id) ([.ref x] ++ args) >>= fun v => pure (some v)) Q E s := wpAny_bind (wpAny_mono h (fun v s' h' => wpAny_pure h') fun _ _ h' => h')
  split
  · exact wpAny_bind (wpAny_pure (by exact wpAny_pure fin))
  · exact wpAny_tryCatch (wpAny_bind (wpAny_pure (by exact wpAny_pure fin)))
open Builtin in
/-- x != b by an own __eq__ (object.__ne__) -/
theorem tw_ne {Q : Value → Shared → Prop} (hu : A.units < cLine) (hu1 : A.in1.units < cLine) (X : K.In s.heap) (I : InstAt s.heap x ox C od) (hb : Looks (model prog w) s.heap (typeOf b) tb) (hn : notFirst K C tb = true)
    (hne : findIn K (.ref C) "__ne__" = some (some (.builtin "object.__ne__"))) (hm : mroIn K C (.type "object") = some true) (hs : findIn K (.ref C) "__eq__" = some (some (.ref f))) (hf : isFn K (.ref f) = true)
    (h : wpAny (model prog w) A.in1 (call (.ref f) [.ref x, b]) (fun v s' => ∃ k, v = .bool k ∧ Q (.bool (!k)) s') E s) : wpAny (model prog w) A (richCompare .NotEq (.ref x) b) Q E s := by
  have one : wpAny (model prog w) A (tryCompare (.ref x) "__ne__" b) (fun r s' => ∃ v, r = some v ∧ Q v s') E s := by
    unfold tryCompare
    refine wpAny_bind (tw_ifBoundB X I hne PySem.F.cmp_object.ne (wpAny_call (codeAny_call_builtin PySem.F.cmp_object.ne.plain PySem.F.cmpEntry_ne (check_slot (i := "object.__ne__") (owner := "object") (n := "__ne__") (by decide +kernel) (by decide +kernel) (I.type.andThen (looks_mroIn X hm)) (PySem.F.cmpArgs_ne _ _) ?_))))
    unfold Builtin.«object.__ne__»
    refine wpAny_bind (m := slotArgs "__ne__" 1 _) (wpAny_pure ?_)
    refine wpAny_bind (m := cRoomFor _ _) (wpAny_cRoomFor hu1 ?_)
    refine wpAny_bind (m := callSpecialIfBound? (.ref x) (Str.ofString "__eq__") _) (ifBound_K X I hs hf (wpAny_mono h (fun r s' hq => ?_) fun _ _ y => y))
    obtain ⟨k, rfl, hq⟩ := hq
    refine wpAny_bind (m := truthy (.bool k)) (wpAny_truthy_bool ?_)
    exact wpAny_pure (wpAny_pure ⟨_, rfl, hq⟩)
  unfold richCompare
  simp only [oneThing_ref]
  refine wpAny_holding (wpAny_bind (wpAny_cRoomFor hu ?_))
  rw [cmpInfo_NotEq]
  dsimp only
  refine wpAny_bind (I.type.here (wpAny_bind (hb.here ?_)))
  split
  · rename_i q
    have e : subIn K tb (.ref C) = some false := by
      rcases Bool.or_eq_true_iff.mp hn with e | e
      · rw [beq_iff_eq.mp e] at q; simp at q
      · exact beq_iff_eq.mp e
    refine wpAny_bind ((looks_subIn X e).here ?_)
    simp only [Bool.false_eq_true, if_false]
    refine wpAny_bind (wpAny_mono one (fun r s' z => ?_) fun _ _ e => e)
    obtain ⟨v, rfl, hq⟩ := z
    exact wpAny_pure hq
  · refine wpAny_bind (wpAny_pure ?_)
    simp only [Bool.false_eq_true, if_false]
    refine wpAny_bind (wpAny_mono one (fun r s' z => ?_) fun _ _ e => e)
    obtain ⟨v, rfl, hq⟩ := z
    exact wpAny_pure hq
end PySem.W
namespace Tw
open PySem PySem.Spec L2
variable {g : Gx} {ρ ρ' : List Addr} {H H' : Hp} {X : Cx} {W : WX} {L : List O} {cm : Nat → Addr} {fx : Hp}
theorem run_own {A : Around} {k n : Nat} {f : Addr} {fd : FuncData} {ps : List Str} {F : FS} {pins : List (Addr × Obj)} {σ : L2.St} {s : Shared} {Q : VK} {us : List Value} {vs : List V} (sb : L2.Sub X k A) (G : FnF X.prog X.w X.K X.mg X.base cm k f fd ps F) (hb : Binds X.K fd ps []) (hn : ps.length = n)
    (I : Inv X pins σ H s) (r : Vals vs us) (q : spF X.w X.K cm n F vs H Q L2.E0) : wpAny (model X.prog X.w) A (call (.ref f) us) (EP X pins σ Q) X.xe s := by
  subst hn
  have e0 : Env0 X.prog X.w X.K X.mg X.base A X.stack s H := by
    have e := I.env0
    exact ⟨by rw [sb.fr]; exact e.frames, e.mod, e.bs, e.bsz, e.funs, e.frf, e.hok, e.bare⟩
  have hl : us.length = ps.length := r.length.symm.trans (G.len _ _ _ _ q)
  refine wpAny_call (codeAny_mono (G.run A X.stack s H ⟨us, []⟩ us vs Q L2.E0 sb.room e0 (by
    have := hb s us I.kIn (by simpa using hl)
    simpa using this) r q) fun r s' hq => ?_)
  cases r with
  | error e => exact passLN pins σ H s e s' I hq
  | ok fl =>
    cases fl with
    | ret w => exact I.after hq
    | next => exact False.elim hq
    | brk => exact False.elim hq
    | cont => exact False.elim hq
theorem sub_self {k : Nat} (hr : Room k X.A) : L2.Sub X k X.A := ⟨hr, rfl⟩
theorem sub_in1 {k : Nat} (hr : Room (k + 1) X.A) : L2.Sub X k X.A.in1 := L2.Sub.in1 (sub_self hr)
/-- a call of an own special by the interpreter: it gives a value, or is not asked here -/
def outB (r : Rs D) : Option (Bool × List O) := match r with
  | .ok (.bl b) L => some (b, L)
  | _ => none
theorem outB_sp {n : Nat} {F : FS} {ds : List D} {vs : List V} {L' : List O} {b : Bool} {Q : VK} (hh : HR g ρ L H) (r : VRs g ρ H ds vs) (hn : ds.length = n) (e : outB (F ds L) = some (b, L')) (q : ∀ v ρ' H', ρ <+: ρ' → TP H H' → HR g ρ' L' H' → VR g ρ' H' (.bl b) v → Q v H') : spF g.w g.K g.cm n F vs H Q L2.E0 := by
  refine ⟨r.length.symm.trans hn, g.fx, ρ, L, ds, hh, r, ?_⟩
  unfold outB at e
  split at e
  · rename_i h
    cases e
    rw [h]
    exact q
  · cases e
def tagOk (c : Nat) : Tag → Bool
  | .ins c' => decide (c' = c)
  | _ => true
theorem tag_first {t : Tag} {c : Nat} {K : PySem.W.Frag} (h : tagOk c t = true) : PySem.W.notFirst K (cm c) (tagV cm t) = true := by
  unfold PySem.W.notFirst
  cases t with
  | ins c' =>
    have : c' = c := of_decide_eq_true h
    subst this
    simp [tagV]
  | _ => exact Bool.or_eq_true_iff.mpr (.inr (by rfl))
/-- x == y, x of the class c -/
def eqI (c : Nat) (F : FS) (x y : D) (L : List O) : Option (Bool × List O) := match tagD L y with
  | some t => if tagOk c t = true then outB (F [x, y] L) else none
  | none => none
def isCls (c : Nat) (L : List O) : D → Bool
  | .ref n => match L[n]? with
    | some (.ins c' _) => decide (c' = c)
    | _ => false
  | _ => false
theorem isCls_ok {c : Nat} {x : D} {v : V} (hh : HR g ρ L H) (r : VR g ρ H x v) (e : isCls c L x = true) : ∃ a dx fs, v = .ref a ∧ H a = some (.ins (g.cm c) dx fs) := by
  unfold isCls at e
  cases r with
  | ref ea =>
    simp only at e
    split at e
    · rename_i c' fs h1
      obtain rfl : c' = c := of_decide_eq_true e
      obtain ⟨dx, vs, e3, fr⟩ := hh.ins h1 ea
      exact ⟨_, dx, vs, rfl, e3⟩
    · cases e
  | _ => cases e
def oEqI (c : Nat) (F : FS) : O2 := fun x y L => if isCls c L x = true then (eqI c F x y L).map fun p => (.bl p.1, p.2) else oEq x y L
def oNeI (c : Nat) (F : FS) : O2 := fun x y L => if isCls c L x = true then (eqI c F x y L).map fun p => (.bl (!p.1), p.2) else oNe x y L
theorem op_oEqI {c k : Nat} {F : FS} (hu : X.A.units + 64 < cLine) (h : MtI X.prog X.w X.K X.mg X.base cm c "__eq__" k 2 F) (hi : InsTy X.K (cm c)) (hr : Room k X.A) : OpR X (compareOp .Eq) (rM ⟨X.K, cm, fx, X.w⟩ (oEqI c F)) := by
  intro pins s σ H x y v u Q I rx ry q
  obtain ⟨ρ, L, d, e, hh, r1, r2, q⟩ := q
  unfold oEqI at q
  split at q
  · rename_i hc
    obtain ⟨a, dx, fs, rfl, ha⟩ := isCls_ok hh r1 hc
    obtain rfl : v = Value.ref a := rx
    cases he : eqI c F d e L with
    | none => rw [he] at q; exact q.elim
    | some p =>
      obtain ⟨b, L'⟩ := p
      rw [he] at q
      unfold eqI at he
      split at he
      · rename_i t ht
        split at he
        · rename_i hok
          obtain ⟨f, fd, ps, hm, hcl, hb, hps, G⟩ := h.ex
          obtain ⟨mA, J, _⟩ := ins_get I.hok ha
          obtain ⟨od, J, _⟩ := J.look
          obtain ⟨m, hF⟩ := I.fr
          have hty := tag_ok hh r2 ht (fun c' hc' => by
            subst hc'
            have : c' = c := of_decide_eq_true hok
            subst this; exact hi)
          obtain ⟨Pt, kx, hP, _⟩ := kit_of I ry hty
          show wpAny _ _ (richCompare .Eq _ _) _ _ _
          refine PySem.W.cmp_K (op := .Eq) hr.units0 hF I.ok.mod.kin J (kx.ty _ _ I.kIn hP) (tag_first hok) hm.at_ hm.fn ?_
          refine wpAny_mono (run_own (vs := [V.ref a, y]) (sub_self hr) G hb hps I (.cons rfl (.cons ry .nil)) (outB_sp hh (.cons r1 (.cons r2 .nil)) rfl he (fun v ρ' H' p t h r => q v ρ' H' p t h r))) (fun w s' z => ?_) fun _ _ x => x
          obtain ⟨z', H', I', rz, qz⟩ := z
          exact SlX.cmpback rz ⟨z', H', I', rz, qz⟩
        · cases he
      · cases he
  · exact op_oEq hu pins s σ H x y v u Q I rx ry ⟨ρ, L, d, e, hh, r1, r2, q⟩
theorem op_oNeI {c k : Nat} {F : FS} (hu : X.A.units + 64 < cLine) (h : MtI X.prog X.w X.K X.mg X.base cm c "__eq__" k 2 F) (hi : InsTy X.K (cm c)) (hne : PySem.W.findIn X.K (.ref (cm c)) "__ne__" = some (some (.builtin "object.__ne__"))) (hr : Room (k + 1) X.A) : OpR X (compareOp .NotEq) (rM ⟨X.K, cm, fx, X.w⟩ (oNeI c F)) := by
  intro pins s σ H x y v u Q I rx ry q
  obtain ⟨ρ, L, d, e, hh, r1, r2, q⟩ := q
  unfold oNeI at q
  split at q
  · rename_i hc
    obtain ⟨a, dx, fs, rfl, ha⟩ := isCls_ok hh r1 hc
    obtain rfl : v = Value.ref a := rx
    cases he : eqI c F d e L with
    | none => rw [he] at q; exact q.elim
    | some p =>
      obtain ⟨b, L'⟩ := p
      rw [he] at q
      unfold eqI at he
      split at he
      · rename_i t ht
        split at he
        · rename_i hok
          obtain ⟨f, fd, ps, hm, hcl, hb, hps, G⟩ := h.ex
          obtain ⟨mA, J, _⟩ := ins_get I.hok ha
          obtain ⟨od, J, _⟩ := J.look
          have hty := tag_ok hh r2 ht (fun c' hc' => by
            subst hc'
            have : c' = c := of_decide_eq_true hok
            subst this; exact hi)
          obtain ⟨Pt, kx, hP, _⟩ := kit_of I ry hty
          show wpAny _ _ (richCompare .NotEq _ _) _ _ _
          refine PySem.W.tw_ne hr.units0 (Room.units0 hr.in1) I.kIn J (kx.ty _ _ I.kIn hP) (tag_first hok) hne hi.hm hm.at_ hm.fn ?_
          refine wpAny_mono (run_own (vs := [V.ref a, y]) (Q := fun v H' => v = .bl b ∧ Q (.bl (!b)) H') (sub_in1 hr) G hb hps I (.cons rfl (.cons ry .nil)) (outB_sp hh (.cons r1 (.cons r2 .nil)) rfl he (fun v ρ' H' p t h r => ?_))) (fun w s' z => ?_) fun _ _ x => x
          · cases r
            exact ⟨rfl, q _ ρ' H' p t h (.bl _)⟩
          · obtain ⟨z', H', I', rz, ez, qz⟩ := z
            subst ez
            obtain rfl : w = Value.bool b := rz
            exact ⟨b, rfl, .bl (!b), H', I', rfl, qz⟩
        · cases he
      · cases he
  · exact op_oNe hu pins s σ H x y v u Q I rx ry ⟨ρ, L, d, e, hh, r1, r2, q⟩
end Tw
end

section
set_option Elab.async false
set_option linter.all false
set_option maxRecDepth 100000
set_option maxHeartbeats 1000000
/-! Tw, part N: own __len__, __contains__; instances made with keywords, defaults; class constants. -/
namespace Tw
open PySem PySem.Spec L2
variable {g : Gx} {ρ ρ' : List Addr} {H H' : Hp} {X : Cx} {W : WX} {L : List O} {cm : Nat → Addr} {fx : Hp}

/-! ### len(x), x in o by own methods -/
def outI (r : Rs D) : Option (Int × List O) := match r with
  | .ok (.int n) L => if 0 ≤ n ∧ n ≤ 1000000 then some (n, L) else none
  | _ => none
def cLenI (c : Nat) (F : FS) : OC := fun ds L => match ds with
  | [x] => if isCls c L x = true then (outI (F [x] L)).map fun p => (.int p.1, p.2) else cLen [x] L
  | _ => none
theorem c_lenI {c k : Nat} {F : FS} (h : MtI X.prog X.w X.K X.mg X.base cm c "__len__" k 1 F) (hr : Room (k + 1) X.A) : CallR X (.builtin "len") (rC ⟨X.K, cm, fx, X.w⟩ (cLenI c F)) := by
  intro pins s σ H xs us Q I r q
  obtain ⟨ρ, L, ds, hh, rr, q⟩ := q
  unfold cLenI at q
  split at q
  · rename_i x
    split at q
    · rename_i hc
      obtain ⟨v, rfl, rv⟩ := rr.one
      obtain ⟨a, dx, fs, rfl, ha⟩ := isCls_ok hh rv hc
      obtain ⟨u, rfl, ru⟩ := r.one
      obtain rfl : u = Value.ref a := ru
      cases he : outI (F [x] L) with
      | none => rw [he] at q; exact q.elim
      | some p =>
        obtain ⟨n, L'⟩ := p
        rw [he] at q
        unfold outI at he
        split at he
        · rename_i n' L2 hF
          split at he
          · rename_i hz
            cases he
            obtain ⟨f, fd, ps, hm, hcl, hb, hps, G⟩ := h.ex
            obtain ⟨mA, J, _⟩ := ins_get I.hok ha
            obtain ⟨od, J, _⟩ := J.look
            obtain ⟨m, hFr⟩ := I.fr
            refine PySem.W.len_K hFr I.ok.mod.kin J hm.at_ hm.fn ?_
            have sp : spF X.w X.K cm 1 F [V.ref a] H (fun v H' => v = .int n ∧ Q (.int n) H') L2.E0 := by
              refine ⟨rfl, fx, ρ, L, [x], hh, .cons rv .nil, ?_⟩
              rw [hF]
              intro v ρ' H' p t h r
              cases r
              exact ⟨rfl, q _ ρ' H' p t h (.int _)⟩
            refine wpAny_mono (run_own (vs := [V.ref a]) (sub_in1 hr) G hb hps I (.cons rfl .nil) sp) (fun w s' z => ?_) fun _ _ x => x
            obtain ⟨z', H', I', rz, ez, qz⟩ := z
            subst ez
            obtain ⟨t, rfl⟩ := (show ∃ t, w = Value.int n t from rz)
            exact ⟨⟨hz.1, by omega⟩, .int n, H', I'.tok _, ⟨_, rfl⟩, qz⟩
          · cases he
        · cases he
    · exact c_len pins s σ H xs us Q I r ⟨ρ, L, [x], hh, rr, q⟩
  · exact q.elim
def inI (c : Nat) (F : FS) (x y : D) (L : List O) : Option (Bool × List O) := if isCls c L y = true then outB (F [y, x] L) else (inD L x y).map fun b => (b, L)
def oInI (c : Nat) (F : FS) : O2 := fun x y L => (inI c F x y L).map fun p => (.bl p.1, p.2)
def oNotInI (c : Nat) (F : FS) : O2 := fun x y L => (inI c F x y L).map fun p => (.bl (!p.1), p.2)
theorem run_in {c k : Nat} {F : FS} {x y : D} {b : Bool} {L' : List O} {pins : List (Addr × Obj)} {σ : L2.St} {s : Shared} {a : Addr} {v : V} {vv : Value} {R : Bool → Value} {hR : ∀ b, RelV (.bl b) (.bool b)} {Q : VK} {f : Bool → Bool} (h : MtI X.prog X.w X.K X.mg X.base cm c "__contains__" k 2 F) (hr : Room k X.A) (I : Inv X pins σ H s)
    (hh : HR ⟨X.K, cm, fx, X.w⟩ ρ L H) (ry : VR ⟨X.K, cm, fx, X.w⟩ ρ H y (.ref a)) (rx : VR ⟨X.K, cm, fx, X.w⟩ ρ H x v) (rv : RelV v vv) (he : outB (F [y, x] L) = some (b, L')) (q : ∀ ρ' H', ρ <+: ρ' → TP H H' → HR ⟨X.K, cm, fx, X.w⟩ ρ' L' H' → Q (.bl (f b)) H') :
    ∃ g, PySem.W.findIn X.K (.ref (cm c)) "__contains__" = some (some (.ref g)) ∧ PySem.W.isFn X.K (.ref g) = true ∧ wpAny (model X.prog X.w) X.A (call (.ref g) [.ref a, vv]) (fun r s' => wpAny (model X.prog X.w) X.A (truthy r) (fun b => EP X pins σ Q (.bool (f b))) X.xe s') X.xe s := by
  obtain ⟨g, fd, ps, hm, hcl, hb, hps, G⟩ := h.ex
  refine ⟨g, hm.at_, hm.fn, ?_⟩
  refine wpAny_mono (run_own (vs := [V.ref a, v]) (Q := fun v H' => v = .bl b ∧ Q (.bl (f b)) H') (sub_self hr) G hb hps I (.cons rfl (.cons rv .nil)) (outB_sp hh (.cons ry (.cons rx .nil)) rfl he (fun v ρ' H' p t h r => ?_))) (fun w s' z => ?_) fun _ _ x => x
  · cases r
    exact ⟨rfl, q ρ' H' p t h⟩
  · obtain ⟨z', H', I', rz, ez, qz⟩ := z
    subst ez
    obtain rfl : w = Value.bool b := rz
    exact wpAny_truthy_bool ⟨.bl (f b), H', I', rfl, qz⟩
theorem op_oInI {c k : Nat} {F : FS} (hu : X.A.units + 65 < cLine) (h : MtI X.prog X.w X.K X.mg X.base cm c "__contains__" k 2 F) (hr : Room k X.A) : OpR X (compareOp .In) (rM ⟨X.K, cm, fx, X.w⟩ (oInI c F)) := by
  intro pins s σ H x y v u Q I rx ry q
  obtain ⟨ρ, L, d, e, hh, r1, r2, q⟩ := q
  unfold oInI inI at q
  split at q
  · rename_i hc
    obtain ⟨a, dx, fs, rfl, ha⟩ := isCls_ok hh r2 hc
    obtain rfl : u = Value.ref a := ry
    cases he : outB (F [e, d] L) with
    | none => rw [he] at q; exact q.elim
    | some p =>
      obtain ⟨b, L'⟩ := p
      rw [he] at q
      obtain ⟨mA, J, _⟩ := ins_get I.hok ha
      obtain ⟨od, J, _⟩ := J.look
      obtain ⟨m, hFr⟩ := I.fr
      obtain ⟨g, h1, h2, h3⟩ := run_in (R := fun b => .bool b) (hR := fun _ => rfl) (f := id) h hr I hh r2 r1 rx he (fun ρ' H' p t h => q _ ρ' H' p t h (.bl _))
      exact PySem.W.in_K hFr I.ok.mod.kin J h1 h2 h3
  · refine op_oIn hu pins s σ H x y v u Q I rx ry ⟨ρ, L, d, e, hh, r1, r2, ?_⟩
    unfold oIn
    cases hd : inD L d e with
    | none => rw [hd] at q; exact q.elim
    | some b => rw [hd] at q; exact q
theorem op_oNotInI {c k : Nat} {F : FS} (hu : X.A.units + 65 < cLine) (h : MtI X.prog X.w X.K X.mg X.base cm c "__contains__" k 2 F) (hr : Room k X.A) : OpR X (compareOp .NotIn) (rM ⟨X.K, cm, fx, X.w⟩ (oNotInI c F)) := by
  intro pins s σ H x y v u Q I rx ry q
  obtain ⟨ρ, L, d, e, hh, r1, r2, q⟩ := q
  unfold oNotInI inI at q
  split at q
  · rename_i hc
    obtain ⟨a, dx, fs, rfl, ha⟩ := isCls_ok hh r2 hc
    obtain rfl : u = Value.ref a := ry
    cases he : outB (F [e, d] L) with
    | none => rw [he] at q; exact q.elim
    | some p =>
      obtain ⟨b, L'⟩ := p
      rw [he] at q
      obtain ⟨mA, J, _⟩ := ins_get I.hok ha
      obtain ⟨od, J, _⟩ := J.look
      obtain ⟨m, hFr⟩ := I.fr
      obtain ⟨g, h1, h2, h3⟩ := run_in (R := fun b => .bool b) (hR := fun _ => rfl) (f := fun b => !b) h hr I hh r2 r1 rx he (fun ρ' H' p t h => q _ ρ' H' p t h (.bl _))
      exact PySem.W.notIn_K hFr I.ok.mod.kin J h1 h2 h3
  · refine op_oNotIn hu pins s σ H x y v u Q I rx ry ⟨ρ, L, d, e, hh, r1, r2, ?_⟩
    unfold oNotIn
    cases hd : inD L d e with
    | none => rw [hd] at q; exact q.elim
    | some b => rw [hd] at q; exact q

/-! ### instances made with defaults, keywords -/
/-- the class c by its name, its __init__, the positional defaults dd -/
structure CdI (P : Program) (w : World) (K : PySem.W.Frag) (mg : Str → Option Value) (base : Heap) (cm : Nat → Addr) (x : Str) (c k n : Nat) (dd : List D) (F : FS) : Prop where
  ex : ∃ (f : Addr) (fd : FuncData) (ps : List Str) (ds : List Value) (dvs : List V), mg x = some (.ref (cm c)) ∧ Mk K (cm c) f ∧ Binds K fd ps ds ∧ Vals dvs ds ∧ (∀ fx ρ H, VRs ⟨K, cm, fx, w⟩ ρ H dd dvs) ∧ ps.length = n ∧ FnF P w K mg base cm k f fd ps F
/-- the class c by its name, its __init__ called with n values and the keywords ks; gD puts them in their order -/
structure CkI (P : Program) (w : World) (K : PySem.W.Frag) (mg : Str → Option Value) (base : Heap) (cm : Nat → Addr) (x : Str) (c k n : Nat) (ks : List Str) (gD : List D → List D → List D) (N : Nat) (F : FS) : Prop where
  ex : ∃ (f : Addr) (fd : FuncData) (ps : List Str) (gg : List Value → List Value → List Value) (gV : List V → List V → List V), mg x = some (.ref (cm c)) ∧ Mk K (cm c) f ∧ KBn K fd ps (n + 1) ks gg gV ∧
    (∀ fx ρ H ds vs es zs, VRs ⟨K, cm, fx, w⟩ ρ H ds vs → VRs ⟨K, cm, fx, w⟩ ρ H es zs → VRs ⟨K, cm, fx, w⟩ ρ H (gD ds es) (gV vs zs)) ∧ ps.length = N ∧ FnF P w K mg base cm k f fd ps F
def mMadeG (c : Nat) (F : FS) (f : D → List D) (L : List O) : Rs D := (F (f (.ref L.length)) (L ++ [.ins c []])).bind fun d L' => match d with
  | .non => .ok (.ref L.length) L'
  | _ => .bad
theorem madeG_sp {n c : Nat} {F : FS} {f : D → List D} {fV : V → List V} {σ : L2.St} {Q : VK} (hh : HR g ρ L H) (r : ∀ ρ' H' x, ρ <+: ρ' → TP H H' → VR g ρ' H' (.ref L.length) (.ref x) → VRs g ρ' H' (f (.ref L.length)) (fV (.ref x))) (q : LfD g ρ H σ W (mMadeG c F f L) Q) {x dx : Addr} (hn : (fV (.ref x)).length = n) (nx : H x = none) (nd : H dx = none) (ne : dx ≠ x) :
    spF g.w g.K g.cm n F (fV (.ref x)) (upd (upd H dx (.own x)) x (.ins (g.cm c) dx [])) (fun v H2 => v = .non ∧ Q (.ref x) H2) (EW W σ) := by
  have nx' : upd H dx (.own x) x = none := by rw [upd_ne (Ne.symm ne)]; exact nx
  have t1 : TP H (upd H dx (.own x)) := TP.new nd
  have t2 := t1.trans (TP.new (o := .ins (g.cm c) dx []) nx')
  have h2 := (hh.fresh nd (.own x)).new nx' (u := .ins (g.cm c) dx []) (o := .ins c []) ⟨dx, [], upd_same, .nil⟩
  have ex : (ρ ++ [x])[L.length]? = some x := by rw [← hh.len]; simp
  refine ⟨hn, g.fx, ρ ++ [x], L ++ [.ins c []], f (.ref L.length), h2, r _ _ _ (pre_snoc _ _) t2 (.ref ex), ?_⟩
  unfold mMadeG at q
  cases hF : F (f (.ref L.length)) (L ++ [.ins c []]) with
  | ok d L' =>
    rw [hF] at q
    intro v ρ' H' p t h rv
    cases rv with
    | non => exact ⟨rfl, q _ ρ' H' ((pre_snoc _ _).trans p) (t2.trans t) h (.ref (pre_get p ex))⟩
    | _ => exact q.elim
  | ex c' fs L' =>
    rw [hF] at q
    exact fun ρ' H' dx p t h x => q ρ' H' dx ((pre_snoc _ _).trans p) (t2.trans t) h x
  | bad => rw [hF] at q; exact q.elim
def mMakeD (c : Nat) (F : FS) (dd : List D) (args : MA) : ME := fun ε L => (args ε L).bind fun ds L1 => mMadeG c F (fun x => x :: (ds ++ dd)) L1
theorem se_makeD {cm : Nat → Addr} {fx : Hp} {x : Str} {c k n : Nat} {dd : List D} {F : FS} {e : Expr} {es : List Expr} {args : MA} {p pos : Pos} (h : CdI X.prog X.w X.K X.mg X.base cm x c k (n + 1 + dd.length) dd F) (hr : Room (k + 1) X.A) (tk : Takes X W) (ha : PA X (e :: es) (tMA ⟨X.K, cm, fx, X.w⟩ W args)) (hl : Len args n)
    (hg : Gl X x := by rfl) (hdb : (x == ("__debug__" : Str)) = false := by decide) (he : starEach (e :: es) X.env = (false, eval e X.env) :: starEach es X.env := by rfl) (hpl : (backTo pos (starEach es X.env)).any (·.1) = false := by rfl) :
    PE X (.Call (.Name x p) (e :: es) [] pos) (tM ⟨X.K, cm, fx, X.w⟩ W (mMakeD c F dd args)) := by
  obtain ⟨f, fd, ps, dvv, dvs, hm, M, hb, hd, hdd, hps, G⟩ := h.ex
  refine (pe_makeSD (E := EW W) M G hr hg hm hb hd (fun σ => pass_at tk σ) ha hdb he hpl).imp fun σ H Q q => ?_
  obtain ⟨ε, ρ, L, he, hh, q⟩ := q
  refine ⟨ε, ρ, L, he, hh, Lf.bind q fun ds L1 vs ρ1 H1 e1 p1 t1 h1 r1 q1 => fun x dx nx nd ne => ?_⟩
  refine madeG_sp (fV := fun v => v :: (vs ++ dvs)) h1 (fun ρ' H' y p t ry => .cons ry ((r1.mono p t).append (hdd _ _ _))) q1 ?_ nx nd ne
  rw [hps, List.length_cons, List.length_append, ← r1.length, hl.h _ _ _ _ e1, ← (hdd fx ρ H).length]
  omega
section
variable {CX : CXT} {k n : Nat} {f C : Addr} {fd : FuncData} {ps ks : List Str} {sp : Sp} {E : L2.St → XK} {x : Str} {p pos : Pos} {e : Expr} {es : List Expr} {kws : List Keyword} {t tk : TA} {gg : List Value → List Value → List Value} {gV : List V → List V → List V}
def tMakeKSD (C : Addr) (n m : Nat) (sp : Sp) (gV : List V → List V → List V) (E : L2.St → XK) (t tk : TA) : TE := fun σ H Q => t σ H fun vs H1 => tk σ H1 fun zs H2 => vs.length = n ∧ zs.length = m ∧ ∀ x dx, H2 x = none → H2 dx = none → dx ≠ x →
  sp (gV (.ref x :: vs) zs) (upd (upd H2 dx (.own x)) x (.ins C dx [])) (fun v H3 => v = .non ∧ Q (.ref x) H3) (E σ)
theorem run_makeKSD {E : XK} {pins : List (Addr × Obj)} {σ : L2.St} {H : Hp} {s : Shared} {Q : VK} {us ws : List Value} {vs zs : List V} (M : Mk X.K C f) (F : FnOk X.prog X.w X.K X.mg X.base CX k f fd ps sp) (hr : Room (k + 1) X.A) (hb : KBn X.K fd ps (n + 1) ks gg gV) (hx : PassesAt CX X σ E)
    (I : Inv X pins σ H s) (r : Vals vs us) (rz : Vals zs ws) (l1 : vs.length = n) (l2 : zs.length = ks.length)
    (h : ∀ x dx, H x = none → H dx = none → dx ≠ x → sp (gV (.ref x :: vs) zs) (upd (upd H dx (.own x)) x (.ins C dx [])) (fun v H2 => v = .non ∧ Q (.ref x) H2) E) :
    wpAny (model X.prog X.w) X.A (call (.ref C) us (ks.zip ws)) (EP X pins σ Q) X.xe s := by
  have hq := h (s.heap.objs.size + 1) s.heap.objs.size (I.hok.fresh (Nat.le_succ _)) (I.hok.fresh (Nat.le_refl _)) (Nat.ne_of_lt (Nat.lt_succ_self _))
  have I2 := Inv.made (C := C) I
  have r1 : Vals (V.ref (s.heap.objs.size + 1) :: vs) (Value.ref (s.heap.objs.size + 1) :: us) := .cons rfl r
  have r2 := hb.rel r1 rz
  have n1 : (Value.ref (s.heap.objs.size + 1) :: us).length = n + 1 := by
    rw [List.length_cons, ← r.length, l1]
  refine wpAny_call (make_map (f := f) I.kIn M.makes M.init (beq_iff_eq.mp M.fn) (codeAny_mono (F.run _ X.stack _ _ ⟨Value.ref (s.heap.objs.size + 1) :: us, ks.zip ws⟩ (gg (Value.ref (s.heap.objs.size + 1) :: us) ws) _ _ E (hr.make C us (ks.zip ws))
    (I2.env0.make C us (ks.zip ws)) (hb.to _ (Value.ref (s.heap.objs.size + 1) :: us) ws I2.kIn n1 (rz.length.symm.trans l2)) r2 hq) fun r s' hq' => ?_))
  cases r with
  | error e => exact hx pins _ _ e s' I2 hq'
  | ok fl =>
    cases fl with
    | ret u =>
      obtain ⟨v, H', I3, rv, ev, q3⟩ := I2.after hq'
      subst ev
      exact ⟨rv, ⟨V.ref (s.heap.objs.size + 1), H', I3, rfl, q3⟩⟩
    | next => exact False.elim hq'
    | brk => exact False.elim hq'
    | cont => exact False.elim hq'
theorem pe_makeKSD0 (M : Mk X.K C f) (F : FnOk X.prog X.w X.K X.mg X.base CX k f fd ps sp) (hr : Room (k + 1) X.A) (hg : Gl X x) (hm : X.mg x = some (.ref C)) (hb : KBn X.K fd ps 1 ks gg gV) (hx : ∀ σ, PassesAt CX X σ (E σ)) (hkw : PK X kws tk)
    (hall : (backToKw pos (keywordEach kws X.env)).all (·.1.isSome) = true := by rfl) (hks : (backToKw pos (keywordEach kws X.env)).filterMap (·.1) = ks := by rfl) (hdb : (x == ("__debug__" : Str)) = false := by decide)
    (hpl : ((backTo pos (starEach [] X.env)).any (·.1) || (backToKw pos (keywordEach kws X.env)).any (·.1.isNone)) = false := by rfl) :
    PE X (.Call (.Name x p) [] kws pos) (tMakeKSD C 0 ks.length sp gV E tNil tk) := by
  refine ⟨fun pins s σ H Q I h => ?_⟩
  refine wpAny_Call_Name_kw (ld_glob I hg hm ?_ hdb)
  refine PySem.W.callWith_KW0 (h₀ := X.base) I.ok.mod.kin M.kp hall ?_ hpl
  refine thn (hkw.run pos pins s σ H _ I h) fun ws s2 ⟨zs, H2, I2, rz, l1, l2, q2⟩ => ⟨I2.kIn, ?_⟩
  rw [hks]
  exact run_makeKSD (us := []) (vs := []) M F hr hb (hx σ) I2 .nil rz rfl l2 q2
theorem pe_makeKSD (M : Mk X.K C f) (F : FnOk X.prog X.w X.K X.mg X.base CX k f fd ps sp) (hr : Room (k + 1) X.A) (hg : Gl X x) (hm : X.mg x = some (.ref C)) (hb : KBn X.K fd ps (n + 1) ks gg gV) (hx : ∀ σ, PassesAt CX X σ (E σ)) (ha : PA X (e :: es) t) (hkw : PK X kws tk)
    (hall : (backToKw pos (keywordEach kws X.env)).all (·.1.isSome) = true := by rfl) (hks : (backToKw pos (keywordEach kws X.env)).filterMap (·.1) = ks := by rfl) (hdb : (x == ("__debug__" : Str)) = false := by decide)
    (he : starEach (e :: es) X.env = (false, eval e X.env) :: starEach es X.env := by rfl) (hpl : ((backTo pos (starEach (e :: es) X.env)).any (·.1) || (backToKw pos (keywordEach kws X.env)).any (·.1.isNone)) = false := by rfl) :
    PE X (.Call (.Name x p) (e :: es) kws pos) (tMakeKSD C n ks.length sp gV E t tk) := by
  refine ⟨fun pins s σ H Q I h => ?_⟩
  refine wpAny_Call_Name_kw (ld_glob I hg hm ?_ hdb)
  refine PySem.W.callWith_KW (h₀ := X.base) I.ok.mod.kin M.kp hall (thn (ha.run pos pins s σ H _ I h) fun us s1 ⟨vs, H1, I1, r, q⟩ => ?_) hpl he
  refine thn (hkw.run pos pins s1 σ H1 _ I1 q) fun ws s2 ⟨zs, H2, I2, rz, l1, l2, q2⟩ => ⟨I2.kIn, ?_⟩
  rw [hks]
  exact run_makeKSD M F hr hb (hx σ) I2 r rz l1 l2 q2
end
/-- the values of the keywords -/
theorem sk_nil : PK X [] (tMA g W mNil) := ⟨fun pos pins s σ H Q I q => pk_nil.run pos pins s σ H Q I (by
  obtain ⟨ε, ρ, L, he, hh, q⟩ := q
  exact q [] ρ H (List.prefix_refl _) (TP.refl H) hh .nil)⟩
theorem sk_cons {e : Expr} {kws : List Keyword} {nm : Option Str} {kpos : Pos} {a : ME} {r : MA} (ha : PE X e (tM g W a)) (hr : PK X kws (tMA g W r)) : PK X (⟨nm, e, kpos⟩ :: kws) (tMA g W (mCons a r)) := ⟨fun pos pins s σ H Q I q => (pk_cons ha hr).run pos pins s σ H Q I (by
  obtain ⟨ε, ρ, L, he, hh, q⟩ := q
  refine ⟨ε, ρ, L, he, hh, Lf.bind q fun x L1 v ρ1 H1 _ p1 t1 h1 r1 q1 => ?_⟩
  refine ⟨ε, ρ1, L1, he.mono p1 t1, h1, Lf.bind q1 fun xs L2 vs ρ2 H2 _ p2 t2 h2 r2 q2 => ?_⟩
  exact q2 _ ρ2 H2 (List.prefix_refl _) (TP.refl H2) h2 (.cons (r1.mono p2 t2) r2))⟩
def mMakeK (c : Nat) (F : FS) (gD : List D → List D → List D) (args kargs : MA) : ME := fun ε L => (args ε L).bind fun ds L1 => (kargs ε L1).bind fun es L2 => mMadeG c F (fun x => gD (x :: ds) es) L2
theorem se_makeK {cm : Nat → Addr} {fx : Hp} {x : Str} {c k n N : Nat} {ks : List Str} {gD : List D → List D → List D} {F : FS} {e : Expr} {es : List Expr} {kws : List Keyword} {args kargs : MA} {p pos : Pos} (h : CkI X.prog X.w X.K X.mg X.base cm x c k n ks gD N F) (hr : Room (k + 1) X.A) (tk : Takes X W) (ha : PA X (e :: es) (tMA ⟨X.K, cm, fx, X.w⟩ W args)) (hkw : PK X kws (tMA ⟨X.K, cm, fx, X.w⟩ W kargs)) (hl : Len args n) (hlk : Len kargs ks.length) (hN : ∀ a as bs, as.length = n → bs.length = ks.length → (gD (a :: as) bs).length = N)
    (hg : Gl X x := by rfl) (hall : (backToKw pos (keywordEach kws X.env)).all (·.1.isSome) = true := by rfl) (hks : (backToKw pos (keywordEach kws X.env)).filterMap (·.1) = ks := by rfl) (hdb : (x == ("__debug__" : Str)) = false := by decide)
    (he : starEach (e :: es) X.env = (false, eval e X.env) :: starEach es X.env := by rfl) (hpl : ((backTo pos (starEach (e :: es) X.env)).any (·.1) || (backToKw pos (keywordEach kws X.env)).any (·.1.isNone)) = false := by rfl) :
    PE X (.Call (.Name x p) (e :: es) kws pos) (tM ⟨X.K, cm, fx, X.w⟩ W (mMakeK c F gD args kargs)) := by
  obtain ⟨f, fd, ps, gg, gV, hm, M, hb, hgr, hps, G⟩ := h.ex
  refine (pe_makeKSD (E := EW W) M G hr hg hm hb (fun σ => pass_at tk σ) ha hkw hall hks hdb he hpl).imp fun σ H Q q => ?_
  obtain ⟨ε, ρ, L, he, hh, q⟩ := q
  refine ⟨ε, ρ, L, he, hh, Lf.bind q fun ds L1 vs ρ1 H1 e1 p1 t1 h1 r1 q1 => ?_⟩
  refine ⟨ε, ρ1, L1, he.mono p1 t1, h1, Lf.bind q1 fun es L2 zs ρ2 H2 e2 p2 t2 h2 r2 q2 => ?_⟩
  refine ⟨by rw [← r1.length, hl.h _ _ _ _ e1], by rw [← r2.length, hlk.h _ _ _ _ e2], fun x dx nx nd ne => ?_⟩
  refine madeG_sp (fV := fun v => gV (v :: vs) zs) h2 (fun ρ' H' y p t ry => hgr _ _ _ _ _ _ _ (.cons ry ((r1.mono p2 t2).mono p t)) (r2.mono p t)) q2 ?_ nx nd ne
  rw [hps]
  have e3 := (hgr fx (ρ2 ++ [x]) (upd (upd H2 dx (.own x)) x (.ins (cm c) dx [])) (.ref L2.length :: ds) (.ref x :: vs) es zs (.cons (.ref (by rw [← h2.len]; simp)) ((r1.mono p2 t2).mono (pre_snoc _ _) ((TP.new nd).trans (TP.new (by rw [upd_ne (Ne.symm ne)]; exact nx))))) (r2.mono (pre_snoc _ _) ((TP.new nd).trans (TP.new (by rw [upd_ne (Ne.symm ne)]; exact nx))))).length
  rw [← e3]
  exact hN _ _ _ (hl.h _ _ _ _ e1) (hlk.h _ _ _ _ e2)
theorem se_makeK0 {cm : Nat → Addr} {fx : Hp} {x : Str} {c k N : Nat} {ks : List Str} {gD : List D → List D → List D} {F : FS} {kws : List Keyword} {kargs : MA} {p pos : Pos} (h : CkI X.prog X.w X.K X.mg X.base cm x c k 0 ks gD N F) (hr : Room (k + 1) X.A) (tk : Takes X W) (hkw : PK X kws (tMA ⟨X.K, cm, fx, X.w⟩ W kargs)) (hlk : Len kargs ks.length) (hN : ∀ a bs, bs.length = ks.length → (gD [a] bs).length = N)
    (hg : Gl X x := by rfl) (hall : (backToKw pos (keywordEach kws X.env)).all (·.1.isSome) = true := by rfl) (hks : (backToKw pos (keywordEach kws X.env)).filterMap (·.1) = ks := by rfl) (hdb : (x == ("__debug__" : Str)) = false := by decide)
    (hpl : ((backTo pos (starEach [] X.env)).any (·.1) || (backToKw pos (keywordEach kws X.env)).any (·.1.isNone)) = false := by rfl) :
    PE X (.Call (.Name x p) [] kws pos) (tM ⟨X.K, cm, fx, X.w⟩ W (mMakeK c F gD mNil kargs)) := by
  obtain ⟨f, fd, ps, gg, gV, hm, M, hb, hgr, hps, G⟩ := h.ex
  refine (pe_makeKSD0 (E := EW W) M G hr hg hm hb (fun σ => pass_at tk σ) hkw hall hks hdb hpl).imp fun σ H Q q => ?_
  obtain ⟨ε, ρ, L, he, hh, q⟩ := q
  show tMA _ _ kargs σ H _
  refine ⟨ε, ρ, L, he, hh, Lf.bind q fun es L2 zs ρ2 H2 e2 p2 t2 h2 r2 q2 => ?_⟩
  refine ⟨rfl, by rw [← r2.length, hlk.h _ _ _ _ e2], fun x dx nx nd ne => ?_⟩
  refine madeG_sp (fV := fun v => gV [v] zs) h2 (fun ρ' H' y p t ry => hgr _ _ _ _ _ _ _ (.cons ry .nil) (r2.mono p t)) q2 ?_ nx nd ne
  rw [hps]
  have e3 := (hgr fx (ρ2 ++ [x]) (upd (upd H2 dx (.own x)) x (.ins (cm c) dx [])) [.ref L2.length] [.ref x] es zs (.cons (.ref (by rw [← h2.len]; simp)) .nil) (r2.mono (pre_snoc _ _) ((TP.new nd).trans (TP.new (by rw [upd_ne (Ne.symm ne)]; exact nx))))).length
  rw [← e3]
  exact hN _ _ (hlk.h _ _ _ _ e2)
/-! ### constants of a class -/
structure CvI (K : PySem.W.Frag) (mg : Str → Option Value) (cm : Nat → Addr) (x : Str) (c : Nat) (f : Str) (d : D) : Prop where
  ex : ∃ mc v u, mg x = some (.ref (cm c)) ∧ ClX.CRead K (cm c) mc ∧ ClX.CVal K (cm c) mc f v u ∧ ∀ {w : World} fx ρ H, VR ⟨K, cm, fx, w⟩ ρ H d v
theorem se_cval {x f : Str} {c : Nat} {d : D} {p pos : Pos} (h : CvI X.K X.mg cm x c f d) (hg : Gl X x := by rfl) (hd : (x == ("__debug__" : Str)) = false := by decide) (hb : attributeBase (.Name x p) f X.env (eval (.Name x p) X.env) = eval (.Name x p) X.env := by rfl) : PE X (.Attribute (.Name x p) f pos) (tM ⟨X.K, cm, fx, X.w⟩ W (mC d)) := by
  obtain ⟨mc, v, u, hm, r, cv, hv⟩ := h.ex
  refine se_c (v := v) ((ClX.pe_cval (pe_glob hg hm (v := .ref (cm c)) rfl hd) hb).imp fun σ H Q q => ?_) (hv fx)
  exact ⟨cm c, mc, v, u, rfl, r, cv, q⟩
structure ConI (K : PySem.W.Frag) (cm : Nat → Addr) (c : Nat) (f : Str) (d : D) : Prop where
  ex : ∃ v u, Cls K (cm c) ∧ Con K (cm c) f v u ∧ ∀ {w : World} fx ρ H, VR ⟨K, cm, fx, w⟩ ρ H d v
def mCon (c : Nat) (f : Str) (d : D) (o : ME) : ME := fun ε L => (o ε L).bind fun x L1 => if isIns c f L1 x = true then .ok d L1 else .bad
theorem se_con {e : Expr} {f : Str} {c : Nat} {d : D} {o : ME} {pos : Pos} (h : ConI X.K cm c f d) (ho : PE X e (tM ⟨X.K, cm, fx, X.w⟩ W o)) (hb : attributeBase e f X.env (eval e X.env) = eval e X.env := by rfl) : PE X (.Attribute e f pos) (tM ⟨X.K, cm, fx, X.w⟩ W (mCon c f d o)) := by
  obtain ⟨v, u, cl, k, hv⟩ := h.ex
  refine (pe_con ho hb).imp fun σ H Q q => ?_
  obtain ⟨ε, ρ, L, he, hh, q⟩ := q
  refine ⟨ε, ρ, L, he, hh, Lf.bind q fun x L1 xv ρ1 H1 e1 p1 t1 h1 r1 q1 => ?_⟩
  cases hi : isIns c f L1 x with
  | false => rw [hi, if_neg (by decide)] at q1; exact q1.elim
  | true =>
    rw [hi, if_pos rfl] at q1
    obtain ⟨a, dx, fs, e2, e3, e4⟩ := isIns_ok h1 r1 hi
    exact ⟨a, cm c, dx, fs, v, u, e2, e3, cl, k, e4, q1 v ρ1 H1 (List.prefix_refl _) (TP.refl H1) h1 (hv _ _ _)⟩
end Tw
end

section
set_option Elab.async false
set_option linter.all false
set_option maxRecDepth 100000
set_option maxHeartbeats 1000000
/-! Tw, part O: repr; a law's def where no guard is up; the end of a law. -/
namespace Tw
open PySem PySem.Spec L2
open PyProof.Rows (envOfC)
variable {g : Gx} {ρ ρ' : List Addr} {H H' : Hp} {X : Cx} {W : WX} {L : List O} {cm : Nat → Addr} {fx : Hp}

/-! ### repr -/
def isSeqP : PyData → Bool
  | .list _ => true
  | .tuple _ => true
  | _ => false
def cRepr : OC := fun ds L => match ds with
  | [x] => match toPy L pyDeep x with
    | some p => if isSeqP p = true ∧ p.showable = true ∧ p.hasDict = false ∧ p.depth ≤ 16 ∧ p.shown.length ≤ most then some (.str p.shown, L) else none
    | none => none
  | _ => none
theorem c_repr (hg : X.A.guards = some []) (hu : X.A.units + 65 < cLine) : CallR X (.builtin "repr") (rC ⟨X.K, cm, fx, X.w⟩ cRepr) := by
  intro pins s σ H xs us Q I r q
  obtain ⟨ρ, L, ds, hh, rr, q⟩ := q
  unfold cRepr at q
  split at q
  · rename_i x
    obtain ⟨v, rfl, rv⟩ := rr.one
    obtain ⟨u, rfl, ru⟩ := r.one
    split at q
    · rename_i p hp
      split at q
      · rename_i hz
        obtain ⟨z1, z2, z3, z4, z5⟩ := hz
        have dp := toPy_ok hh _ _ _ _ hp rv
        obtain ⟨as, rd⟩ := Dp.reads I p v u dp ru
        have hq : Q (.str p.shown) H := q.same hh (.str _)
        have hre : ∃ a, u = .ref a := by
          cases rd with
          | list => exact ⟨_, rfl⟩
          | tuple => exact ⟨_, rfl⟩
          | _ => cases z1
        obtain ⟨a, rfl⟩ := hre
        exact repr_of_reads' rd z2 (fun z => by rw [z3] at z; cases z) hg (by omega) (fun _ _ e => e) (fun h' u tk hk => ⟨.str p.shown, H, I.kept (t' := tk) hk, ⟨_, rfl⟩, hq⟩) (most_le z5)
      · exact q.elim
    · exact q.elim
  · exact q.elim
/-! ### a body with no guard up -/
section
variable {P : Program} {w : World} {K : PySem.W.Frag} {mg : Str → Option Value} {base : Heap}
def BodyOkG (P : Program) (w : World) (K : PySem.W.Frag) (mg : Str → Option Value) (base : Heap) (cm : Nat → Addr) (N : List Str) (qual : Str) (sc : Scope) (f : Addr) (body : List Stmt) (k : Nat) (m : MS) : Prop :=
  ∀ (fx : Hp) (cdv : Value) (A : Around) (outer : List Env) (s : Shared) (H : Hp) (E : XK), (A.deeper (envOfC qual sc s.heap.objs.size f cdv)).guards = some [] → Room k (A.deeper (envOfC qual sc s.heap.objs.size f cdv)) → Takes (cxF P w K mg base N qual sc f cdv A outer s H E) (WF E) →
    PassesOwn (model P w) (cxF P w K mg base N qual sc f cdv A outer s H E).A (cxF P w K mg base N qual sc f cdv A outer s H E).env (cxF P w K mg base N qual sc f cdv A outer s H E).xe →
    PSs (cxF P w K mg base N qual sc f cdv A outer s H E) body (tMS ⟨K, cm, fx, w⟩ (WF E) m)
/-- the def at f, run where no guard is up -/
structure FnG (P : Program) (w : World) (K : PySem.W.Frag) (mg : Str → Option Value) (base : Heap) (k : Nat) (f : Addr) (fd : FuncData) (ps : List Str) (sp : Sp) : Prop where
  run : ∀ (A : Around) (outer : List Env) (s : Shared) (H : Hp) (args : Args) (us : List Value) (vs : List V) (Q : VK) (E : XK), A.guards = some [] → Room k A → Env0 P w K mg base A outer s H → BindsTo s fd args (ps.zip us) → Vals vs us → sp vs H Q E →
    codeAny (model P w) A (.call (.ref f) args) (CR (L2N.CX P w) outer P w H s Q E) s
theorem fnG_of {f : Addr} {name qual : Str} {params : Arguments} {body : List Stmt} {scope : Scope} {dV kV doc pm cdv ct oc : Value} {an od : Option Addr}
    {osl : Array (Option Value)} {N ps : List Str} {k : Nat} {m : MS} (lk : K.lookup f = some ⟨oc, od, .func (PySem.W.fnOf name qual params body scope dV kV doc pm an cdv ct), osl⟩) (hcd : PySem.W.codeIn K cdv qual = true) (S : FnScope N ps scope) (hN : ps.length ≤ N.length)
    (h : BodyOkG P w K mg base cm N qual scope f body k m) :
    FnG P w K mg base (k + 1) f (PySem.W.fnOf name qual params body scope dV kV doc pm an cdv ct) ps (spF w K cm ps.length (runF ps.length N.length m)) := by
  refine ⟨fun A outer s H args us vs Q E hgd hr e0 hb r hsp => ?_⟩
  have hl : vs.length = ps.length := hsp.1
  have KX : K.In s.heap := e0.mod.kin.keeps fun b o e => (e0.bs b o e).1
  have lim : s.heap.NoLimit := e0.mod.nolimit.keeps fun b o e => (e0.bs b o e).1
  have hkind : ∀ y ∈ ps.zip us, scope.names.lookup y.1 = some .local ∨ (scope.names.lookup y.1 = some .cell ∧ ((cellsFrom (s.heap.objs.size + 1) scope.names []).lookup y.1).isSome = true) := fun ⟨n, v⟩ hy => by
    rcases S.par n (List.of_mem_zip hy).1 with q | q
    · exact .inl q
    · exact .inr ⟨q, PySem.W.cellsFrom_some _ _ _ (.inl q)⟩
  refine codeAny_call_function hr.depth (KX _ _ lk) rfl S.co S.gen rfl (PySem.W.codeRec_of KX hcd) (hb _ _ _ _ ?_)
  refine wpAny_newFunctionEnv_cells S.kind hkind fun env he s1 x => ?_
  subst he
  refine ⟨lim.keeps x.toInCall.keep, codeAny_func ?_⟩
  obtain ⟨hl', fx, ρ, L, ds, hh, r', q⟩ := id hsp
  have ht := h fx cdv A outer s H E hgd (hr.deeper _) (L2N.takes_of rfl rfl rfl rfl) (passes_of rfl)
  have hq : tMS ⟨K, cm, fx, w⟩ (WF E) m { nx := fun _ H' => Q .non H', rt := Q } (start N vs) H := by
    have r := r'
    unfold runF at q
    have hd : ds.length = ps.length := r.length.trans hl
    rw [if_pos hd] at q
    have he := ER.begin r N
    rw [hd] at he
    refine ⟨_, ρ, L, he, hh, ?_⟩
    cases hm : m (ds.map some ++ List.replicate (N.length - ps.length) none) L with
    | nx ε' L' => rw [hm] at q; exact fun σ' ρ' H' p t a b => q .non ρ' H' p t a .non
    | rt d L' => rw [hm] at q; exact q
    | bk ε' L' => rw [hm] at q; exact q.elim
    | ct ε' L' => rw [hm] at q; exact q.elim
    | ex c fs ε' L' => rw [hm] at q; exact fun σ' ρ' H' dx p t a b x => q ρ' H' dx p t a x
    | bad => rw [hm] at q; exact q.elim
  have I : Inv (cxOf (L2N.CX P w) P w K mg base N qual scope f cdv A outer s H E) [] (start N vs) H s1 := inv_start S hr.hd e0 hl r x
  refine wpAny_mono (ht.run [] s1 (start N vs) H _ I hq) (fun fl s' hs => ?_) fun e s' hs => hs
  cases fl with
  | ret u =>
    obtain ⟨v, σ', H', J, rv, q⟩ := hs
    exact ⟨v, H', J.os, J.bare, J.base, J.hok, rv, q⟩
  | next =>
    obtain ⟨σ', H', J, q⟩ := hs
    exact ⟨V.non, H', J.os, J.bare, J.base, J.hok, (rfl : RelV V.non Value.none), q⟩
  | brk =>
    obtain ⟨_, _, _, q⟩ := hs
    exact False.elim q
  | cont =>
    obtain ⟨_, _, _, q⟩ := hs
    exact False.elim q
end
end Tw
end

section
set_option Elab.async false
set_option linter.all false
set_option maxRecDepth 100000
set_option maxHeartbeats 1000000
/-! Tw, part P: a law's end. -/
namespace Tw
open PySem PySem.Spec PyProof.Rows L2
theorem fnG_ok {P : Program} {w : World} {K : PySem.W.Frag} {mg : Str → Option Value} {base : Heap} {k : Nat} {f : Addr} {fd : FuncData} {ps : List Str} {sp : Sp} (F : FnOk P w K mg base (L2N.CX P w) k f fd ps sp) : FnG P w K mg base k f fd ps sp :=
  ⟨fun A outer s H args us vs Q E _ hr e0 hb r hsp => F.run A outer s H args us vs Q E hr e0 hb r hsp⟩
theorem law_callG {P : Program} {w : World} {K : PySem.W.Frag} {mg mb : Str → Option Value} {k : Nat} {fa a : Addr} {fd : FuncData} {x : Str} {sp : Sp} {s₁ : Shared} {vs : List Value} {ns : List Int}
    (KX : K.In s₁.heap) (hns : s₁.heap.Ns mainGlobals mg) (hb : s₁.heap.Ns builtinsNs mb) (hbb : ∀ x : Str, x ≠ "__name__" → mb x = bootBuiltins x) (hlim : s₁.heap.NoLimit) (hg : s₁.gens = #[])
    (ha : s₁.heap.get? a = some { cls := .type "list", data := .seq vs.toArray }) (hi : IntsAre vs ns) (hl : ns.length ≤ sizeLine) (hr : Room k callerA)
    (F : ∀ base : Heap, K.In base → base.Ns mainGlobals mg → FnG P w K mg base k fa fd [x] sp) (hbind : ∀ (s : Shared) (u : Value), BindsTo s fd ⟨[u], []⟩ [(x, u)])
    (hsp : ∀ H : Hp, Only H → SqL K H a (ns.map V.int) → sp [.ref a] H (fun v _ => v = .bl true) fun _ _ _ => False) :
    codeAny (model P w) callerA (.call (.ref fa) ⟨[.ref a], []⟩) (fun r s' => r = .ok (.ret (.bool true)) ∧ OldK s₁.heap s'.heap ∧ s'.os = s₁.os ∧ AllBare s'.gens) s₁ := by
  have rv := vals_ints hi
  have lenV := hi.length
  have core : ∀ H : Hp, Only H → SqL K H a (ns.map V.int) → HOk P w H s₁.heap → (∀ b, H b ≠ none → b = a) → (H a ≠ none → K.lookup a = none) →
      codeAny (model P w) callerA (.call (.ref fa) ⟨[.ref a], []⟩) (fun r s' => r = .ok (.ret (.bool true)) ∧ OldK s₁.heap s'.heap ∧ s'.os = s₁.os ∧ AllBare s'.gens) s₁ := by
    intro H hO hS hok hA hK
    have isA : ∀ {b : Addr}, H b ≠ none → b = a := fun {b} h => hA b h
    have base_of : ∀ {b : Addr} {o : Obj}, s₁.heap.get? b = some o → H b = none → (hidT s₁.heap H).get? b = some o := fun e n => hidT_get e n
    have noA : ∀ {b : Addr} {o : Obj} {es : Array DictEntry} {ep : Nat}, s₁.heap.get? b = some o → o.data = .dict es ep → H b = none := fun {b o es ep} e d => by
      by_cases q : H b = none
      · exact q
      · rw [isA q, ha] at e
        cases e
        cases (show Data.seq vs.toArray _ = Data.dict es ep from d)
    have nsK : ∀ {b : Addr} {m : Str → Option Value}, s₁.heap.Ns b m → (hidT s₁.heap H).Ns b m := fun {b m} ⟨o, es, ep, e, d, r⟩ => ⟨o, es, ep, base_of e (noA e d), d, r⟩
    have hKb : K.In (hidT s₁.heap H) := fun b o e => base_of (KX b o e) (by
      by_cases q : H b = none
      · exact q
      · have e' := isA q
        subst e'
        rw [hK q] at e
        cases e)
    have hM : Mod K mg (hidT s₁.heap H) := ⟨hKb, nsK hns, ⟨mb, nsK hb, hbb⟩, let ⟨mc, h1, h2⟩ := hlim; ⟨mc, nsK h1, h2⟩⟩
    have e0 : Env0 P w K mg (hidT s₁.heap H) callerA [] s₁ H := ⟨rfl, hM, fun b o e => of_hidT e, Nat.le_of_eq (hidT_size _ _), trivial, fun b hb => absurd (show b ∈ ([] : List Addr) from hb) (by simp), hok, .of_eq hg⟩
    refine codeAny_mono ((F _ hKb (nsK hns)).run callerA [] s₁ H ⟨[.ref a], []⟩ [.ref a] [.ref a] _ _ rfl hr e0 (hbind s₁ (.ref a)) (.cons rfl .nil) (hsp H hO hS)) fun r s' h => ?_
    cases r with
    | error e =>
      obtain ⟨_, _, _, _, _, _, _, _, _, _, _, _, z⟩ := h
      exact z.elim
    | ok fl =>
      cases fl with
      | next => exact False.elim h
      | brk => exact False.elim h
      | cont => exact False.elim h
      | ret u =>
        obtain ⟨v, H', os, bare, un, hok', r', q⟩ := h
        have q' : v = .bl true := q
        subst q'
        obtain rfl : u = Value.bool true := r'
        refine ⟨rfl, OldK.of_keep fun b o e => ?_, os, bare⟩
        cases q : H b with
        | none => exact un.keep b o e q (by intro z; exact absurd (show b ∈ ([] : List Addr) from z) (by simp)) (by simp)
        | some u =>
          rcases hO b with z | ⟨ob, xs, z⟩
          · rw [q] at z; cases z
          · have z2 := un.frzs b ob _ z
            obtain ⟨e1, _⟩ := hok b _ z
            obtain ⟨e2, _⟩ := hok' b _ z2
            rw [e] at e1; cases e1
            exact e2
  cases hk : K.lookup a with
  | some o =>
    have e := KX a o hk
    rw [ha] at e
    cases e
    refine core (fun _ => none) (fun _ => .inl rfl) (.inr ⟨_, vs.toArray, _, hk, rfl, rfl, rfl, by rw [List.size_toArray, lenV]; exact hl, by simpa using rv⟩) (fun b u z => by have z' : (none : Option HO) = some u := z; cases z') (fun b z => absurd rfl z) fun z => absurd rfl z
  | none =>
    refine core (fun b => if b = a then some (.frz { cls := .type "list", data := .seq vs.toArray } (.lst (ns.map V.int))) else none) (fun b => ?_) (.inl (.inr ⟨{ cls := .type "list", data := .seq vs.toArray }, if_pos rfl⟩)) (fun b u z => ?_) (fun b z => ?_) fun _ => hk
    · by_cases hb : b = a
      · exact .inr ⟨_, _, if_pos hb⟩
      · exact .inl (if_neg hb)
    · by_cases hb : b = a
      · have z' := (if_pos hb).symm.trans z
        cases z'
        subst hb
        exact ⟨ha, by rw [List.length_map]; exact hl, vs, _, rv, ha⟩
      · have z' := (if_neg hb).symm.trans z
        cases z'
    · by_cases hb : b = a
      · exact hb
      · exact absurd (if_neg hb) z
/-- the plain law: F is True at every script -/
def PlainLaw (n : Nat) (F : FS) : Prop := ∀ ns : List Int, ns.length ≤ n → ∃ L', F [.rol (ns.map .int)] [] = .ok (.bl true) L'
theorem ints_vr {g : Gx} {ρ : List Addr} {H : Hp} : ∀ ns : List Int, VRs g ρ H (ns.map .int) (ns.map V.int)
  | [] => .nil
  | n :: ns => .cons (.int n) (ints_vr ns)
theorem plain_sp {n : Nat} {F : FS} {K : PySem.W.Frag} {cm : Nat → Addr} (h : PlainLaw n F) (H : Hp) (a : Addr) (ns : List Int) (hn : ns.length ≤ n) (hO : Only H) (hS : SqL K H a (ns.map V.int)) : spF w K cm 1 F [.ref a] H (fun v _ => v = .bl true) fun _ _ _ => False := by
  obtain ⟨L', e⟩ := h ns hn
  have ro : RoL K H a (ns.map V.int) := by
    rcases hS with (h | ⟨o, h⟩) | h
    · rcases hO a with z | ⟨ob, xs, z⟩
      · rw [z] at h; cases h
      · rw [z] at h; cases h
    · exact .inl ⟨o, h⟩
    · exact .inr (.inr h)
  refine ⟨rfl, fun _ => none, [], [], [.rol (ns.map .int)], ⟨rfl, List.nodup_nil, fun n o a e => by simp at e, fun n a e => by simp at e, fun a u e => by cases e⟩, .cons (.rol ro (ints_vr ns)) .nil, ?_⟩
  rw [e]
  intro v ρ' H' _ _ _ r
  cases r
  rfl
theorem end_ok {l : PySem.W.OpenLaw} {n k : Nat} {q : Program} {loose : List Str} {XP : (Str → Option Value) → Heap → Prop} {YP : World → Heap → Prop} {d : DefRec} {x : Str} {Fl : FS}
    (hn : l.most = some n) (hn2 : n ≤ sizeLine) (hdf : d.params.defaults = []) (hr : Room k callerA)
    (F : ∀ (w : World) (mg : Str → Option Value) (fa : Addr) (h : Heap), YP w h → h.Ns mainGlobals mg → mg d.name = some (.ref fa) →
      ∃ (K : PySem.W.Frag) (cm : Nat → Addr) (fd : FuncData), K.In h ∧ (∀ (s : Shared) (u : Value), BindsTo s fd ⟨[u], []⟩ [(x, u)]) ∧
        ∀ base : Heap, K.In base → base.Ns mainGlobals mg → FnG l.prog w K mg base k fa fd [x] (spF w K cm 1 Fl))
    (plain : PlainLaw n Fl) :
    PySem.W.WalkO q loose XP YP l.row.toRowW d [] (fun f vs => PySem.call f vs) := by
  refine Att.attach_call hn hdf fun w s₀ s₁ mg mb fa o pm cd doc a vs ns G Y ho hd hcd hmg hobj hints hlen hg => ?_
  obtain ⟨K, cm, fd, KX, hb, hF⟩ := F w mg fa _ Y G.T.g hmg
  exact law_callG KX G.T.g G.T.b G.T.builtins G.T.nolimit hg hobj hints (Nat.le_trans hlen hn2) hr hF hb (fun H hO hS => plain_sp plain H a ns hlen hO hS)
end Tw
end

section
set_option Elab.async false
set_option linter.all false
set_option maxRecDepth 100000
set_option maxHeartbeats 1000000
/-! Tw, part Q: a choice of places (how keywords are put in order); facts of the head. -/
namespace Tw
open PySem PySem.Spec L2
variable {g : Gx} {ρ : List Addr} {H : Hp}
def pick {α : Type} (is : List Nat) (l : List α) : List α := is.filterMap fun i => l[i]?
theorem Vals.tw_get : ∀ {vs : List V} {us : List Value}, Vals vs us → ∀ i : Nat, (vs[i]? = none ∧ us[i]? = none) ∨ ∃ v u, vs[i]? = some v ∧ us[i]? = some u ∧ RelV v u
  | _, _, .nil, i => .inl ⟨by simp, by simp⟩
  | _, _, .cons r t, 0 => .inr ⟨_, _, rfl, rfl, r⟩
  | _, _, .cons r t, i + 1 => by simpa using Vals.tw_get t i
theorem Vals.tw_pick {vs : List V} {us : List Value} (r : Vals vs us) : ∀ is : List Nat, Vals (pick is vs) (pick is us)
  | [] => .nil
  | i :: is => by
    unfold pick
    rcases Vals.tw_get r i with ⟨h1, h2⟩ | ⟨v, u, h1, h2, h3⟩
    · rw [List.filterMap_cons_none h1, List.filterMap_cons_none h2]; exact Vals.tw_pick r is
    · rw [List.filterMap_cons_some h1, List.filterMap_cons_some h2]; exact .cons h3 (Vals.tw_pick r is)
theorem VRs.look {ds : List D} {vs : List V} (r : VRs g ρ H ds vs) (i : Nat) : (ds[i]? = none ∧ vs[i]? = none) ∨ ∃ d v, ds[i]? = some d ∧ vs[i]? = some v ∧ VR g ρ H d v := by
  cases h : ds[i]? with
  | some d => obtain ⟨v, h1, h2⟩ := r.get h; exact .inr ⟨d, v, rfl, h1, h2⟩
  | none =>
    refine .inl ⟨rfl, ?_⟩
    rw [List.getElem?_eq_none_iff] at h ⊢
    rw [← r.length]; exact h
theorem VRs.pick {ds : List D} {vs : List V} (r : VRs g ρ H ds vs) : ∀ is : List Nat, VRs g ρ H (Tw.pick is ds) (Tw.pick is vs)
  | [] => .nil
  | i :: is => by
    unfold Tw.pick
    rcases r.look i with ⟨h1, h2⟩ | ⟨d, v, h1, h2, h3⟩
    · rw [List.filterMap_cons_none h1, List.filterMap_cons_none h2]; exact VRs.pick r is
    · rw [List.filterMap_cons_some h1, List.filterMap_cons_some h2]; exact .cons h3 (VRs.pick r is)
/-- how the keywords ks bind, the keyword-only parameters ms lacking, in the order is -/
theorem kb_mk {K : PySem.W.Frag} {x qual : Str} {params : Arguments} {body : List Stmt} {scope : Scope} {kws : List (Str × V)} {f : Addr} {fd : FuncData} {ps : List Str} (F : FunD K x qual params body scope [] kws f fd) (n : Nat) (ks : List Str) (ms : List (Str × V)) (is : List Nat) (mD : List D) (hmD : ∀ g ρ H, VRs g ρ H mD (ms.map (·.2))) (hk : kws ≠ []) (hms : ∀ q ∈ ms, q ∈ kws)
    (h : ∀ (D : Addr) (doc pm : Value) (an : Option Addr) (cdv ct : Value) (us mv ws : List Value), us.length = n → mv.length = ms.length → ws.length = ks.length →
      KwChain D ((ms.map (·.1)).zip mv) (bindArgs (PySem.W.fnOf x qual params body scope .none (.ref D) doc pm an cdv ct) ⟨us, ks.zip ws⟩) (ps.zip (pick is (us ++ (mv ++ ws))))) :
    ∃ gg gV, KBn K fd ps n ks gg gV ∧ ∀ g ρ H ds vs es zs, VRs g ρ H ds vs → VRs g ρ H es zs → VRs g ρ H (pick is (ds ++ (mD ++ es))) (gV vs zs) := by
  obtain ⟨mv, hb⟩ := FunD.kbinds0 F n ks ms (fun us mv ws => pick is (us ++ (mv ++ ws))) hk hms (fun r1 r2 r3 => Vals.tw_pick (r1.append (r2.append r3)) is) h
  exact ⟨_, _, hb, fun g ρ H ds vs es zs r1 r2 => (r1.append ((hmD g ρ H).append r2)).pick is⟩
/-- a tuple of the written part -/
theorem tup_k {K : PySem.W.Frag} {cm : Nat → Addr} {a : Addr} {dd : Option Addr} {its : Array Value} {n : Nat} {sl : Array (Option Value)} {ds : List D} {vs : List V} (l : K.lookup a = some ⟨.type "tuple", dd, .seq its n, sl⟩) (hz : its.size ≤ sizeLine) (r : Vals vs its.toList) (h : ∀ fx ρ H, VRs ⟨K, cm, fx, w⟩ ρ H ds vs) (fx : Hp) (ρ : List Addr) (H : Hp) : VR ⟨K, cm, fx, w⟩ ρ H (.tup ds) (.ref a) :=
  .tup (.inr (.inr ⟨_, its, n, l, rfl, rfl, hz, r⟩)) (h fx ρ H)
end Tw
end

section
set_option Elab.async false
set_option linter.all false
set_option maxRecDepth 100000
set_option maxHeartbeats 1000000
/-! Tw, part R: a def run in its own small heap: only what its arguments reach, anew numbered. -/
namespace Tw
open PySem PySem.Spec L2
variable {g g' : Gx} {ρ ρ' : List Addr} {H H' : Hp} {L L' : List O}

/-! ### renumbering -/
mutual
def mapR (φ : Nat → Option Nat) : D → Option D
  | .non => some .non
  | .bl b => some (.bl b)
  | .int i => some (.int i)
  | .str x => some (.str x)
  | .tup xs => (mapRs φ xs).map .tup
  | .ref n => (φ n).map .ref
  | .cls c => some (.cls c)
  | .ty n => some (.ty n)
  | .rol xs => (mapRs φ xs).map .rol
def mapRs (φ : Nat → Option Nat) : List D → Option (List D)
  | [] => some []
  | d :: ds => match mapR φ d, mapRs φ ds with
    | some e, some es => some (e :: es)
    | _, _ => none
end
def mapF (φ : Nat → Option Nat) : List (Str × D) → Option (List (Str × D))
  | [] => some []
  | (f, d) :: r => match mapR φ d, mapF φ r with
    | some e, some es => some ((f, e) :: es)
    | _, _ => none
def mapK (φ : Nat → Option Nat) : List (Key × D) → Option (List (Key × D))
  | [] => some []
  | (f, d) :: r => match mapR φ d, mapK φ r with
    | some e, some es => some ((f, e) :: es)
    | _, _ => none
def mapN (φ : Nat → Option Nat) : List (D × D) → Option (List (D × D))
  | [] => some []
  | (f, d) :: r => match mapR φ d, mapN φ r with
    | some e, some es => some ((f, e) :: es)
    | _, _ => none
def mapO (φ : Nat → Option Nat) : O → Option O
  | .lst xs => (mapRs φ xs).map .lst
  | .ins c fs => (mapF φ fs).map (.ins c)
  | .dic lk ks => (mapK φ ks).map (.dic lk)
  | .nd lk ks => (mapN φ ks).map (.nd lk)
def Rn (φ : Nat → Option Nat) (ρ ρ' : List Addr) : Prop := ∀ n m, φ n = some m → ∀ a, ρ[n]? = some a → ρ'[m]? = some a
mutual
theorem VR.map {φ : Nat → Option Nat} (h : Rn φ ρ ρ') (hK : g'.K = g.K) (hc : g'.cm = g.cm) : ∀ {d : D} {v : V} {e : D}, VR g ρ H d v → mapR φ d = some e → VR g' ρ' H e v
  | _, _, _, .non, q => by cases q; exact .non
  | _, _, _, .bl b, q => by cases q; exact .bl b
  | _, _, _, .int i, q => by cases q; exact .int i
  | _, _, _, .str x, q => by cases q; exact .str x
  | _, _, _, .cls c, q => by cases q; rw [← hc]; exact .cls c
  | _, _, _, .ty c, q => by cases q; exact .ty c
  | _, _, _, .ref (n := n) e, q => by
    unfold mapR at q
    cases h1 : φ n with
    | none => rw [h1] at q; cases q
    | some m => rw [h1] at q; cases q; exact .ref (h n m h1 _ e)
  | _, _, _, .tup (ds := ds) s r, q => by
    unfold mapR at q
    cases h1 : mapRs φ ds with
    | none => rw [h1] at q; cases q
    | some es => rw [h1] at q; cases q; exact .tup (by rw [hK]; exact s) (VRs.map h hK hc r h1)
  | _, _, _, .rol (ds := ds) s r, q => by
    unfold mapR at q
    cases h1 : mapRs φ ds with
    | none => rw [h1] at q; cases q
    | some es => rw [h1] at q; cases q; exact .rol (by rw [hK]; exact s) (VRs.map h hK hc r h1)
theorem VRs.map {φ : Nat → Option Nat} (h : Rn φ ρ ρ') (hK : g'.K = g.K) (hc : g'.cm = g.cm) : ∀ {ds : List D} {vs : List V} {es : List D}, VRs g ρ H ds vs → mapRs φ ds = some es → VRs g' ρ' H es vs
  | _, _, _, .nil, q => by cases q; exact .nil
  | _, _, _, .cons (d := d) (ds := ds) r t, q => by
    unfold mapRs at q
    split at q
    · rename_i e es h1 h2
      cases q
      exact .cons (VR.map h hK hc r h1) (VRs.map h hK hc t h2)
    · cases q
end
theorem FR.map {φ : Nat → Option Nat} (h : Rn φ ρ ρ') (hK : g'.K = g.K) (hc : g'.cm = g.cm) : ∀ {ds : List (Str × D)} {vs : List (Str × V)} {es : List (Str × D)}, FR g ρ H ds vs → mapF φ ds = some es → FR g' ρ' H es vs
  | _, _, _, .nil, q => by cases q; exact .nil
  | _, _, _, .cons r t, q => by
    unfold mapF at q
    split at q
    · rename_i e es h1 h2
      cases q
      exact .cons (VR.map h hK hc r h1) (FR.map h hK hc t h2)
    · cases q
theorem KR.map {φ : Nat → Option Nat} (h : Rn φ ρ ρ') (hK : g'.K = g.K) (hc : g'.cm = g.cm) : ∀ {ds : List (Key × D)} {vs : List (Key × V)} {es : List (Key × D)}, KR g ρ H ds vs → mapK φ ds = some es → KR g' ρ' H es vs
  | _, _, _, .nil, q => by cases q; exact .nil
  | _, _, _, .cons r t, q => by
    unfold mapK at q
    split at q
    · rename_i e es h1 h2
      cases q
      exact .cons (VR.map h hK hc r h1) (KR.map h hK hc t h2)
    · cases q
mutual
theorem nk_map {φ : Nat → Option Nat} : ∀ (d : D) (k : NestedKey), nkD d = some k → mapR φ d = some d
  | .non, _, _ => rfl
  | .bl _, _, _ => rfl
  | .int _, _, _ => rfl
  | .str _, _, _ => rfl
  | .tup ds, k, h => by
    unfold nkD at h
    cases h1 : nkDs ds with
    | none => rw [h1] at h; cases h
    | some ks =>
      unfold mapR
      rw [nks_map ds ks h1]
      rfl
  | .rol _, _, h => by cases h
  | .ref _, _, h => by cases h
  | .cls _, _, h => by cases h
  | .ty _, _, h => by cases h
theorem nks_map {φ : Nat → Option Nat} : ∀ (ds : List D) (ks : List NestedKey), nkDs ds = some ks → mapRs φ ds = some ds
  | [], _, _ => rfl
  | d :: ds, ks, h => by
    unfold nkDs at h
    split at h
    · rename_i k ks' h1 h2
      unfold mapRs
      rw [nk_map d k h1, nks_map ds ks' h2]
    · cases h
end
theorem NR.map {φ : Nat → Option Nat} (h : Rn φ ρ ρ') (hK : g'.K = g.K) (hc : g'.cm = g.cm) : ∀ {ds : List (D × D)} {vs : List (NestedKey × Addr × V)} {es : List (D × D)}, NR g ρ H ds vs → mapN φ ds = some es → NR g' ρ' H es vs
  | _, _, _, .nil, q => by cases q; exact .nil
  | _, _, _, .cons a b r r2 t, q => by
    unfold mapN at q
    split at q
    · rename_i e es h1 h2
      cases q
      exact .cons a b (VR.map h hK hc r (nk_map _ _ a)) (VR.map h hK hc r2 h1) (NR.map h hK hc t h2)
    · cases q
theorem or_map {φ : Nat → Option Nat} (h : Rn φ ρ ρ') (hK : g'.K = g.K) (hc : g'.cm = g.cm) (hw : g'.w = g.w) {a : Addr} {o o' : O} (r : OR g ρ H a o) (q : mapO φ o = some o') : OR g' ρ' H a o' := by
  unfold mapO at q
  split at q
  · rename_i xs
    cases h1 : mapRs φ xs with
    | none => rw [h1] at q; cases q
    | some ys =>
      rw [h1] at q; cases q
      obtain ⟨vs, e, r⟩ := r
      exact ⟨vs, e, r.map h hK hc h1⟩
  · rename_i c fs
    cases h1 : mapF φ fs with
    | none => rw [h1] at q; cases q
    | some ys =>
      rw [h1] at q; cases q
      obtain ⟨dx, vs, e, r⟩ := r
      exact ⟨dx, vs, by rw [hc]; exact e, r.map h hK hc h1⟩
  · rename_i lk ks
    cases h1 : mapK φ ks with
    | none => rw [h1] at q; cases q
    | some ys =>
      rw [h1] at q; cases q
      cases lk with
      | false => obtain ⟨vs, e, r⟩ := r; exact ⟨vs, e, r.map h hK hc h1⟩
      | true => obtain ⟨vs, o, e, r⟩ := r; exact ⟨vs, o, e, r.map h hK hc h1⟩
  · rename_i lk ks
    cases h1 : mapN φ ks with
    | none => rw [h1] at q; cases q
    | some ys =>
      rw [h1] at q; cases q
      cases lk with
      | false => obtain ⟨vs, e, r⟩ := r; exact ⟨vs, by rw [hw]; exact e, r.map h hK hc h1⟩
      | true => obtain ⟨vs, o, e, r⟩ := r; exact ⟨vs, o, by rw [hw]; exact e, r.map h hK hc h1⟩
/-! ### what is reached -/
mutual
def refsD : D → List Nat
  | .ref n => [n]
  | .tup xs => refsDs xs
  | .rol xs => refsDs xs
  | .non => [] | .bl _ => [] | .int _ => [] | .str _ => [] | .cls _ => [] | .ty _ => []
def refsDs : List D → List Nat
  | [] => []
  | d :: ds => refsD d ++ refsDs ds
end
def refsO : O → List Nat
  | .lst xs => refsDs xs
  | .ins _ fs => refsDs (fs.map (·.2))
  | .dic _ ks => refsDs (ks.map (·.2))
  | .nd _ ks => refsDs (ks.map (·.2))
def reach (L : List O) : Nat → List Nat → List Nat → List Nat
  | 0, _, seen => seen
  | _ + 1, [], seen => seen
  | k + 1, n :: todo, seen => if seen.contains n = true then reach L k todo seen else match L[n]? with
    | some o => reach L k (refsO o ++ todo) (seen ++ [n])
    | none => seen
def posN : List Nat → Nat → Option Nat
  | [], _ => none
  | m :: ns, n => if m = n then some 0 else (posN ns n).map (· + 1)
theorem posN_get : ∀ {ns : List Nat} {n j : Nat}, posN ns n = some j → ns[j]? = some n
  | [], _, _, h => by cases h
  | m :: ns, n, j, h => by
    unfold posN at h
    split at h
    · rename_i e; cases h; simp [e]
    · cases h1 : posN ns n with
      | none => rw [h1] at h; cases h
      | some i => rw [h1] at h; cases h; simpa using posN_get h1
def setAll : List Nat → List O → List O → List O
  | n :: ns, o :: os, L => setAll ns os (L.set n o)
  | _, _, L => L
theorem setAll_len : ∀ (ns : List Nat) (os L : List O), (setAll ns os L).length = L.length
  | [], _, _ => rfl
  | _ :: _, [], _ => rfl
  | n :: ns, o :: os, L => by unfold setAll; rw [setAll_len ns os]; simp
theorem setAll_out : ∀ (ns : List Nat) (os L : List O) (i : Nat), i ∉ ns → (setAll ns os L)[i]? = L[i]?
  | [], _, _, _, _ => rfl
  | _ :: _, [], _, _, _ => rfl
  | n :: ns, o :: os, L, i, h => by
    unfold setAll
    rw [setAll_out ns os _ i (fun z => h (List.mem_cons_of_mem _ z)), List.getElem?_set_ne (fun z => h (by rw [← z]; exact List.mem_cons_self))]
theorem setAll_in : ∀ (ns : List Nat) (os L : List O) (j i : Nat), ns.Nodup → ns[j]? = some i → i < L.length → j < os.length → (setAll ns os L)[i]? = os[j]?
  | [], _, _, j, i, _, h, _, _ => by simp at h
  | _ :: _, [], _, j, i, _, _, _, h => by simp at h
  | n :: ns, o :: os, L, 0, i, nd, h, hl, _ => by
    simp at h
    subst h
    unfold setAll
    rw [setAll_out ns os _ n (List.nodup_cons.mp nd).1, List.getElem?_set_self hl]
    rfl
  | n :: ns, o :: os, L, j + 1, i, nd, h, hl, hj => by
    unfold setAll
    rw [setAll_in ns os _ j i (List.nodup_cons.mp nd).2 (by simpa using h) (by simpa using hl) (by simpa using hj)]
    simp
def psi (ns : List Nat) (N : Nat) (j : Nat) : Option Nat := if j < ns.length then ns[j]? else some (N + (j - ns.length))
def small (n : Nat) (ns : List Nat) : Bool := ns.all fun m => decide (m < n)
def lfuel : Nat := 100000
def lback (ns : List Nat) (L L2 : List O) (rs : List Nat) : List O := if small L.length rs = true ∧ ((L2.take ns.length).all fun o => small L.length (refsO o)) = true then setAll ns L2 L else setAll ns L2 L ++ L2.drop ns.length
def lrunAt (ns : List Nat) (F : FS) : FS := fun ds L => match mapRs (posN ns) ds, optAll (fun n => L[n]?) ns with
  | some es, some os => match optAll (mapO (posN ns)) os with
    | some os' => if ns.Nodup then (match F es os' with
      | .ok d L' => match mapR (psi ns L.length) d, optAll (mapO (psi ns L.length)) L' with
        | some d', some L2 => .ok d' (lback ns L L2 (refsD d'))
        | _, _ => .bad
      | .ex c fs L' => match mapF (psi ns L.length) fs, optAll (mapO (psi ns L.length)) L' with
        | some fs', some L2 => .ex c fs' (lback ns L L2 (refsDs (fs'.map (·.2))))
        | _, _ => .bad
      | .bad => .bad) else .bad
    | none => .bad
  | _, _ => .bad
def lrun (F : FS) : FS := fun ds L => lrunAt (reach L lfuel (refsDs ds) []) F ds L
theorem optAll_len {α β : Type} {f : α → Option β} : ∀ {l : List α} {r : List β}, optAll f l = some r → l.length = r.length
  | [], _, h => by cases h; rfl
  | x :: xs, r, h => by
    unfold optAll at h
    split at h
    · rename_i y ys h1 h2
      cases h
      simp [optAll_len h2]
    · cases h
theorem optAll_get {α β : Type} {f : α → Option β} : ∀ {l : List α} {r : List β} {i : Nat} {x : α}, optAll f l = some r → l[i]? = some x → ∃ y, r[i]? = some y ∧ f x = some y
  | [], _, i, x, h, e => by simp at e
  | z :: zs, r, i, x, h, e => by
    unfold optAll at h
    split at h
    · rename_i y ys h1 h2
      cases h
      cases i with
      | zero => simp at e; subst e; exact ⟨y, rfl, h1⟩
      | succ i =>
        obtain ⟨w, a, b⟩ := optAll_get h2 (show zs[i]? = some x by simpa using e)
        exact ⟨w, by simpa using a, b⟩
    · cases h
theorem optAll_getR {α β : Type} {f : α → Option β} {l : List α} {r : List β} {i : Nat} {y : β} (h : optAll f l = some r) (e : r[i]? = some y) : ∃ x, l[i]? = some x ∧ f x = some y := by
  obtain ⟨hi, _⟩ := List.getElem?_eq_some_iff.mp e
  rw [← optAll_len h] at hi
  obtain ⟨z, a, b⟩ := optAll_get h (show l[i]? = some l[i] by simp [hi])
  rw [a] at e
  cases e
  exact ⟨_, by simp [hi], b⟩

/-! ### it is sound -/
mutual
theorem VR.shrink {x : List Addr} : ∀ {d : D} {v : V}, VR g (ρ ++ x) H d v → (∀ n ∈ refsD d, n < ρ.length) → VR g ρ H d v
  | _, _, .non, _ => .non
  | _, _, .bl b, _ => .bl b
  | _, _, .int i, _ => .int i
  | _, _, .str x, _ => .str x
  | _, _, .cls c, _ => .cls c
  | _, _, .ty c, _ => .ty c
  | _, _, .ref e, h => by
    have hn := h _ List.mem_cons_self
    rw [List.getElem?_append_left hn] at e
    exact .ref e
  | _, _, .tup s r, h => .tup s (VRs.shrink r h)
  | _, _, .rol s r, h => .rol s (VRs.shrink r h)
theorem VRs.shrink {x : List Addr} : ∀ {ds : List D} {vs : List V}, VRs g (ρ ++ x) H ds vs → (∀ n ∈ refsDs ds, n < ρ.length) → VRs g ρ H ds vs
  | _, _, .nil, _ => .nil
  | _, _, .cons r t, h => .cons (VR.shrink r fun n hn => h n (List.mem_append_left _ hn)) (VRs.shrink t fun n hn => h n (List.mem_append_right _ hn))
end
theorem FR.shrink {x : List Addr} : ∀ {fs : List (Str × D)} {vs : List (Str × V)}, FR g (ρ ++ x) H fs vs → (∀ n ∈ refsDs (fs.map (·.2)), n < ρ.length) → FR g ρ H fs vs
  | _, _, .nil, _ => .nil
  | _, _, .cons r t, h => .cons (VR.shrink r fun n hn => h n (List.mem_append_left _ hn)) (FR.shrink t fun n hn => h n (List.mem_append_right _ hn))
theorem KR.shrink {x : List Addr} : ∀ {fs : List (Key × D)} {vs : List (Key × V)}, KR g (ρ ++ x) H fs vs → (∀ n ∈ refsDs (fs.map (·.2)), n < ρ.length) → KR g ρ H fs vs
  | _, _, .nil, _ => .nil
  | _, _, .cons r t, h => .cons (VR.shrink r fun n hn => h n (List.mem_append_left _ hn)) (KR.shrink t fun n hn => h n (List.mem_append_right _ hn))
mutual
theorem nk_refs : ∀ (d : D) (k : NestedKey), nkD d = some k → refsD d = []
  | .non, _, _ => rfl
  | .bl _, _, _ => rfl
  | .int _, _, _ => rfl
  | .str _, _, _ => rfl
  | .tup ds, k, h => by
    unfold nkD at h
    cases h1 : nkDs ds with
    | none => rw [h1] at h; cases h
    | some ks => exact nks_refs ds ks h1
  | .rol _, _, h => by cases h
  | .ref _, _, h => by cases h
  | .cls _, _, h => by cases h
  | .ty _, _, h => by cases h
theorem nks_refs : ∀ (ds : List D) (ks : List NestedKey), nkDs ds = some ks → refsDs ds = []
  | [], _, _ => rfl
  | d :: ds, ks, h => by
    unfold nkDs at h
    split at h
    · rename_i k ks' h1 h2
      show refsD d ++ refsDs ds = []
      rw [nk_refs d k h1, nks_refs ds ks' h2]
      rfl
    · cases h
end
theorem NR.shrink {x : List Addr} : ∀ {fs : List (D × D)} {vs : List (NestedKey × Addr × V)}, NR g (ρ ++ x) H fs vs → (∀ n ∈ refsDs (fs.map (·.2)), n < ρ.length) → NR g ρ H fs vs
  | _, _, .nil, _ => .nil
  | _, _, .cons a b r r2 t, h => .cons a b (VR.shrink r fun n hn => by rw [nk_refs _ _ a] at hn; cases hn) (VR.shrink r2 fun n hn => h n (List.mem_append_left _ hn)) (NR.shrink t fun n hn => h n (List.mem_append_right _ hn))
theorem or_shrink {x : List Addr} {a : Addr} {o : O} (r : OR g (ρ ++ x) H a o) (h : ∀ n ∈ refsO o, n < ρ.length) : OR g ρ H a o := by
  cases o with
  | lst ds => obtain ⟨vs, e, r⟩ := r; exact ⟨vs, e, r.shrink h⟩
  | ins c fs => obtain ⟨dx, vs, e, r⟩ := r; exact ⟨dx, vs, e, r.shrink h⟩
  | dic lk ks =>
    cases lk with
    | false => obtain ⟨vs, e, r⟩ := r; exact ⟨vs, e, r.shrink h⟩
    | true => obtain ⟨vs, o, e, r⟩ := r; exact ⟨vs, o, e, r.shrink h⟩
  | nd lk ks =>
    cases lk with
    | false => obtain ⟨vs, e, r⟩ := r; exact ⟨vs, e, r.shrink h⟩
    | true => obtain ⟨vs, o, e, r⟩ := r; exact ⟨vs, o, e, r.shrink h⟩
theorem small_lt {n : Nat} {ns : List Nat} (h : small n ns = true) : ∀ m ∈ ns, m < n := fun m hm => of_decide_eq_true (List.all_eq_true.mp h m hm)
/-- what the small heap's places are in the large one -/
theorem lback_hr {w : World} {K : PySem.W.Frag} {cm : Nat → Addr} {fx fx' : Hp} {ns : List Nat} {ρ ρ' ρ0 : List Addr} {L L' L2 : List O} {H H' : Hp} {rs : List Nat} (nd : ns.Nodup) (hh : HR ⟨K, cm, fx, w⟩ ρ L H) (t : TP H H')
    (h0 : ∀ (j n : Nat), ns[j]? = some n → ∃ a, ρ[n]? = some a ∧ ρ0[j]? = some a) (l0 : ρ0.length = ns.length) (hfx : ∀ (n : Nat) (a : Addr) (u : HO), ρ[n]? = some a → n ∉ ns → H a = some u → fx' a = some u) (hfx2 : ∀ (a : Addr) (u : HO), fx a = some u → fx' a = some u)
    (p : ρ0 <+: ρ') (h2 : HR ⟨K, cm, fx', w⟩ ρ' L' H') (e2 : optAll (mapO (psi ns L.length)) L' = some L2) :
    ∃ ρ2, ρ <+: ρ2 ∧ HR ⟨K, cm, fx, w⟩ ρ2 (lback ns L L2 rs) H' ∧ ∀ d d' v, mapR (psi ns L.length) d = some d' → (∀ n ∈ refsD d', n ∈ rs) → VR ⟨K, cm, fx', w⟩ ρ' H' d v → VR ⟨K, cm, fx, w⟩ ρ2 H' d' v := by
  have lp : ns.length ≤ ρ'.length := by rw [← l0]; exact p.length_le
  have l2 : L2.length = ρ'.length := by rw [← optAll_len e2, h2.len]
  have inb : ∀ (j n : Nat), ns[j]? = some n → n < L.length := fun j n e => by
    obtain ⟨a, e1, _⟩ := h0 j n e
    obtain ⟨q, _⟩ := List.getElem?_eq_some_iff.mp e1
    rw [← hh.len]; exact q
  -- the new places are no old ones
  have fresh : ∀ (k : Nat) (a : Addr), ns.length ≤ k → ρ'[k]? = some a → ∀ n : Nat, ρ[n]? ≠ some a := by
    intro k a hk ek n en
    by_cases hn : n ∈ ns
    · obtain ⟨j, hj⟩ := List.getElem?_of_mem hn
      obtain ⟨b, e1, e3⟩ := h0 j n hj
      rw [en] at e1; cases e1
      have := nodup_get h2.nd (pre_get p e3) ek
      have hjl := (List.getElem?_eq_some_iff.mp hj).1
      omega
    · obtain ⟨o, eo⟩ := hh.there en
      obtain ⟨u, eu⟩ := (hh.ob n o a eo en).some
      have := hfx n a u en hn eu
      have z := h2.nfx k a ek
      rw [show (⟨K, cm, fx', w⟩ : Gx).fx a = fx' a from rfl, this] at z
      cases z
  have keepAll : ∀ ρ2 : List Addr, ρ2 = ρ ++ ρ'.drop ns.length → Rn (psi ns L.length) ρ' ρ2 := by
    rintro ρ2 rfl j m hm a ea
    unfold psi at hm
    split at hm
    · obtain ⟨b, e1, e3⟩ := h0 j m hm
      have := pre_get p e3
      rw [ea] at this; cases this
      rw [List.getElem?_append_left (List.getElem?_eq_some_iff.mp e1).1]
      exact e1
    · rename_i hj
      cases hm
      rw [List.getElem?_append_right (by rw [hh.len]; omega), List.getElem?_drop]
      rw [show ns.length + (L.length + (j - ns.length) - ρ.length) = j by rw [hh.len]; omega]
      exact ea
  -- the heap with all new places
  have full : HR ⟨K, cm, fx, w⟩ (ρ ++ ρ'.drop ns.length) (setAll ns L2 L ++ L2.drop ns.length) H' := by
    have rn := keepAll _ rfl
    refine ⟨?_, ?_, ?_, ?_, fun a u e => h2.fxs a u (hfx2 a u e)⟩
    · rw [List.length_append, List.length_append, setAll_len, List.length_drop, List.length_drop, hh.len, l2]
    · rw [List.nodup_append]
      refine ⟨hh.nd, h2.nd.sublist (List.drop_sublist _ _), fun a ha b hb e => ?_⟩
      subst e
      obtain ⟨n, hn⟩ := List.getElem?_of_mem ha
      obtain ⟨k, hk⟩ := List.getElem?_of_mem hb
      rw [List.getElem?_drop] at hk
      exact fresh _ a (Nat.le_add_right _ _) hk n hn
    · intro n o a eo ea
      by_cases hn : n < ρ.length
      · rw [List.getElem?_append_left hn] at ea
        rw [List.getElem?_append_left (by rw [setAll_len, ← hh.len]; exact hn)] at eo
        by_cases hi : n ∈ ns
        · obtain ⟨j, hj⟩ := List.getElem?_of_mem hi
          have hjl := (List.getElem?_eq_some_iff.mp hj).1
          rw [setAll_in ns L2 L j n nd hj (inb j n hj) (by rw [l2]; omega)] at eo
          obtain ⟨o1, e3, e4⟩ := optAll_getR e2 eo
          obtain ⟨b, e5, e6⟩ := h0 j n hj
          rw [ea] at e5; cases e5
          exact or_map (g := ⟨K, cm, fx', w⟩) (g' := ⟨K, cm, fx, w⟩) rn rfl rfl rfl (h2.ob j o1 a e3 (pre_get p e6)) e4
        · rw [setAll_out ns L2 L n hi] at eo
          have ob := hh.ob n o a eo ea
          obtain ⟨u, eu⟩ := ob.some
          have e7 := h2.fxs a u (hfx n a u ea hi eu)
          exact ob.mono (List.prefix_append _ _) t (e7.trans eu.symm)
      · rw [List.getElem?_append_right (by omega), List.getElem?_drop] at ea
        rw [List.getElem?_append_right (by rw [setAll_len, ← hh.len]; omega), List.getElem?_drop, setAll_len] at eo
        rw [hh.len] at ea
        obtain ⟨o1, e3, e4⟩ := optAll_getR e2 eo
        exact or_map (g := ⟨K, cm, fx', w⟩) (g' := ⟨K, cm, fx, w⟩) rn rfl rfl rfl (h2.ob _ o1 a e3 ea) e4
    · intro n a ea
      by_cases hn : n < ρ.length
      · rw [List.getElem?_append_left hn] at ea
        exact hh.nfx n a ea
      · rw [List.getElem?_append_right (by omega), List.getElem?_drop] at ea
        have z := h2.nfx _ a ea
        cases hf : fx a with
        | none => exact hf
        | some u =>
          rw [show (⟨K, cm, fx', w⟩ : Gx).fx a = fx' a from rfl, hfx2 a u hf] at z
          cases z
  by_cases hs : small L.length rs = true ∧ ((L2.take ns.length).all fun o => small L.length (refsO o)) = true
  · -- nothing new is held
    obtain ⟨hs1, hs2⟩ := hs
    have fl := full
    refine ⟨ρ, List.prefix_refl _, ?_, fun d d' v e hr r => ?_⟩
    · unfold lback
      rw [if_pos ⟨hs1, hs2⟩]
      refine ⟨by rw [setAll_len, hh.len], hh.nd, fun n o a eo ea => ?_, hh.nfx, fun a u e => h2.fxs a u (hfx2 a u e)⟩
      have hn : n < ρ.length := (List.getElem?_eq_some_iff.mp ea).1
      by_cases hi : n ∈ ns
      · refine or_shrink (fl.ob n o a (by rw [List.getElem?_append_left (by rw [setAll_len, ← hh.len]; exact hn)]; exact eo) (by rw [List.getElem?_append_left hn]; exact ea)) fun k hk => ?_
        obtain ⟨j, hj⟩ := List.getElem?_of_mem hi
        have hjl := (List.getElem?_eq_some_iff.mp hj).1
        rw [setAll_in ns L2 L j n nd hj (inb j n hj) (by rw [l2]; omega)] at eo
        have hm : o ∈ L2.take ns.length := by
          have : (L2.take ns.length)[j]? = some o := by rw [List.getElem?_take_of_lt hjl]; exact eo
          exact List.mem_of_getElem? this
        rw [hh.len]
        exact small_lt (List.all_eq_true.mp hs2 o hm) k hk
      · rw [setAll_out ns L2 L n hi] at eo
        have ob := hh.ob n o a eo ea
        obtain ⟨u, eu⟩ := ob.some
        have e7 := h2.fxs a u (hfx n a u ea hi eu)
        exact ob.mono (List.prefix_refl _) t (e7.trans eu.symm)
    · refine (VR.map (g := ⟨K, cm, fx', w⟩) (g' := ⟨K, cm, fx, w⟩) (keepAll _ rfl) rfl rfl r e : VR ⟨K, cm, fx, w⟩ (ρ ++ ρ'.drop ns.length) H' d' v).shrink fun n hn => ?_
      rw [hh.len]
      exact small_lt hs1 n (hr n hn)
  · refine ⟨ρ ++ ρ'.drop ns.length, List.prefix_append _ _, ?_, fun d d' v e _ r => ?_⟩
    · unfold lback
      rw [if_neg hs]
      exact full
    · exact VR.map (g := ⟨K, cm, fx', w⟩) (g' := ⟨K, cm, fx, w⟩) (keepAll _ rfl) rfl rfl r e

theorem nodup_map_on {α β : Type} {f : α → β} : ∀ {l : List α}, l.Nodup → (∀ a ∈ l, ∀ b ∈ l, f a = f b → a = b) → (l.map f).Nodup
  | [], _, _ => List.nodup_nil
  | x :: xs, nd, h => by
    obtain ⟨h1, h2⟩ := List.nodup_cons.mp nd
    rw [List.map_cons, List.nodup_cons]
    refine ⟨fun z => ?_, nodup_map_on h2 fun a ha b hb => h a (List.mem_cons_of_mem _ ha) b (List.mem_cons_of_mem _ hb)⟩
    obtain ⟨y, hy, e⟩ := List.mem_map.mp z
    have := h x List.mem_cons_self y (List.mem_cons_of_mem _ hy) e.symm
    subst this
    exact h1 hy
theorem lrun_sp {w : World} {K : PySem.W.Frag} {cm : Nat → Addr} {n : Nat} {F : FS} {vs : List V} {H : Hp} {Q : VK} {E : XK} (h : spF w K cm n (lrun F) vs H Q E) : spF w K cm n F vs H Q E := by
  obtain ⟨hl, fx, ρ, L, ds, hh, r, q⟩ := h
  refine ⟨hl, ?_⟩
  unfold lrun at q
  generalize reach L lfuel (refsDs ds) [] = ns at q
  unfold lrunAt at q
  split at q
  · rename_i es os e1 e2
    split at q
    · rename_i os' e3
      split at q
      · rename_i nd
        have ex : ∀ (j k : Nat), ns[j]? = some k → ∃ a, ρ[k]? = some a ∧ (ns.map fun n => (ρ[n]?).getD 0)[j]? = some a := fun j k e => by
          obtain ⟨o, a1, a2⟩ := optAll_get e2 e
          obtain ⟨a, a3, _⟩ := hh.get a2
          exact ⟨a, a3, by rw [List.getElem?_map, e]; simp [a3]⟩
        have rn : Rn (posN ns) ρ (ns.map fun n => (ρ[n]?).getD 0) := fun n m hm a ea => by
          obtain ⟨b, b1, b2⟩ := ex m n (posN_get hm)
          rw [ea] at b1; cases b1
          exact b2
        have mem : ∀ (a : Addr), a ∈ (ns.map fun n => (ρ[n]?).getD 0) → ∃ n ∈ ns, ρ[n]? = some a := fun a ha => by
          obtain ⟨n, hn, e⟩ := List.mem_map.mp ha
          obtain ⟨j, hj⟩ := List.getElem?_of_mem hn
          obtain ⟨b, b1, _⟩ := ex j n hj
          rw [b1] at e
          exact ⟨n, hn, by rw [b1]; exact congrArg some e⟩
        generalize hρ0 : (ns.map fun n => (ρ[n]?).getD 0) = ρ0 at ex rn mem
        have l0 : ρ0.length = ns.length := by rw [← hρ0]; simp
        have nd0 : ρ0.Nodup := by
          rw [← hρ0]
          refine nodup_map_on nd fun a ha b hb e => ?_
          obtain ⟨i, hi⟩ := List.getElem?_of_mem ha
          obtain ⟨j, hj⟩ := List.getElem?_of_mem hb
          obtain ⟨x, x1, _⟩ := ex i a hi
          obtain ⟨y, y1, _⟩ := ex j b hj
          rw [x1, y1] at e
          have e' : x = y := e
          subst e'
          exact nodup_get hh.nd x1 y1
        let fx' : Hp := fun a => if a ∈ ρ0 then none else H a
        have hr0 : HR ⟨K, cm, fx', w⟩ ρ0 os' H := by
          refine ⟨by rw [l0, optAll_len e2, optAll_len e3], nd0, fun j o' a eo ea => ?_, fun j a ea => if_pos (List.mem_of_getElem? ea), fun a u e => ?_⟩
          · obtain ⟨o, a1, a2⟩ := optAll_getR e3 eo
            obtain ⟨k, a3, a4⟩ := optAll_getR e2 a1
            obtain ⟨b, b1, b2⟩ := ex j k a3
            rw [ea] at b2; cases b2
            exact or_map (g := ⟨K, cm, fx, w⟩) (g' := ⟨K, cm, fx', w⟩) rn rfl rfl rfl (hh.ob k o a a4 b1) a2
          · have e : fx' a = some u := e
            by_cases ha : a ∈ ρ0
            · rw [show fx' a = none from if_pos ha] at e; cases e
            · rw [show fx' a = H a from if_neg ha] at e; exact e
        have vr0 : VRs ⟨K, cm, fx', w⟩ ρ0 H es vs := VRs.map (g := ⟨K, cm, fx, w⟩) (g' := ⟨K, cm, fx', w⟩) rn rfl rfl r e1
        have hfx : ∀ (n : Nat) (a : Addr) (u : HO), ρ[n]? = some a → n ∉ ns → H a = some u → fx' a = some u := fun n a u ea hn hu => by
          have : a ∉ ρ0 := fun ha => by
            obtain ⟨m, hm, em⟩ := mem a ha
            exact hn (nodup_get hh.nd em ea ▸ hm)
          rw [show fx' a = H a from if_neg this]
          exact hu
        have hfx2 : ∀ (a : Addr) (u : HO), fx a = some u → fx' a = some u := fun a u e => by
          have : a ∉ ρ0 := fun ha => by
            obtain ⟨m, hm, em⟩ := mem a ha
            have z := hh.nfx m a em
            rw [show (⟨K, cm, fx, w⟩ : Gx).fx a = fx a from rfl, e] at z
            cases z
          rw [show fx' a = H a from if_neg this]
          exact hh.fxs a u e
        refine ⟨fx', ρ0, os', es, hr0, vr0, ?_⟩
        cases hF : F es os' with
        | ok d L' =>
          rw [hF] at q
          simp only at q
          split at q
          · rename_i d' L2 e4 e5
            intro v ρ' H' p t h2 rv
            obtain ⟨ρ2, p2, hr2, tr⟩ := lback_hr (rs := refsD d') nd hh t ex l0 hfx hfx2 p h2 e5
            exact q v ρ2 H' p2 t hr2 (tr d d' v e4 (fun n hn => hn) rv)
          · exact q.elim
        | ex c fs L' =>
          rw [hF] at q
          simp only at q
          split at q
          · rename_i fs' L2 e4 e5
            intro ρ' H' dx p t h2 rx
            obtain ⟨ρ2, p2, hr2, tr⟩ := lback_hr (rs := refsDs (fs'.map (·.2))) nd hh t ex l0 hfx hfx2 p h2 e5
            refine q ρ2 H' dx p2 t hr2 ?_
            have frm : ∀ {fs fs' : List (Str × D)} {vs : List (Str × V)}, mapF (psi ns L.length) fs = some fs' → (∀ n ∈ refsDs (fs'.map (·.2)), n ∈ refsDs (fs'.map (·.2))) → (∀ d d' v, mapR (psi ns L.length) d = some d' → (∀ n ∈ refsD d', n ∈ refsDs (fs'.map (·.2))) → VR ⟨K, cm, fx', w⟩ ρ' H' d v → VR ⟨K, cm, fx, w⟩ ρ2 H' d' v) → FR ⟨K, cm, fx', w⟩ ρ' H' fs vs → FR ⟨K, cm, fx, w⟩ ρ2 H' fs' vs := by
              intro fs fs' vs e _ k r
              induction r generalizing fs' with
              | nil => cases e; exact .nil
              | cons r t ih =>
                unfold mapF at e
                split at e
                · rename_i x xs h1 h2
                  cases e
                  refine .cons (k _ _ _ h1 (fun n hn => List.mem_append_left _ hn) r) (ih h2 (fun _ h => h) fun d d' v e hn r => k d d' v e (fun n h => List.mem_append_right _ (hn n h)) r)
                · cases e
            rcases rx with ⟨e6, e7⟩ | ⟨d, vs', e6, e7, e8⟩
            · subst e6
              cases e4
              exact .inl ⟨rfl, e7⟩
            · exact .inr ⟨d, vs', e6, e7, frm e4 (fun _ h => h) tr e8⟩
          · exact q.elim
        | bad => rw [hF] at q; exact q.elim
      · exact q.elim
    · exact q.elim
  · exact q.elim
theorem fnF_lrun {P : Program} {w : World} {K : PySem.W.Frag} {mg : Str → Option Value} {base : Heap} {cm : Nat → Addr} {k : Nat} {f : Addr} {fd : FuncData} {ps : List Str} {F : FS} (h : FnF P w K mg base cm k f fd ps F) : FnF P w K mg base cm k f fd ps (lrun F) :=
  FnOk.imp h fun vs H Q E q => lrun_sp q
end Tw
end

section
set_option Elab.async false
set_option linter.all false
set_option maxRecDepth 100000
set_option maxHeartbeats 1000000
/-! Tw, part S: plain reasoning about defs run in small heaps. -/
namespace Tw
open PySem PySem.Spec L2
/-! ### data without places -/
mutual
theorem mapR_pure {φ : Nat → Option Nat} : ∀ (d : D), refsD d = [] → mapR φ d = some d
  | .non, _ => rfl
  | .bl _, _ => rfl
  | .int _, _ => rfl
  | .str _, _ => rfl
  | .cls _, _ => rfl
  | .ty _, _ => rfl
  | .ref n, h => by cases h
  | .tup xs, h => by unfold mapR; rw [mapRs_pure xs h]; rfl
  | .rol xs, h => by unfold mapR; rw [mapRs_pure xs h]; rfl
theorem mapRs_pure {φ : Nat → Option Nat} : ∀ (ds : List D), refsDs ds = [] → mapRs φ ds = some ds
  | [], _ => rfl
  | d :: ds, h => by
    have h' := List.append_eq_nil_iff.mp (show refsD d ++ refsDs ds = [] from h)
    unfold mapRs
    rw [mapR_pure d h'.1, mapRs_pure ds h'.2]
end
theorem mapF_pure {φ : Nat → Option Nat} : ∀ (fs : List (Str × D)), refsDs (fs.map (·.2)) = [] → mapF φ fs = some fs
  | [], _ => rfl
  | (f, d) :: ds, h => by
    have h' := List.append_eq_nil_iff.mp (show refsD d ++ refsDs (ds.map (·.2)) = [] from h)
    unfold mapF
    rw [mapR_pure d h'.1, mapF_pure ds h'.2]
theorem mapK_pure {φ : Nat → Option Nat} : ∀ (fs : List (Key × D)), refsDs (fs.map (·.2)) = [] → mapK φ fs = some fs
  | [], _ => rfl
  | (f, d) :: ds, h => by
    have h' := List.append_eq_nil_iff.mp (show refsD d ++ refsDs (ds.map (·.2)) = [] from h)
    unfold mapK
    rw [mapR_pure d h'.1, mapK_pure ds h'.2]
theorem mapN_pure {φ : Nat → Option Nat} : ∀ (fs : List (D × D)), refsDs (fs.map (·.2)) = [] → mapN φ fs = some fs
  | [], _ => rfl
  | (f, d) :: ds, h => by
    have h' := List.append_eq_nil_iff.mp (show refsD d ++ refsDs (ds.map (·.2)) = [] from h)
    unfold mapN
    rw [mapR_pure d h'.1, mapN_pure ds h'.2]
theorem mapO_pure {φ : Nat → Option Nat} (o : O) (h : refsO o = []) : mapO φ o = some o := by
  cases o with
  | lst xs => show (mapRs φ xs).map O.lst = _; rw [mapRs_pure xs h]; rfl
  | ins c fs => show (mapF φ fs).map (O.ins c) = _; rw [mapF_pure fs h]; rfl
  | dic lk ks => show (mapK φ ks).map (O.dic lk) = _; rw [mapK_pure ks h]; rfl
  | nd lk ks => show (mapN φ ks).map (O.nd lk) = _; rw [mapN_pure ks h]; rfl
/-! psi gives every place a number -/
theorem psi_some (ns : List Nat) (N j : Nat) : ∃ m, psi ns N j = some m := by
  unfold psi
  split
  · rename_i h; exact ⟨ns[j], by simp [h]⟩
  · exact ⟨_, rfl⟩
mutual
theorem mapR_psi (ns : List Nat) (N : Nat) : ∀ d : D, ∃ e, mapR (psi ns N) d = some e
  | .non => ⟨_, rfl⟩
  | .bl _ => ⟨_, rfl⟩
  | .int _ => ⟨_, rfl⟩
  | .str _ => ⟨_, rfl⟩
  | .cls _ => ⟨_, rfl⟩
  | .ty _ => ⟨_, rfl⟩
  | .ref n => by obtain ⟨m, h⟩ := psi_some ns N n; exact ⟨.ref m, by unfold mapR; rw [h]; rfl⟩
  | .tup xs => by obtain ⟨m, h⟩ := mapRs_psi ns N xs; exact ⟨.tup m, by unfold mapR; rw [h]; rfl⟩
  | .rol xs => by obtain ⟨m, h⟩ := mapRs_psi ns N xs; exact ⟨.rol m, by unfold mapR; rw [h]; rfl⟩
theorem mapRs_psi (ns : List Nat) (N : Nat) : ∀ ds : List D, ∃ es, mapRs (psi ns N) ds = some es
  | [] => ⟨_, rfl⟩
  | d :: ds => by
    obtain ⟨e, h⟩ := mapR_psi ns N d
    obtain ⟨es, h2⟩ := mapRs_psi ns N ds
    exact ⟨e :: es, by unfold mapRs; rw [h, h2]⟩
end
theorem mapF_psi (ns : List Nat) (N : Nat) : ∀ ds : List (Str × D), ∃ es, mapF (psi ns N) ds = some es
  | [] => ⟨_, rfl⟩
  | (f, d) :: ds => by
    obtain ⟨e, h⟩ := mapR_psi ns N d
    obtain ⟨es, h2⟩ := mapF_psi ns N ds
    exact ⟨_, by unfold mapF; rw [h, h2]⟩
theorem mapK_psi (ns : List Nat) (N : Nat) : ∀ ds : List (Key × D), ∃ es, mapK (psi ns N) ds = some es
  | [] => ⟨_, rfl⟩
  | (f, d) :: ds => by
    obtain ⟨e, h⟩ := mapR_psi ns N d
    obtain ⟨es, h2⟩ := mapK_psi ns N ds
    exact ⟨_, by unfold mapK; rw [h, h2]⟩
theorem mapN_psi (ns : List Nat) (N : Nat) : ∀ ds : List (D × D), ∃ es, mapN (psi ns N) ds = some es
  | [] => ⟨_, rfl⟩
  | (f, d) :: ds => by
    obtain ⟨e, h⟩ := mapR_psi ns N d
    obtain ⟨es, h2⟩ := mapN_psi ns N ds
    exact ⟨_, by unfold mapN; rw [h, h2]⟩
theorem mapO_psi (ns : List Nat) (N : Nat) (o : O) : ∃ e, mapO (psi ns N) o = some e := by
  cases o with
  | lst xs => obtain ⟨m, h⟩ := mapRs_psi ns N xs; exact ⟨_, by show (mapRs _ xs).map O.lst = _; rw [h]; rfl⟩
  | ins c fs => obtain ⟨m, h⟩ := mapF_psi ns N fs; exact ⟨_, by show (mapF _ fs).map (O.ins c) = _; rw [h]; rfl⟩
  | dic lk ks => obtain ⟨m, h⟩ := mapK_psi ns N ks; exact ⟨_, by show (mapK _ ks).map (O.dic lk) = _; rw [h]; rfl⟩
  | nd lk ks => obtain ⟨m, h⟩ := mapN_psi ns N ks; exact ⟨_, by show (mapN _ ks).map (O.nd lk) = _; rw [h]; rfl⟩
theorem optAll_psi (ns : List Nat) (N : Nat) : ∀ L : List O, ∃ L2, optAll (mapO (psi ns N)) L = some L2
  | [] => ⟨_, rfl⟩
  | o :: L => by
    obtain ⟨e, h⟩ := mapO_psi ns N o
    obtain ⟨es, h2⟩ := optAll_psi ns N L
    exact ⟨e :: es, by unfold optAll; rw [h, h2]⟩
theorem optAll_cons {α β : Type} {f : α → Option β} {x : α} {xs : List α} {y : β} {ys : List β} (h : f x = some y) (h2 : optAll f xs = some ys) : optAll f (x :: xs) = some (y :: ys) := by
  unfold optAll
  rw [h, h2]
/-- places os (at ns), all without places in them: what F does there is done here -/
theorem lrunAt_flat {F : FS} {ns : List Nat} {ds es : List D} {L os os2 X : List O} {d : D} (nd : ns.Nodup) (h1 : mapRs (posN ns) ds = some es) (h2 : optAll (fun n => L[n]?) ns = some os) (h3 : ∀ o ∈ os, refsO o = []) (hF : F es os = .ok d (os2 ++ X)) (hl : os2.length = ns.length) (h4 : ∀ o ∈ os2, refsO o = []) (hd : refsD d = []) :
    lrunAt ns F ds L = .ok d (setAll ns os2 L) := by
  unfold lrunAt
  have e3 : optAll (mapO (posN ns)) os = some os := by
    clear h2 hF
    induction os with
    | nil => rfl
    | cons o os ih => exact optAll_cons (mapO_pure o (h3 o List.mem_cons_self)) (ih fun o ho => h3 o (List.mem_cons_of_mem _ ho))
  obtain ⟨L2, e5⟩ := optAll_psi ns L.length (os2 ++ X)
  have hL2 : ∀ (a b : List O) (r : List O), (∀ o ∈ a, refsO o = []) → optAll (mapO (psi ns L.length)) (a ++ b) = some r → ∃ s, r = a ++ s := by
    intro a
    induction a with
    | nil => intro b r _ _; exact ⟨r, rfl⟩
    | cons o a ih =>
      intro b r h e
      rw [List.cons_append] at e
      unfold optAll at e
      split at e
      · rename_i y ys q1 q2
        cases e
        rw [mapO_pure o (h o List.mem_cons_self)] at q1
        cases q1
        obtain ⟨s, rfl⟩ := ih b ys (fun o ho => h o (List.mem_cons_of_mem _ ho)) q2
        exact ⟨s, rfl⟩
      · cases e
  obtain ⟨s, rfl⟩ := hL2 os2 X L2 h4 e5
  rw [h1, h2]
  simp only [e3, if_pos nd, hF, mapR_pure d hd, e5]
  unfold lback
  rw [if_pos]
  · congr 1
    have : ∀ (ns : List Nat) (a b L : List O), a.length = ns.length → setAll ns (a ++ b) L = setAll ns a L := by
      intro ns
      induction ns with
      | nil => intro a b L _; cases a <;> rfl
      | cons n ns ih =>
        intro a b L h
        cases a with
        | nil => simp at h
        | cons o a => exact ih a b _ (by simpa using h)
    exact this ns os2 s L hl
  · refine ⟨by rw [hd]; rfl, ?_⟩
    rw [← hl, List.take_left]
    rw [List.all_eq_true]
    intro o ho
    rw [h4 o ho]
    rfl
theorem reach_nil {L : List O} (seen : List Nat) : reach L lfuel [] seen = seen := rfl
theorem lrun_pure {F : FS} {ds : List D} {L X : List O} {d : D} (h : refsDs ds = []) (hF : F ds [] = .ok d X) (hd : refsD d = []) : lrun F ds L = .ok d L := by
  unfold lrun
  rw [h]
  have : reach L lfuel [] [] = [] := rfl
  rw [this]
  exact lrunAt_flat (os := []) (os2 := []) List.nodup_nil (mapRs_pure ds h) rfl (by simp) hF rfl (by simp) hd
theorem reach_one {L : List O} {n : Nat} {o : O} (h : L[n]? = some o) (ho : refsO o = []) : reach L lfuel [n] [] = [n] := by
  show reach L (99999 + 1) [n] [] = [n]
  unfold reach
  simp only [List.contains_nil, Bool.false_eq_true, if_false, h, ho]
  rfl
theorem lrun_bag {F : FS} {n : Nat} {rest : List D} {L X : List O} {o o' : O} {d : D} (hr : refsDs rest = []) (h : L[n]? = some o) (ho : refsO o = []) (hF : F (.ref 0 :: rest) [o] = .ok d (o' :: X)) (ho' : refsO o' = []) (hd : refsD d = []) : lrun F (.ref n :: rest) L = .ok d (L.set n o') := by
  unfold lrun
  have e : refsDs (.ref n :: rest) = [n] := by show [n] ++ refsDs rest = [n]; rw [hr]; rfl
  rw [e, reach_one h ho]
  refine lrunAt_flat (os := [o]) (os2 := [o']) (es := .ref 0 :: rest) (X := X) (by simp) ?_ (optAll_cons h rfl) (by simpa using ho) hF rfl (by simpa using ho') hd
  unfold mapRs
  rw [mapRs_pure rest hr]
  simp [mapR, posN]
theorem reach_two {L : List O} {n m : Nat} {o p : O} (h : L[n]? = some o) (ho : refsO o = []) (h2 : L[m]? = some p) (hp : refsO p = []) (hn : n ≠ m) : reach L lfuel [n, m] [] = [n, m] := by
  show reach L (99998 + 1 + 1) [n, m] [] = [n, m]
  unfold reach
  simp only [List.contains_nil, Bool.false_eq_true, if_false, h, ho, List.nil_append]
  unfold reach
  have : ([n] : List Nat).contains m = false := by simp; exact fun e => hn e.symm
  simp only [this, Bool.false_eq_true, if_false, h2, hp, List.nil_append]
  rfl
theorem lrun_two {F : FS} {n m : Nat} {rest : List D} {L X : List O} {o p o' p' : O} {d : D} (hr : refsDs rest = []) (h : L[n]? = some o) (ho : refsO o = []) (h2 : L[m]? = some p) (hp : refsO p = []) (hn : n ≠ m) (hF : F (.ref 0 :: .ref 1 :: rest) [o, p] = .ok d (o' :: p' :: X)) (ho' : refsO o' = []) (hp' : refsO p' = []) (hd : refsD d = []) :
    lrun F (.ref n :: .ref m :: rest) L = .ok d ((L.set n o').set m p') := by
  unfold lrun
  have e : refsDs (.ref n :: .ref m :: rest) = [n, m] := by show [n] ++ ([m] ++ refsDs rest) = [n, m]; rw [hr]; rfl
  rw [e, reach_two h ho h2 hp hn]
  refine lrunAt_flat (os := [o, p]) (os2 := [o', p']) (es := .ref 0 :: .ref 1 :: rest) (X := X) (by simp [hn]) ?_ (optAll_cons h (optAll_cons h2 rfl)) (by simp [ho, hp]) hF rfl (by simp [ho', hp']) hd
  unfold mapRs
  unfold mapRs
  rw [mapRs_pure rest hr]
  simp [mapR, posN, hn]
theorem lrun_same {F : FS} {n : Nat} {rest : List D} {L X : List O} {o o' : O} {d : D} (hr : refsDs rest = []) (h : L[n]? = some o) (ho : refsO o = []) (hF : F (.ref 0 :: .ref 0 :: rest) [o] = .ok d (o' :: X)) (ho' : refsO o' = []) (hd : refsD d = []) : lrun F (.ref n :: .ref n :: rest) L = .ok d (L.set n o') := by
  unfold lrun
  have e : refsDs (.ref n :: .ref n :: rest) = [n, n] := by show [n] ++ ([n] ++ refsDs rest) = [n, n]; rw [hr]; rfl
  have e2 : reach L lfuel [n, n] [] = [n] := by
    show reach L (99998 + 1 + 1) [n, n] [] = [n]
    unfold reach
    simp only [List.contains_nil, Bool.false_eq_true, if_false, h, ho, List.nil_append]
    unfold reach
    simp
    rfl
  rw [e, e2]
  refine lrunAt_flat (os := [o]) (os2 := [o']) (es := .ref 0 :: .ref 0 :: rest) (X := X) (by simp) ?_ (optAll_cons h rfl) (by simpa using ho) hF rfl (by simpa using ho') hd
  unfold mapRs
  unfold mapRs
  rw [mapRs_pure rest hr]
  simp [mapR, posN]

/-- a new thing is handed back -/
theorem lrun_new {F : FS} {ds : List D} {L X : List O} {o : O} (h : refsDs ds = []) (hF : F ds [] = .ok (.ref 0) [o]) (ho : refsO o = []) : lrun F ds L = .ok (.ref L.length) (L ++ [o]) := by
  unfold lrun
  rw [h]
  have : reach L lfuel [] [] = [] := rfl
  rw [this]
  unfold lrunAt
  rw [mapRs_pure ds h]
  have e : mapR (psi [] L.length) (.ref 0) = some (.ref L.length) := rfl
  have e2 : optAll (mapO (psi [] L.length)) [o] = some [o] := optAll_cons (mapO_pure o ho) rfl
  show (match F ds [] with | .ok d L' => _ | .ex c fs L' => _ | .bad => _) = _
  rw [hF]
  simp only [e, e2]
  unfold lback
  rw [if_neg]
  · rfl
  · intro z
    have : decide (L.length < L.length) = true := by
      have := z.1
      simp [refsD, small] at this
    simp at this
theorem loop_nx {src : Src} {t : MG} {body : MS} (I : Nat → En → List O → Prop) (hok : ∀ i ε L, I i ε L → src.ok L = true) : ∀ (ds : List D) (k : Nat) (ε : En) (L : List O),
    (∀ i d ε L, ds[i]? = some d → I (k + i) ε L → ∃ ε1 ε2 L2, t.f d ε = some ε1 ∧ (body ε1 L = .nx ε2 L2 ∨ body ε1 L = .ct ε2 L2) ∧ I (k + i + 1) ε2 L2) → I k ε L → ∃ ε2 L2, loopF src t body ds ε L = .nx ε2 L2 ∧ I (k + ds.length) ε2 L2
  | [], k, ε, L, _, h0 => ⟨ε, L, by unfold loopF; rw [if_pos (hok _ _ _ h0)], h0⟩
  | d :: ds, k, ε, L, step, h0 => by
    obtain ⟨ε1, ε2, L2, h1, h2, h3⟩ := step 0 d ε L rfl h0
    obtain ⟨ε3, L3, h4, h5⟩ := loop_nx I hok ds (k + 1) ε2 L2 (fun i d ε L e hi => by
      have := step (i + 1) d ε L (by simpa using e) (by rw [← Nat.add_assoc, Nat.add_right_comm]; exact hi)
      rw [← Nat.add_assoc, Nat.add_right_comm k i 1] at this
      exact this) h3
    refine ⟨ε3, L3, ?_, by rw [List.length_cons, ← Nat.add_assoc, Nat.add_right_comm]; exact h5⟩
    unfold loopF
    rw [if_pos (hok _ _ _ h0), h1]
    rcases h2 with h2 | h2 <;> simp only [h2] <;> exact h4
/-- the same from 0 -/
theorem loop_all {src : Src} {t : MG} {body : MS} (I : Nat → En → List O → Prop) {ds : List D} {ε : En} {L : List O} (hok : ∀ i ε L, I i ε L → src.ok L = true) (h0 : I 0 ε L)
    (step : ∀ i d ε L, ds[i]? = some d → I i ε L → ∃ ε1 ε2 L2, t.f d ε = some ε1 ∧ (body ε1 L = .nx ε2 L2 ∨ body ε1 L = .ct ε2 L2) ∧ I (i + 1) ε2 L2) : ∃ ε2 L2, loopF src t body ds ε L = .nx ε2 L2 ∧ I ds.length ε2 L2 := by
  obtain ⟨ε2, L2, h1, h2⟩ := loop_nx I hok ds 0 ε L (fun i d ε L e hi => by rw [Nat.zero_add] at hi ⊢; exact step i d ε L e hi) h0
  exact ⟨ε2, L2, h1, by rwa [Nat.zero_add] at h2⟩
theorem rngD_get {lo : Int} {n i : Nat} {d : D} (h : (rngD lo n)[i]? = some d) : d = .int (lo + i) ∧ i < n := by
  have hi : i < n := by
    obtain ⟨q, _⟩ := List.getElem?_eq_some_iff.mp h
    rw [rngD_len] at q; exact q
  simp only [rngD, List.getElem?_map, List.getElem?_range hi, Option.map_some, Option.some.injEq] at h
  exact ⟨h.symm, hi⟩
/-! ### ints and texts as data -/
theorem toPy_ints (L : List O) (n : Nat) : ∀ ns : List Int, optAll (toPy L (n + 1)) (ns.map D.int) = some (ns.map PyData.int)
  | [] => rfl
  | m :: ns => optAll_cons rfl (toPy_ints L n ns)
theorem lay_ints : ∀ ns : List Int, PyData.canLayAll0 (ns.map PyData.int) = true
  | [] => by simp [PyData.canLayAll0]
  | m :: ns => by simp [PyData.canLayAll0, PyData.canLay0, lay_ints ns]
theorem depth_ints : ∀ ns : List Int, PyData.depthAll (ns.map PyData.int) = 0
  | [] => by simp [PyData.depthAll]
  | m :: ns => by simp [PyData.depthAll, PyData.depth, depth_ints ns]
theorem shaped_ints (ns : List Int) : SeqAt.shaped (.list (ns.map PyData.int)) = true := by
  unfold SeqAt.shaped
  simp [PyData.canLay0, lay_ints, PyData.depth, depth_ints]
theorem shaped_int (i : Int) : SeqAt.shaped (.int i) = true := by
  unfold SeqAt.shaped
  simp [PyData.canLay0, PyData.depth]
theorem any_ints (i : Int) : ∀ ns : List Int, ((ns.map PyData.int).any fun z => PyData.eqv z (.int i)) = decide (i ∈ ns)
  | [] => rfl
  | m :: ns => by
    rw [List.map_cons, List.any_cons, any_ints i ns]
    simp only [PyData.eqv, List.mem_cons]
    by_cases h : m = i
    · subst h; simp
    · have : ¬ i = m := fun e => h e.symm
      simp [h, this]
/-- i in [ints] -/
theorem inD_ints {L : List O} {n : Nat} {ns : List Int} {i : Int} (h : L[n]? = some (.lst (ns.map D.int))) : inD L (.int i) (.ref n) = some (decide (i ∈ ns)) := by
  have e1 : toPy L pyDeep (.int i) = some (.int i) := rfl
  have e2 : toPy L pyDeep (.ref n) = some (.list (ns.map PyData.int)) := by
    show (match L[n]? with | some (.lst ds) => (optAll (toPy L 15) ds).map PyData.list | _ => none) = _
    rw [h]
    show (optAll (toPy L (14 + 1)) (ns.map D.int)).map PyData.list = _
    rw [toPy_ints]
    rfl
  unfold inD
  simp only [h, e1, e2, shaped_int, shaped_ints, and_self, if_true, any_ints]
/-- [e for t in src] without tests: F gives each item -/
theorem comp_map {src : Src} {t : MG} {te : ME} {ε : En} {n : Nat} (f : D → D) : ∀ (ds acc : List D) (L : List O), L[n]? = some (.lst acc) → (∀ L, src.ok L = true) → (∀ d ∈ ds, ∀ L, ∃ ε1, t.f d ε = some ε1 ∧ te ε1 L = .ok (f d) L) → acc.length + ds.length ≤ 1000000 →
    loopC src t mYes te n ε ds L = .ok (.ref n) (L.set n (.lst (acc ++ ds.map f)))
  | [], acc, L, h, hok, _, _ => by
    unfold loopC
    rw [if_pos (hok L), List.map_nil, List.append_nil]
    have : L.set n (.lst acc) = L := by
      obtain ⟨hn, e⟩ := List.getElem?_eq_some_iff.mp h
      rw [← e]
      exact List.set_getElem_self hn
    rw [this]
  | d :: ds, acc, L, h, hok, hf, hl => by
    obtain ⟨ε1, h1, h2⟩ := hf d List.mem_cons_self L
    have hn : n < L.length := (List.getElem?_eq_some_iff.mp h).1
    unfold loopC
    rw [if_pos (hok L), h1]
    simp only [mYes, Rs.nox, Rs.bind, if_true, h2, h]
    rw [if_pos (by simp at hl; unfold most; omega)]
    rw [comp_map f ds (acc ++ [f d]) _ (List.getElem?_set_self hn) hok (fun e he => hf e (List.mem_cons_of_mem _ he)) (by simp at hl ⊢; omega)]
    rw [List.set_set, List.append_assoc]
    rfl

/-- [d for d in src if p d] -/
theorem comp_filter {src : Src} {t : MG} {tt : MB} {te : ME} {ε : En} {n : Nat} (p : D → Bool) : ∀ (ds acc : List D) (L : List O), L[n]? = some (.lst acc) → (∀ L, src.ok L = true) → (∀ d ∈ ds, ∀ L, ∃ ε1, t.f d ε = some ε1 ∧ tt ε1 L = .ok (p d) L ∧ te ε1 L = .ok d L) → acc.length + ds.length ≤ 1000000 →
    loopC src t tt te n ε ds L = .ok (.ref n) (L.set n (.lst (acc ++ ds.filter p)))
  | [], acc, L, h, hok, _, _ => by
    unfold loopC
    rw [if_pos (hok L), List.filter_nil, List.append_nil]
    have : L.set n (.lst acc) = L := by
      obtain ⟨hn, e⟩ := List.getElem?_eq_some_iff.mp h
      rw [← e]
      exact List.set_getElem_self hn
    rw [this]
  | d :: ds, acc, L, h, hok, hf, hl => by
    obtain ⟨ε1, h1, h2, h3⟩ := hf d List.mem_cons_self L
    have hn : n < L.length := (List.getElem?_eq_some_iff.mp h).1
    unfold loopC
    rw [if_pos (hok L), h1]
    cases hp : p d with
    | false =>
      rw [hp] at h2
      simp only [h2, Rs.nox, Rs.bind, Bool.false_eq_true, if_false]
      rw [comp_filter p ds acc L h hok (fun e he => hf e (List.mem_cons_of_mem _ he)) (by simp at hl ⊢; omega), List.filter_cons_of_neg (by simp [hp])]
    | true =>
      rw [hp] at h2
      simp only [h2, Rs.nox, Rs.bind, if_true, h3, h]
      rw [if_pos (by simp at hl; unfold most; omega)]
      rw [comp_filter p ds (acc ++ [d]) _ (List.getElem?_set_self hn) hok (fun e he => hf e (List.mem_cons_of_mem _ he)) (by simp at hl ⊢; omega)]
      rw [List.set_set, List.append_assoc, List.filter_cons_of_pos hp]
      rfl

/-! ### data that == and repr take -/
structure NiceP (k : Nat) (d : D) (p : PyData) : Prop where
  py : ∀ (L : List O) (n : Nat), k < n → toPy L n d = some p
  lay : p.canLay0 = true
  dep : p.depth ≤ k
def Nice (k : Nat) (d : D) : Prop := ∃ p, NiceP k d p
theorem nice_int (i : Int) : NiceP 0 (.int i) (.int i) := ⟨fun L n h => by cases n with | zero => omega | succ n => rfl, by simp [PyData.canLay0], by simp [PyData.depth]⟩
theorem nice_bl (b : Bool) : NiceP 0 (.bl b) (.bool b) := ⟨fun L n h => by cases n with | zero => omega | succ n => rfl, by simp [PyData.canLay0], by simp [PyData.depth]⟩
theorem nice_str {x : Str} (h : (PyData.str x).canLay0 = true) : NiceP 0 (.str x) (.str x) := ⟨fun L n h => by cases n with | zero => omega | succ n => rfl, h, by simp [PyData.depth]⟩
theorem NiceP.up {k j : Nat} {d : D} {p : PyData} (h : NiceP k d p) (hj : k ≤ j) : NiceP j d p := ⟨fun L n hn => h.py L n (by omega), h.lay, Nat.le_trans h.dep hj⟩
theorem nice_all {k : Nat} : ∀ {ds : List D}, (∀ d ∈ ds, Nice k d) → ∃ ps : List PyData, (∀ L n, k < n → optAll (toPy L n) ds = some ps) ∧ PyData.canLayAll0 ps = true ∧ PyData.depthAll ps ≤ k
  | [], _ => ⟨[], fun _ _ _ => rfl, by simp [PyData.canLayAll0], by simp [PyData.depthAll]⟩
  | d :: ds, h => by
    obtain ⟨p, hp⟩ := h d List.mem_cons_self
    obtain ⟨ps, h1, h2, h3⟩ := nice_all (ds := ds) fun e he => h e (List.mem_cons_of_mem _ he)
    refine ⟨p :: ps, fun L n hn => optAll_cons (hp.py L n hn) (h1 L n hn), by simp [PyData.canLayAll0, hp.lay, h2], ?_⟩
    have := hp.dep
    simp only [PyData.depthAll]
    omega
theorem nice_tup {k : Nat} {ds : List D} (h : ∀ d ∈ ds, Nice k d) : Nice (k + 1) (.tup ds) := by
  obtain ⟨ps, h1, h2, h3⟩ := nice_all h
  refine ⟨.tuple ps, fun L n hn => ?_, by simpa [PyData.canLay0] using h2, by simp only [PyData.depth]; omega⟩
  cases n with
  | zero => omega
  | succ n =>
    show (optAll (toPy L n) ds).map PyData.tuple = _
    rw [h1 L n (by omega)]
    rfl
theorem NiceP.shaped {k : Nat} {d : D} {p : PyData} (h : NiceP k d p) (hk : k ≤ 64) : SeqAt.shaped p = true := by
  unfold SeqAt.shaped
  rw [h.lay, Bool.true_and]
  exact decide_eq_true (Nat.le_trans h.dep hk)
theorem eqData_nice {k j : Nat} {d e : D} {p q : PyData} (h : NiceP k d p) (h2 : NiceP j e q) (hk : k < 16) (hj : j < 16) (L : List O) : eqData L d e = some (PyData.eqv p q) := by
  unfold eqData
  rw [h.py L pyDeep hk, h2.py L pyDeep hj]
  simp only [h.shaped (by omega), h2.shaped (by omega), and_self, if_true]
mutual
theorem eqv_refl : ∀ p : PyData, p.canLay0 = true → PyData.eqv p p = true
  | .none, _ => rfl
  | .bool b, _ => by simp [PyData.eqv]
  | .int i, _ => by simp [PyData.eqv]
  | .str x, _ => by simp [PyData.eqv]
  | .list xs, h => by unfold PyData.eqv; exact eqvAll_refl xs (by simpa [PyData.canLay0] using h)
  | .tuple xs, h => by unfold PyData.eqv; exact eqvAll_refl xs (by simpa [PyData.canLay0] using h)
  | .dict _, h => by simp [PyData.canLay0] at h
theorem eqvAll_refl : ∀ ps : List PyData, PyData.canLayAll0 ps = true → PyData.eqvAll ps ps = true
  | [], _ => rfl
  | p :: ps, h => by
    simp only [PyData.canLayAll0, Bool.and_eq_true] at h
    unfold PyData.eqvAll
    rw [eqv_refl p h.1, eqvAll_refl ps h.2]
    rfl
end

mutual
theorem eqv_symm : ∀ p q : PyData, PyData.eqv p q = PyData.eqv q p
  | .none, q => by cases q <;> simp [PyData.eqv]
  | .bool a, q => by
    cases q <;> simp [PyData.eqv]
    · exact Bool.beq_comm
    · exact BEq.comm
  | .int a, q => by
    cases q <;> simp [PyData.eqv]
    · exact BEq.comm
    · exact BEq.comm
  | .str a, q => by
    cases q <;> simp [PyData.eqv]
    exact BEq.comm
  | .list xs, q => by
    cases q <;> simp [PyData.eqv]
    exact eqvAll_symm xs _
  | .tuple xs, q => by
    cases q <;> simp [PyData.eqv]
    exact eqvAll_symm xs _
  | .dict _, q => by cases q <;> simp [PyData.eqv]
theorem eqvAll_symm : ∀ p q : List PyData, PyData.eqvAll p q = PyData.eqvAll q p
  | [], q => by cases q <;> simp [PyData.eqvAll]
  | x :: xs, q => by
    cases q with
    | nil => simp [PyData.eqvAll]
    | cons y ys =>
      simp only [PyData.eqvAll]
      rw [eqv_symm x y, eqvAll_symm xs ys]
end
end Tw
end

section
set_option Elab.async false
set_option linter.all false
set_option maxRecDepth 100000
set_option maxHeartbeats 1000000
/-! Tw, part T: dicts whose keys are nested tuples. -/
namespace Tw
open PySem PySem.Spec L2
variable {g : Gx} {ρ ρ' : List Addr} {H H' : Hp} {X : Cx} {W : WX} {L : List O} {cm : Nat → Addr} {fx : Hp} {pins : List (Addr × Obj)} {σ : L2.St} {s : Shared}
mutual
theorem nk_is (I : Inv X pins σ H s) : ∀ {d : D} {v : V} {u : Value} {k : NestedKey}, VR ⟨X.K, cm, fx, X.w⟩ ρ H d v → RelV v u → nkD d = some k → NestedIs s.heap k u
  | _, _, _, _, .non, r, e => by cases r; cases e; exact .none
  | _, _, _, _, .bl b, r, e => by cases r; cases e; exact .bool rfl
  | _, _, _, _, .int i, r, e => by obtain ⟨t, rfl⟩ := r; cases e; exact .int i t
  | _, _, _, _, .str x, r, e => by obtain ⟨t, rfl⟩ := r; cases e; exact .text x t
  | _, _, _, _, .ref _, r, e => by cases e
  | _, _, _, _, .cls _, r, e => by cases e
  | _, _, _, _, .ty _, r, e => by cases e
  | _, _, _, _, .rol _ _, r, e => by cases e
  | _, _, _, k, .tup (ds := ds) hs ha, r, e => by
    cases r
    unfold nkD at e
    cases h1 : nkDs ds with
    | none => rw [h1] at e; cases e
    | some ks =>
      rw [h1] at e
      cases e
      obtain ⟨its, rv, ⟨o, ho, hc, n, hd⟩, _⟩ := I.tuple hs.sq
      exact .tup ho hc hd (by rw [List.toList_toArray]; exact nks_is I ha rv h1)
theorem nks_is (I : Inv X pins σ H s) : ∀ {ds : List D} {vs : List V} {us : List Value} {ks : List NestedKey}, VRs ⟨X.K, cm, fx, X.w⟩ ρ H ds vs → Vals vs us → nkDs ds = some ks → NestedAll s.heap ks us
  | _, _, _, _, .nil, r, e => by cases r; cases e; exact .nil
  | _, _, _, ks, .cons (d := d) (ds := ds) h1 h2, r, e => by
    cases r with
    | cons r1 r2 =>
      unfold nkDs at e
      split at e
      · rename_i k ks' e1 e2
        cases e
        exact .cons (nk_is I h1 r1 e1) (nks_is I h2 r2 e2)
      · cases e
end
def ndLook (ks : List (D × D)) (k : NestedKey) : Option D := (ks.find? fun kv => decide (nkD kv.1 = some k)).map (·.2)
def ndPut (ks : List (D × D)) (d : D) (k : NestedKey) (e : D) : List (D × D) :=
  if (ndLook ks k).isSome = true then ks.map (fun kv => if nkD kv.1 = some k then (kv.1, e) else kv) else ks ++ [(d, e)]
def xAt (xs : List (NestedKey × Addr × V)) (k : NestedKey) : Option (Addr × V) := (xs.find? fun x => decide (x.1 = k)).map (·.2)
def xPut (xs : List (NestedKey × Addr × V)) (k : NestedKey) (a : Addr) (v : V) : List (NestedKey × Addr × V) :=
  if (xAt xs k).isSome = true then xs.map (fun x => if x.1 = k then (x.1, x.2.1, v) else x) else xs ++ [(k, a, v)]
theorem NR.look (k : NestedKey) : ∀ {ks : List (D × D)} {xs : List (NestedKey × Addr × V)}, NR g ρ H ks xs → (∃ e q v, ndLook ks k = some e ∧ xAt xs k = some (q, v) ∧ VR g ρ H e v) ∨ (ndLook ks k = none ∧ xAt xs k = none)
  | _, _, .nil => .inr ⟨rfl, rfl⟩
  | _, _, .cons (d := d) (e := e) (k := k') (q := q) (v := v) a b r r2 t => by
    by_cases h : k' = k
    · subst h
      exact .inl ⟨e, q, v, by simp [ndLook, List.find?_cons, a], by simp [xAt, List.find?_cons], r2⟩
    · have h' : ¬ nkD d = some k := fun z => h (Option.some.inj (a.symm.trans z))
      rcases NR.look k t with ⟨e2, q2, v2, h1, h2, h3⟩ | ⟨h1, h2⟩
      · exact .inl ⟨e2, q2, v2, by simpa [ndLook, List.find?_cons, h'] using h1, by simpa [xAt, List.find?_cons, h] using h2, h3⟩
      · exact .inr ⟨by simpa [ndLook, List.find?_cons, h'] using h1, by simpa [xAt, List.find?_cons, h] using h2⟩
theorem NR.repl {k : NestedKey} {e : D} {v : V} (rv : VR g ρ H e v) : ∀ {ks : List (D × D)} {xs : List (NestedKey × Addr × V)}, NR g ρ H ks xs → NR g ρ H (ks.map (fun kv => if nkD kv.1 = some k then (kv.1, e) else kv)) (xs.map (fun x => if x.1 = k then (x.1, x.2.1, v) else x))
  | _, _, .nil => .nil
  | _, _, .cons (d := d) (k := k') a b r r2 t => by
    by_cases h : k' = k
    · subst h
      simp only [List.map_cons, a, if_true]
      exact .cons a b r rv (NR.repl rv t)
    · have h' : ¬ nkD d = some k := fun z => h (Option.some.inj (a.symm.trans z))
      simp only [List.map_cons, if_neg h, if_neg h']
      exact .cons a b r r2 (NR.repl rv t)
theorem NR.append : ∀ {ks ls : List (D × D)} {xs ys : List (NestedKey × Addr × V)}, NR g ρ H ks xs → NR g ρ H ls ys → NR g ρ H (ks ++ ls) (xs ++ ys)
  | _, _, _, _, .nil, t => t
  | _, _, _, _, .cons a b r r2 u, t => .cons a b r r2 (NR.append u t)
theorem NR.put {ks : List (D × D)} {xs : List (NestedKey × Addr × V)} (h : NR g ρ H ks xs) {d e : D} {k : NestedKey} {q : Addr} {v : V} (hk : nkD d = some k) (h8 : k.depth ≤ 8) (rk : VR g ρ H d (.ref q)) (rv : VR g ρ H e v) : NR g ρ H (ndPut ks d k e) (xPut xs k q v) := by
  unfold ndPut xPut
  rcases h.look k with ⟨e2, q2, v2, h1, h2, h3⟩ | ⟨h1, h2⟩
  · rw [h1, h2]
    exact h.repl rv
  · rw [h1, h2]
    exact h.append (.cons hk h8 rk rv .nil)
theorem NR.get : ∀ {ks : List (D × D)} {xs : List (NestedKey × Addr × V)}, NR g ρ H ks xs → ∀ {i : Nat} {d e : D}, ks[i]? = some (d, e) → ∃ k q v, xs[i]? = some (k, q, v) ∧ VR g ρ H d (.ref q) ∧ VR g ρ H e v
  | _, _, .nil, i, d, e, h => by simp at h
  | _, _, .cons a b r r2 t, 0, d, e, h => by simp at h; obtain ⟨rfl, rfl⟩ := h; exact ⟨_, _, _, rfl, r, r2⟩
  | _, _, .cons a b r r2 t, i + 1, d, e, h => by obtain ⟨k, q, v, h1, h2⟩ := t.get (show _ = _ by simpa using h); exact ⟨k, q, v, by simpa using h1, h2⟩
/-! from the abstract to the heap -/
theorem npair_at {k : NestedKey} : ∀ {xs : List (NestedKey × Addr × V)} {ys : List (NestedKey × Addr × Value)}, Paired NPair xs ys → (∃ q v u, xAt xs k = some (q, v) ∧ atKey ys k = some (q, u) ∧ RelV v u) ∨ (xAt xs k = none ∧ atKey ys k = none)
  | _, _, .nil => .inr ⟨rfl, rfl⟩
  | _, _, .cons (a := x) (b := y) h t => by
    obtain ⟨h1, h2, h3⟩ := h
    by_cases e : x.1 = k
    · exact .inl ⟨x.2.1, x.2.2, y.2.2, by simp [xAt, List.find?_cons, e], by simp [atKey, List.find?_cons, ← h1, e]; rw [← Prod.eta y.2, ← h2], h3⟩
    · rcases npair_at (k := k) t with ⟨q, v, u, a, b, c⟩ | ⟨a, b⟩
      · exact .inl ⟨q, v, u, by simpa [xAt, List.find?_cons, e] using a, by simpa [atKey, List.find?_cons, ← h1, e] using b, c⟩
      · exact .inr ⟨by simpa [xAt, List.find?_cons, e] using a, by simpa [atKey, List.find?_cons, ← h1, e] using b⟩
theorem npair_keys : ∀ {xs : List (NestedKey × Addr × V)} {ys : List (NestedKey × Addr × Value)}, Paired NPair xs ys → xs.map (·.1) = ys.map (·.1)
  | _, _, .nil => rfl
  | _, _, .cons h t => by simp only [List.map_cons, h.1, npair_keys t]
theorem npair_len : ∀ {xs : List (NestedKey × Addr × V)} {ys : List (NestedKey × Addr × Value)}, Paired NPair xs ys → xs.length = ys.length
  | _, _, .nil => rfl
  | _, _, .cons h t => by simp only [List.length_cons, npair_len t]
theorem npair_is (I : Inv X pins σ H s) : ∀ {ks : List (D × D)} {xs : List (NestedKey × Addr × V)} {ys : List (NestedKey × Addr × Value)}, NR ⟨X.K, cm, fx, X.w⟩ ρ H ks xs → Paired NPair xs ys → ∀ y ∈ ys, (nestedKind X.prog X.w).is s.heap y.1 y.2.1
  | _, _, _, .nil, .nil => fun y z => nomatch z
  | _, _, _, .cons a b r r2 t, .cons h u => fun y hy => by
    rcases List.mem_cons.mp hy with e | hy
    · subst e
      rw [← h.1, ← h.2.1]
      exact ⟨nk_is I r rfl a, b⟩
    · exact npair_is I t u y hy
theorem nd_rd (I : Inv X pins σ H s) {a : Addr} {ks : List (D × D)} {xs : List (NestedKey × Addr × V)} (e : Rd H a (NdO X.w a xs)) (r : NR ⟨X.K, cm, fx, X.w⟩ ρ H ks xs) :
    (a == sysModules) = false ∧ xs.length ≤ sizeLine ∧ ∃ ys, Paired NPair xs ys ∧ s.heap.DictOfH (nestedKind X.prog X.w) a ys := by
  obtain ⟨⟨h1, h2, h3, ys, h4, o, es, ep, h5, h6, h7, h8⟩, _⟩ := (show ObjOk X.prog X.w H s.heap a (NdO X.w a xs) from e.ok I.hok)
  exact ⟨h1, h2, ys, h4, o, es, ep, h5, h6, h7, h8, npair_is I r h4, by rw [← npair_keys h4]; exact h3⟩
theorem nd_new {a : Addr} {H' : Hp} {h' : Heap} {xs : List (NestedKey × Addr × V)} {ys : List (NestedKey × Addr × Value)} (hs : (a == sysModules) = false) (hl : xs.length ≤ sizeLine) (hp : Paired NPair xs ys) (d : h'.DictOfH (nestedKind X.prog X.w) a ys) : ObjOk X.prog X.w H' h' a (NdO X.w a xs) := by
  obtain ⟨o, es, ep, h5, h6, h7, h8, h9, h10⟩ := d
  refine ⟨⟨hs, hl, by rw [npair_keys hp]; exact h10, ys, hp, o, es, ep, h5, h6, h7, h8⟩, ⟨o, h5⟩, fun h1 h2 ⟨a1, a2, a3, zs, a4, ob, fs, fp, a5, a6, a7, a8⟩ k => ⟨a1, a2, a3, zs, a4, ob, fs, fp, k _ a5, a6, a7, a8⟩⟩
theorem npair_put {k : NestedKey} {q : Addr} {v : V} {u : Value} (rv : RelV v u) {xs : List (NestedKey × Addr × V)} {ys : List (NestedKey × Addr × Value)} (hp : Paired NPair xs ys) : Paired NPair (xPut xs k q v) (storedH ys k q u) := by
  have rep : ∀ {xs : List (NestedKey × Addr × V)} {ys : List (NestedKey × Addr × Value)}, Paired NPair xs ys → Paired NPair (xs.map (fun x => if x.1 = k then (x.1, x.2.1, v) else x)) (ys.map (putAt k u)) := by
    intro xs ys h
    induction h with
    | nil => exact .nil
    | @cons x y xs ys h t ih =>
      rw [List.map_cons, List.map_cons]
      refine .cons ?_ ih
      unfold putAt
      by_cases e : x.1 = k
      · rw [if_pos e, if_pos (h.1.symm.trans e)]
        exact ⟨h.1, h.2.1, rv⟩
      · rw [if_neg e, if_neg (fun z => e (h.1.trans z))]
        exact h
  have app : ∀ {xs : List (NestedKey × Addr × V)} {ys : List (NestedKey × Addr × Value)}, Paired NPair xs ys → Paired NPair (xs ++ [(k, q, v)]) (ys ++ [(k, q, u)]) := by
    intro xs ys h
    induction h with
    | nil => exact .cons ⟨rfl, rfl, rv⟩ .nil
    | cons h t ih => exact .cons h ih
  unfold xPut storedH
  rcases npair_at (k := k) hp with ⟨q2, v2, u2, a, b, c⟩ | ⟨a, b⟩
  · rw [a, b]
    exact rep hp
  · rw [a, b]
    exact app hp
theorem xPut_len (xs : List (NestedKey × Addr × V)) (k : NestedKey) (q : Addr) (v : V) : (xPut xs k q v).length ≤ xs.length + 1 := by
  unfold xPut
  split
  · simp
  · simp
theorem nroom {A : Around} (hu : A.units + 64 < cLine) : (nestedKind X.prog X.w).room A.in1 := by
  show A.units + 1 + 8 < cLine
  omega
theorem HR.nd_at (hh : HR ⟨X.K, cm, fx, X.w⟩ ρ L H) {n : Nat} {lk : Bool} {ks : List (D × D)} (e : L[n]? = some (.nd lk ks)) {a : Addr} (ea : ρ[n]? = some a) : ∃ xs, Rd H a (NdO X.w a xs) ∧ NR ⟨X.K, cm, fx, X.w⟩ ρ H ks xs := by
  have q := hh.ob n _ a e ea
  cases lk with
  | false => obtain ⟨vs, h, r⟩ := q; exact ⟨vs, .inl h, r⟩
  | true => obtain ⟨vs, o, h, r⟩ := q; exact ⟨vs, .inr ⟨o, h⟩, r⟩
/-! ### in -/
def inN (L : List O) (x y : D) : Option Bool := match x, y with
  | .tup ds, .ref n => match L[n]? with
    | some (.nd _ ks) => match nkD (.tup ds) with
      | some k => if k.depth ≤ 8 then some (ndLook ks k).isSome else none
      | none => none
    | _ => inD L x y
  | _, _ => inD L x y
def oInN : O2 := fun x y L => (inN L x y).map fun b => (.bl b, L)
def oNotInN : O2 := fun x y L => (inN L x y).map fun b => (.bl (!b), L)
theorem inN_cases {x y : D} {b : Bool} (e : inN L x y = some b) : inD L x y = some b ∨ ∃ ds n lk ks k, x = .tup ds ∧ y = .ref n ∧ L[n]? = some (.nd lk ks) ∧ nkD (.tup ds) = some k ∧ k.depth ≤ 8 ∧ (ndLook ks k).isSome = b := by
  unfold inN at e
  split at e
  · split at e
    · rename_i h1
      split at e
      · rename_i k h2
        split at e
        · rename_i h3
          cases e
          exact .inr ⟨_, _, _, _, _, rfl, rfl, h1, h2, h3, rfl⟩
        · cases e
      · cases e
    · exact .inl e
  · exact .inl e
theorem op_oInN (hu : X.A.units + 65 < cLine) : OpR X (compareOp .In) (rM ⟨X.K, cm, fx, X.w⟩ oInN) := by
  intro pins s σ H x y v u Q I rx ry q
  obtain ⟨ρ, L, d, e, hh, r1, r2, q⟩ := q
  unfold oInN at q
  cases hb : inN L d e with
  | none => rw [hb] at q; exact q.elim
  | some b =>
    rw [hb] at q
    rcases inN_cases hb with hd | ⟨ds, n, lk, ks, k, rfl, rfl, h1, h2, h3, rfl⟩
    · exact op_oIn hu pins s σ H x y v u Q I rx ry ⟨ρ, L, d, e, hh, r1, r2, by unfold oIn; rw [hd]; exact q⟩
    · cases r1 with
      | tup s1 a1 =>
        cases r2 with
        | ref ea =>
          cases rx
          cases ry
          obtain ⟨xs, rd, nr⟩ := hh.nd_at h1 ea
          obtain ⟨c1, c2, ys, c3, c4⟩ := nd_rd I rd nr
          have rk : VR ⟨X.K, cm, fx, X.w⟩ ρ H (.tup ds) (.ref _) := .tup s1 a1
          refine wpAny_in_heap (nroom (by omega)) ⟨nk_is I rk rfl h2, h3⟩ c1 c4 ?_
          have q' := LfO.same q hh (.bl _)
          have eq : (atKey ys k).isSome = (ndLook ks k).isSome := by
            rcases nr.look k with ⟨e2, q2, v2, a, b, _⟩ | ⟨a, b⟩ <;> rcases npair_at (k := k) c3 with ⟨q3, v3, u3, c, d, _⟩ | ⟨c, d⟩
            · rw [a, d]; rfl
            · rw [b] at c; cases c
            · rw [b] at c; cases c
            · rw [a, d]; rfl
          rw [eq]
          exact ⟨.bl _, H, I.tok _, rfl, q'⟩
theorem op_oNotInN (hu : X.A.units + 65 < cLine) : OpR X (compareOp .NotIn) (rM ⟨X.K, cm, fx, X.w⟩ oNotInN) := by
  intro pins s σ H x y v u Q I rx ry q
  obtain ⟨ρ, L, d, e, hh, r1, r2, q⟩ := q
  unfold oNotInN at q
  cases hb : inN L d e with
  | none => rw [hb] at q; exact q.elim
  | some b =>
    rw [hb] at q
    rcases inN_cases hb with hd | ⟨ds, n, lk, ks, k, rfl, rfl, h1, h2, h3, rfl⟩
    · exact op_oNotIn hu pins s σ H x y v u Q I rx ry ⟨ρ, L, d, e, hh, r1, r2, by unfold oNotIn; rw [hd]; exact q⟩
    · cases r1 with
      | tup s1 a1 =>
        cases r2 with
        | ref ea =>
          cases rx
          cases ry
          obtain ⟨xs, rd, nr⟩ := hh.nd_at h1 ea
          obtain ⟨c1, c2, ys, c3, c4⟩ := nd_rd I rd nr
          have rk : VR ⟨X.K, cm, fx, X.w⟩ ρ H (.tup ds) (.ref _) := .tup s1 a1
          refine PyProof.Rows.wpAny_notIn_heap (nroom (by omega)) ⟨nk_is I rk rfl h2, h3⟩ c1 c4 ?_
          have q' := LfO.same q hh (.bl _)
          have eq : (atKey ys k).isSome = (ndLook ks k).isSome := by
            rcases nr.look k with ⟨e2, q2, v2, a, b, _⟩ | ⟨a, b⟩ <;> rcases npair_at (k := k) c3 with ⟨q3, v3, u3, c, d, _⟩ | ⟨c, d⟩
            · rw [a, d]; rfl
            · rw [b] at c; cases c
            · rw [b] at c; cases c
            · rw [a, d]; rfl
          rw [eq]
          exact ⟨.bl _, H, I.tok _, rfl, q'⟩
/-! ### {} -/
def mNd0 : ME := fun _ L => .ok (.ref L.length) (L ++ [.nd false []])
theorem nd_empty (h : Heap) (hb : sysModules < h.objs.size) : ObjOk X.prog X.w H (h.push { cls := .type "dict", data := .dict #[] }) h.objs.size (NdO X.w h.objs.size []) :=
  nd_new (beq_eq_false_iff_ne.mpr (Ne.symm (Nat.ne_of_lt hb))) (Nat.zero_le _) .nil (Heap.DictOfH.new h)
theorem pe_nd0 {pos : Pos} : PE X (.Dict [] [] pos) (fun _ H Q => ∀ p, H p = none → Q (.ref p) (upd H p (NdO X.w p []))) := ⟨fun pins s σ H Q I h =>
  wpAny_Dict_empty ⟨.ref s.heap.objs.size, _, I.laid (a := s.heap.objs.size) (o := NdO X.w s.heap.objs.size []) (t' := s.toks) (fun _ _ q => Heap.get?_push_of_some _ q) (Nat.le_refl _) (nd_empty s.heap I.big), rfl, h _ (I.hok.fresh (Nat.le_refl _))⟩⟩
theorem se_nd0 {pos} : PE X (.Dict [] [] pos) (tM ⟨X.K, cm, fx, X.w⟩ W mNd0) := pe_nd0.imp fun σ H Q q => by
  obtain ⟨ε, ρ, L, he, hh, q⟩ := q
  intro p hp
  exact LfD.newO q hh hp ⟨[], upd_same, .nil⟩
/-! ### setdefault -/
def oSetD (x y z : D) (L : List O) : OD := match x, y with
  | .ref n, .tup ds => match L[n]? with
    | some (.nd false ks) => match nkD (.tup ds) with
      | some k => if k.depth ≤ 8 ∧ ks.length < most then (match ndLook ks k with
        | some e => some (e, L)
        | none => some (z, L.set n (.nd false (ks ++ [(.tup ds, z)])))) else none
      | none => none
    | _ => none
  | _, _ => none
def isNd (L : List O) : D → Bool
  | .ref n => match L[n]? with
    | some (.nd false _) => true
    | _ => false
  | _ => false
def mSetD (o a b : ME) : ME := fun ε L => (o ε L).bind fun x L1 => if isNd L1 x = true then (a ε L1).bind fun y L2 => (b ε L2).bind fun z L3 => ofO (oSetD x y z L3) else .bad
theorem nd_type (I : Inv X pins σ H s) {a : Addr} {xs : List (NestedKey × Addr × V)} (e : Rd H a (NdO X.w a xs)) : s.TypeIs (.ref a) "dict" ∧ ∀ b, Value.ref a = .ref b → ∃ ob, s.heap.get? b = some ob ∧ ob.dict = none := by
  obtain ⟨⟨h1, h2, h3, ys, h4, o, es, ep, h5, h6, h7, h8⟩, _⟩ := (show ObjOk X.prog X.w H s.heap a (NdO X.w a xs) from e.ok I.hok)
  refine ⟨⟨o, h5, h6.1⟩, fun b q => ?_⟩
  cases q
  exact ⟨o, h5, h6.2.1⟩
def tNdS (X : Cx) (cm : Nat → Addr) (fx : Hp) (td ty tx : TE) : TE := fun σ H Q => td σ H fun x H1 => ∃ a, x = .ref a ∧ (∃ xs, Rd H1 a (NdO X.w a xs)) ∧ ty σ H1 fun y H2 => tx σ H2 fun z H3 =>
  ∃ (xs : List (NestedKey × Addr × V)) (ks : List (D × D)) (ρ : List Addr) (k : NestedKey) (b : Addr) (d : D), y = .ref b ∧ H3 a = some (NdO X.w a xs) ∧ NR ⟨X.K, cm, fx, X.w⟩ ρ H3 ks xs ∧ VR ⟨X.K, cm, fx, X.w⟩ ρ H3 d (.ref b) ∧ nkD d = some k ∧ k.depth ≤ 8 ∧ xs.length < sizeLine ∧
    (∀ q v, xAt xs k = some (q, v) → Q v H3) ∧ (xAt xs k = none → Q z (upd H3 a (NdO X.w a (xPut xs k b z))))
theorem pe_setD (hu : X.A.units + 65 < cLine) {o e f : Expr} {td ty tx : TE} {apos cpos : Pos} (ho : PE X o td) (ha : PE X e ty) (hb : PE X f tx) (m : M2 X o "setdefault" apos e f cpos) : PE X (.Call (.Attribute o "setdefault" apos) [e, f] [] cpos) (tNdS X cm fx td ty tx) := by
  refine ⟨fun pins s σ H Q I h => ?_⟩
  refine wpAny_Call_method m.base m.few m.line PySem.F.plainAttrs_dict PySem.F.slot_dict_setdefault PySem.F.type_dict_setdefault (thn (ho.run pins s σ H _ I h) fun u s1 ⟨x, H1, I1, rx, a, ex, ⟨xs0, rd⟩, q1⟩ => ?_)
  subst ex
  obtain rfl : u = Value.ref a := rx
  obtain ⟨t1, t2⟩ := nd_type I1 rd
  refine ⟨t1, t2, ?_⟩
  rw [m.trees]
  refine Calls.callWith_builtin rfl (Calls.evalArgs_plain (Calls.spliced_cons (thn (ha.run pins s1 σ H1 _ I1 q1) fun iv s2 ⟨y, H2, I2, ry, q2⟩ =>
    Calls.spliced_cons (thn (hb.run pins s2 σ H2 _ I2 q2) fun fv s3 ⟨z, H3, I3, rz, xs, ks, ρ, k, b, d, ey, hx, nr, vr, hk, h8, hl, q3, q4⟩ => Calls.spliced_nil ?_))))
  subst ey
  obtain rfl : iv = Value.ref b := ry
  obtain ⟨c1, c2, ys, c3, c4⟩ := nd_rd I3 (.inl hx) nr
  refine call_setdefault_heap (nroom (by omega)) ⟨nk_is I3 vr rfl hk, h8⟩ c1 c4 (fun p hp => ?_) (fun hn h' hd hs => ?_) (by rw [← npair_len c3]; exact c2)
  · rcases npair_at (k := k) c3 with ⟨q, v, u, e1, e2, r⟩ | ⟨e1, e2⟩
    · rw [hp] at e2
      cases e2
      exact ⟨v, H3, I3.tok _, r, q3 q v e1⟩
    · rw [hp] at e2; cases e2
  · rcases npair_at (k := k) c3 with ⟨q, v, u, e1, e2, r⟩ | ⟨e1, e2⟩
    · rw [hn] at e2; cases e2
    · have he : ∃ q, h'.get? a = some q := let ⟨q, _, _, hq, _⟩ := hd; ⟨q, hq⟩
      exact ⟨z, _, d_write I3 (by rw [hx]; exact True.intro) hs he (nd_new c1 (by have := xPut_len xs k b z; omega) (npair_put rz c3) hd), rz, q4 e1⟩
theorem LfD.setNd {d : D} {v : V} {n : Nat} {a : Addr} {ks : List (D × D)} {us xs : List (NestedKey × Addr × V)} {Q : VK} (h : LfO ⟨X.K, cm, fx, X.w⟩ ρ H (some (d, L.set n (.nd false ks))) Q) (hh : HR ⟨X.K, cm, fx, X.w⟩ ρ L H) (ea : ρ[n]? = some a) (e : H a = some (NdO X.w a us)) (r : NR ⟨X.K, cm, fx, X.w⟩ ρ H ks xs) (rv : VR ⟨X.K, cm, fx, X.w⟩ ρ H d v) : Q v (upd H a (NdO X.w a xs)) := by
  have t : TP H (upd H a (NdO X.w a xs)) := TP.mut e rfl
  exact h v ρ _ (List.prefix_refl _) t (hh.set ea e rfl ⟨xs, upd_same, r.mono (List.prefix_refl _) t⟩) (rv.mono (List.prefix_refl _) t)
theorem se_setD (hu : X.A.units + 65 < cLine) {o e f : Expr} {mo ma mb : ME} {apos cpos : Pos} (ho : PE X o (tM ⟨X.K, cm, fx, X.w⟩ W mo)) (ha : PE X e (tM ⟨X.K, cm, fx, X.w⟩ W ma)) (hb : PE X f (tM ⟨X.K, cm, fx, X.w⟩ W mb))
    (hbase : attributeBase o "setdefault" X.env (eval o X.env) = eval o X.env := by rfl)
    (hfew : ((backTo cpos (starEach [e, f] X.env)).all (fun x => !x.1) && (backToKw cpos (keywordEach [] X.env)).all (fun x => x.1.isSome)
      && decide (([e, f] : List Expr).length + ([] : List Keyword).length + (if ([] : List Keyword).isEmpty then 0 else 1) < 30)) = true := by rfl)
    (hline : (apos.endLine == cpos.line) = true := by rfl) (ht : backTo cpos (starEach [e, f] X.env) = [(false, eval e X.env), (false, eval f X.env)] := by rfl) :
    PE X (.Call (.Attribute o "setdefault" apos) [e, f] [] cpos) (tM ⟨X.K, cm, fx, X.w⟩ W (mSetD mo ma mb)) :=
  (pe_setD (cm := cm) (fx := fx) hu ho ha hb ⟨hbase, hfew, hline, ht⟩).imp fun σ H Q q => by
    obtain ⟨ε, ρ, L, he, hh, q⟩ := q
    refine ⟨ε, ρ, L, he, hh, Lf.bind q fun x L1 v ρ1 H1 e1 p1 t1 h1 r1 q1 => ?_⟩
    cases hi : isNd L1 x with
    | false => rw [hi, if_neg (by decide)] at q1; exact q1.elim
    | true =>
      rw [hi, if_pos rfl] at q1
      have hi' := hi
      unfold isNd at hi'
      cases r1 with
      | ref ea =>
        rename_i n a
        simp only at hi'
        split at hi'
        · rename_i ks0 hL
          obtain ⟨xs0, rd, nr0⟩ := h1.nd_at hL ea
          refine ⟨a, rfl, ⟨xs0, rd⟩, ε, ρ1, L1, he.mono p1 t1, h1, Lf.bind q1 fun y L2 yv ρ2 H2 e2 p2 t2 h2 r2 q2 => ?_⟩
          refine ⟨ε, ρ2, L2, (he.mono p1 t1).mono p2 t2, h2, Lf.bind q2 fun z L3 zv ρ3 H3 e3 p3 t3 h3 r3 q3 => ?_⟩
          have q3 := LfO.of q3
          have ea3 := pre_get p3 (pre_get p2 ea)
          unfold oSetD at q3
          split at q3
          · rename_i ds hr _
            cases hr
            have r2' := r2.mono p3 t3
            cases r2' with
            | tup s1 a1 =>
              rename_i b vs
              split at q3
              · rename_i ks hks
                obtain ⟨xs, hx, nr⟩ := h3.ob _ _ _ hks ea3
                split at q3
                · rename_i k hk
                  split at q3
                  · rename_i hz
                    refine ⟨xs, ks, ρ3, k, b, .tup ds, rfl, hx, nr, .tup s1 a1, hk, hz.1, by rw [← nr.length]; exact Nat.lt_of_lt_of_le hz.2 (most_le (Nat.le_refl _)), fun q v e => ?_, fun e => ?_⟩
                    · rcases nr.look k with ⟨e2, q2, v2, a1, a2, a3⟩ | ⟨a1, a2⟩
                      · rw [e] at a2
                        cases a2
                        rw [a1] at q3
                        exact LfO.same q3 h3 a3
                      · rw [e] at a2; cases a2
                    · rcases nr.look k with ⟨e2, q2, v2, a1', a2, a3⟩ | ⟨a1', a2⟩
                      · rw [e] at a2; cases a2
                      · rw [a1'] at q3
                        have np := nr.put hk hz.1 (.tup s1 a1) r3
                        have e0 : ndPut ks (.tup ds) k z = ks ++ [(.tup ds, z)] := by unfold ndPut; rw [a1']; rfl
                        rw [e0] at np
                        exact LfD.setNd q3 h3 ea3 hx np r3
                  · exact q3.elim
                · exact q3.elim
              · exact q3.elim
          · exact q3.elim
        · cases hi'
      | _ => cases hi'
end Tw
end

section
set_option Elab.async false
set_option linter.all false
set_option maxRecDepth 100000
set_option maxHeartbeats 1000000
/-! Tw, part U: dicts locked while they are walked; keys, items. -/
namespace Tw
open PySem PySem.Spec PyProof.Rows L2
variable {g : Gx} {ρ ρ' : List Addr} {H H' : Hp} {X : Cx} {W : WX} {L : List O} {cm : Nat → Addr} {fx : Hp} {pins : List (Addr × Obj)} {σ : L2.St} {s : Shared}
def lkO : O → Option O
  | .dic false ks => some (.dic true ks)
  | .nd false ks => some (.nd true ks)
  | _ => none
def unO : O → Option O
  | .dic true ks => some (.dic false ks)
  | .nd true ks => some (.nd false ks)
  | _ => none
def lkAt (n : Nat) (L : List O) : Option (List O) := match L[n]? with
  | some o => (lkO o).map fun o' => L.set n o'
  | none => none
def unAt (n : Nat) (L : List O) : Option (List O) := match L[n]? with
  | some o => (unO o).map fun o' => L.set n o'
  | none => none
theorem lkAt_ok {n : Nat} {L1 : List O} (e : lkAt n L = some L1) : ∃ o o', L[n]? = some o ∧ lkO o = some o' ∧ L1 = L.set n o' := by
  unfold lkAt at e
  split at e
  · rename_i o h
    cases h2 : lkO o with
    | none => rw [h2] at e; cases e
    | some o' => rw [h2] at e; cases e; exact ⟨o, o', h, h2, rfl⟩
  · cases e
theorem unAt_ok {n : Nat} {L1 : List O} (e : unAt n L = some L1) : ∃ o o', L[n]? = some o ∧ unO o = some o' ∧ L1 = L.set n o' := by
  unfold unAt at e
  split at e
  · rename_i o h
    cases h2 : unO o with
    | none => rw [h2] at e; cases e
    | some o' => rw [h2] at e; cases e; exact ⟨o, o', h, h2, rfl⟩
  · cases e
/-- what is locked: a dict -/
def DicO : HO → Prop
  | .dK _ => True
  | .ext _ => True
  | _ => False
theorem lk_get {a : Addr} {o o' : O} (e : lkO o = some o') (r : OR g ρ H a o) : ∃ u, H a = some u ∧ DicO u ∧ ∀ od, OR g ρ (upd H a (.frz od u)) a o' := by
  cases o with
  | lst _ => cases e
  | ins _ _ => cases e
  | dic b ks =>
    cases b with
    | true => cases e
    | false =>
      cases e
      obtain ⟨vs, h, r⟩ := r
      exact ⟨_, h, True.intro, fun od => ⟨vs, od, upd_same, r.mono (List.prefix_refl _) (TP.mut h rfl)⟩⟩
  | nd b ks =>
    cases b with
    | true => cases e
    | false =>
      cases e
      obtain ⟨xs, h, r⟩ := r
      exact ⟨_, h, True.intro, fun od => ⟨xs, od, upd_same, r.mono (List.prefix_refl _) (TP.mut h rfl)⟩⟩
theorem DicO.mut {u : HO} (d : DicO u) : Mut (some u) ∧ MutO u = true := by
  cases u with
  | dK _ => exact ⟨True.intro, rfl⟩
  | ext _ => exact ⟨True.intro, rfl⟩
  | _ => exact d.elim
theorem un_tv {K : PySem.W.Frag} {a : Addr} {od : Obj} {u : HO} (d : DicO u) (h : H a = some (.frz od u)) : TV K H (upd H a u) := by
  refine ⟨fun b xs z => ?_, fun b xs z => ?_⟩
  · rcases z with z | z
    · have : b ≠ a := by rintro rfl; rw [h] at z; cases z
      exact .inl (by rw [upd_ne this]; exact z)
    · exact .inr z
  · rcases z with ⟨o, z⟩ | z
    · have : b ≠ a := by
        rintro rfl
        rw [h] at z
        cases z
        exact d
      exact .inl ⟨o, by rw [upd_ne this]; exact z⟩
    · exact .inr z
theorem un_hr {n : Nat} {a : Addr} {od : Obj} {u : HO} {o o' : O} (hh : HR g ρ L H) (d : DicO u) (h : H a = some (.frz od u)) (eL : L[n]? = some o) (ea : ρ[n]? = some a) (e : unO o = some o') : HR g ρ (L.set n o') (upd H a u) := by
  have tv := un_tv (K := g.K) d h
  refine ⟨by simp [hh.len], hh.nd, fun n2 o2 b e2 eb => ?_, hh.nfx, fun b w' q => by rw [upd_ne (fun z => by rw [z, hh.nfx n a ea] at q; cases q)]; exact hh.fxs b w' q⟩
  by_cases hn : n = n2
  · subst hn
    rw [ea] at eb
    cases eb
    rw [List.getElem?_set_self (List.getElem?_eq_some_iff.mp eL).1] at e2
    cases e2
    have q := hh.ob n o a eL ea
    cases o with
    | lst _ => cases e
    | ins _ _ => cases e
    | dic b ks =>
      cases b with
      | false => cases e
      | true =>
        cases e
        obtain ⟨vs, od2, h2, r⟩ := q
        rw [h] at h2
        cases h2
        exact ⟨vs, upd_same, r.monoV (List.prefix_refl _) tv⟩
    | nd b ks =>
      cases b with
      | false => cases e
      | true =>
        cases e
        obtain ⟨xs, od2, h2, r⟩ := q
        rw [h] at h2
        have h3 : u = NdO g.w a xs := by injection h2 with h2; injection h2
        exact ⟨xs, by rw [h3]; exact upd_same, r.monoV (List.prefix_refl _) tv⟩
  · rw [List.getElem?_set_ne hn] at e2
    have hb : b ≠ a := by rintro rfl; exact hn (nodup_get hh.nd ea eb)
    exact (hh.ob n2 o2 b e2 eb).monoV (List.prefix_refl _) tv (upd_ne hb)
theorem un_tp {a : Addr} {od : Obj} {u : HO} {H2 : Hp} (d : DicO u) (h : H a = some u) (t : TP (upd H a (.frz od u)) H2) : TP H (upd H2 a u) := by
  refine ⟨fun b xs e => ?_, fun b ob v e => ?_⟩
  · have : b ≠ a := by rintro rfl; rw [h] at e; cases e; exact d
    rw [upd_ne this]
    exact t.tup b xs (by rw [upd_ne this]; exact e)
  · have : b ≠ a := by rintro rfl; rw [h] at e; cases e; exact d
    rw [upd_ne this]
    exact t.frz b ob v (by rw [upd_ne this]; exact e)
/-- an expression while the dict at f is locked -/
def mLockE (f : En → List O → Option Nat) (m : ME) : ME := fun ε L => match f ε L with
  | some n => match lkAt n L with
    | some L1 => match m ε L1 with
      | .ok d L2 => match unAt n L2 with
        | some L3 => .ok d L3
        | none => .bad
      | _ => .bad
    | none => .bad
  | none => .bad
theorem se_lock {f : En → List O → Option Nat} {e : Expr} {m : ME} (h : PE X e (tM g W m)) : PE X e (tM g W (mLockE f m)) :=
  (pe_lock h).imp fun σ H Q q => by
    obtain ⟨ε, ρ, L, he, hh, q⟩ := q
    unfold mLockE at q
    split at q
    · rename_i n hf
      split at q
      · rename_i L1 hl
        obtain ⟨o, o', e1, e2, rfl⟩ := lkAt_ok hl
        obtain ⟨a, ea, ho⟩ := hh.get e1
        obtain ⟨u, hu, du, ro⟩ := lk_get e2 ho
        refine ⟨a, u, hu, du.mut.1, fun od => ?_⟩
        have h1 := hh.set ea hu du.mut.2 (ro od)
        refine ⟨ε, ρ, _, he.mono (List.prefix_refl _) (TP.mut hu du.mut.2), h1, ?_⟩
        split at q
        · rename_i d L2 hm
          rw [hm]
          intro v ρ2 H2 p2 t2 h2 r2
          have hf2 := t2.frz a od u upd_same
          split at q
          · rename_i L3 hL3
            obtain ⟨o2, o2', e3, e4, rfl⟩ := unAt_ok hL3
            exact ⟨hf2, q v ρ2 _ p2 (un_tp du hu t2) (un_hr h2 du hf2 e3 (pre_get p2 ea) e4) (r2.monoV (List.prefix_refl _) (un_tv du hf2))⟩
          · exact q.elim
        · exact q.elim
      · exact q.elim
    · exact q.elim
/-- a statement while the dict at f is locked -/
def mLockS (f : En → List O → Option Nat) (m : MS) : MS := fun ε L => match f ε L with
  | some n => match lkAt n L with
    | some L1 => match m ε L1 with
      | .nx ε2 L2 => match unAt n L2 with
        | some L3 => .nx ε2 L3
        | none => .bad
      | .rt d L2 => match unAt n L2 with
        | some L3 => .rt d L3
        | none => .bad
      | _ => .bad
    | none => .bad
  | none => .bad
theorem ss_lock {f : En → List O → Option Nat} {st : Stmt} {m : MS} (h : PS X st (tMS g W m)) : PS X st (tMS g W (mLockS f m)) :=
  (ps_lock h).imp fun D σ H q => by
    obtain ⟨ε, ρ, L, he, hh, q⟩ := q
    unfold mLockS at q
    split at q
    · rename_i n hf
      split at q
      · rename_i L1 hl
        obtain ⟨o, o', e1, e2, rfl⟩ := lkAt_ok hl
        obtain ⟨a, ea, ho⟩ := hh.get e1
        obtain ⟨u, hu, du, ro⟩ := lk_get e2 ho
        refine ⟨a, u, hu, du.mut.1, fun od => ?_⟩
        have h1 := hh.set ea hu du.mut.2 (ro od)
        refine ⟨ε, ρ, _, he.mono (List.prefix_refl _) (TP.mut hu du.mut.2), h1, ?_⟩
        split at q
        · rename_i ε2 L2 hm
          rw [hm]
          intro σ2 ρ2 H2 p2 t2 h2 r2
          have hf2 := t2.frz a od u upd_same
          split at q
          · rename_i L3 hL3
            obtain ⟨o2, o2', e3, e4, rfl⟩ := unAt_ok hL3
            refine ⟨hf2, q σ2 ρ2 _ p2 (un_tp du hu t2) (un_hr h2 du hf2 e3 (pre_get p2 ea) e4) ⟨r2.1, fun i d e => ?_⟩⟩
            obtain ⟨v, e5, e6⟩ := r2.2 i d e
            exact ⟨v, e5, e6.monoV (List.prefix_refl _) (un_tv du hf2)⟩
          · exact q.elim
        · rename_i d L2 hm
          rw [hm]
          intro v ρ2 H2 p2 t2 h2 r2
          have hf2 := t2.frz a od u upd_same
          split at q
          · rename_i L3 hL3
            obtain ⟨o2, o2', e3, e4, rfl⟩ := unAt_ok hL3
            exact ⟨hf2, q v ρ2 _ p2 (un_tp du hu t2) (un_hr h2 du hf2 e3 (pre_get p2 ea) e4) (r2.monoV (List.prefix_refl _) (un_tv du hf2))⟩
          · exact q.elim
        · exact q.elim
      · exact q.elim
    · exact q.elim
/-! ### the keys of a dict with nested keys -/
theorem Inv.frzN {d : Addr} {o : Obj} {xs : List (NestedKey × Addr × V)} (I : Inv X pins σ H s) (h : H d = some (.frz o (NdO X.w d xs))) :
    (d == sysModules) = false ∧ s.heap.get? d = some o ∧ o.ExactDict ∧ ∃ (es : Array DictEntry) (ep : Nat), o.data = .dict es ep ∧ es.size = xs.length ∧
      ∀ (i : Nat) (k : NestedKey) (q : Addr) (v : V), xs[i]? = some (k, q, v) → ∃ (en : DictEntry), es[i]? = some en ∧ en.key = .ref q := by
  obtain ⟨hd, ⟨hs, hl, hn, ys, pr, o', es, ep, ho, hx, hdt, he⟩, _⟩ := I.hok d _ h
  rw [hd] at ho
  cases ho
  have l1 : es.size = ys.length := by rw [← Array.length_toList, he, List.length_map]
  refine ⟨hs, hd, hx, es, ep, hdt, by rw [l1, npair_len pr], fun i k q v e => ?_⟩
  obtain ⟨y, hb, e1, e2, _⟩ := paired_get pr e
  refine ⟨⟨y.1.hash X.w, .ref y.2.1, y.2.2⟩, ?_, by rw [← e2]⟩
  rw [← Array.getElem?_toList, he, List.getElem?_map, hb]
  rfl
def ItkN (w : World) (d : Addr) (o : Obj) (xs : List (NestedKey × Addr × V)) : It :=
  ⟨fun i H => H d = some (.frz o (NdO w d xs)) ∧ i < xs.length, fun i H x H' => H' = H ∧ ∃ k q v, xs[i]? = some (k, q, v) ∧ x = .ref q, fun i H => H d = some (.frz o (NdO w d xs)) ∧ xs.length ≤ i⟩
theorem turn_keysN {P : Program} {w : World} {K : PySem.W.Frag} {tg : Expr} {d : Addr} {o : Obj} {es : Array DictEntry} {ep : Nat} {xs : List (NestedKey × Addr × V)} (it : Addr) (hod : o.data = .dict es ep) : Turn P w K tg (ItkN w d o xs) [it] it (fun i h => h.IsKeyIter it d i xs.length ep) where
  mem := by simp
  obj := fun i h st b hb => by
    have e : b = it := by simpa using hb
    subst e
    obtain ⟨oi, e, c, dd⟩ := st
    exact ⟨oi, e, fun v z => by rw [dd] at z; cases z⟩
  keep := fun i h h' st k => st.at fun oi e => k it (by simp) oi e
  item := by
    intro X hP hw hK hc i pins s σ H E I hf st hg
    subst hP hw hK
    obtain ⟨hd, hi⟩ := hg
    obtain ⟨f0, f1, f2, f3, f4, f5⟩ := hf it (by simp)
    obtain ⟨hs, hgd, hx, es', ep', hdt, hsz, ent⟩ := Inv.frzN I hd
    obtain ⟨rfl, rfl⟩ := dict_ep hod hdt
    obtain ⟨⟨k, q, v⟩, hkv⟩ : ∃ p, xs[i]? = some p := ⟨xs[i], List.getElem?_eq_getElem hi⟩
    obtain ⟨en, hen, hkey⟩ := ent i k q v hkv
    refine next_key_item st hgd hdt hsz hen fun h' st' sb => ?_
    have I1 : Inv X pins σ H { s with heap := h' } := I.turned (t' := s.toks) (fun b ob hb e => (sb.2 b hb).trans e) f0 f1 f3 f4 f5
    obtain ⟨oi, e, c, dd⟩ := id st'
    exact ⟨en.key, rfl, go_of (s := { s with heap := h' }) e c dd (by decide) ⟨.ref q, H, I1, hkey, ⟨rfl, k, q, v, hkv, rfl⟩, st', fun b hb => (hf b hb).1⟩⟩
  done := by
    intro X hP hw hK hc i pins s σ H E I hf st hg
    subst hP hw hK
    obtain ⟨hd, hi⟩ := hg
    obtain ⟨f0, f1, f2, f3, f4, f5⟩ := hf it (by simp)
    obtain ⟨hs, hgd, hx, es', ep', hdt, hsz, ent⟩ := Inv.frzN I hd
    obtain ⟨rfl, rfl⟩ := dict_ep hod hdt
    exact next_key_end (I.ok.hd hc) st hgd hdt hsz hi fun h' eb => ⟨rfl, I.turned (t' := s.toks) (fun b ob hb e => eb b ob hb e) f0 f1 f3 f4 f5⟩
  self := fun A i s Q E st h => by
    refine wpAny_pyIter_slot st.typeIs F.slot_dict_keyiterator_iter (wpAny_call_entry F.slot_dict_keyiterator_iter st.typeIs F.entry_dict_keyiterator_iter ?_ (F.args_dict_keyiterator_iter_1 _))
    show wpAny _ _ (ret (.ref it)) _ _ s
    exact wpAny_pure ⟨_, rfl, "dict_keyiterator", _, st.typeIs, F.slot_dict_keyiterator_next.lookup, h⟩
def iKeysN (w : World) (td : TE) : TI := fun σ H R => td σ H fun x H1 => ∃ d o xs, x = .ref d ∧ H1 d = some (.frz o (NdO w d xs)) ∧ R (ItkN w d o xs) H1
theorem pi_keysN {tg e : Expr} {td : TE} (he : PE X e td) : PI X tg e (iKeysN X.w td) := by
  refine ⟨fun pins s σ H R I h => ?_⟩
  refine thn (he.run pins s σ H _ I h) fun u s1 ⟨x, H1, I1, rx, d, o, xs, ex, hd, q⟩ => ?_
  subst ex
  obtain rfl : u = Value.ref d := rx
  obtain ⟨hs, hgd, hx, es, ep, hdt, hsz, ent⟩ := Inv.frzN I1 hd
  refine iter_keys hs hgd hx hdt (pi_one (tk := s1.toks) I1 _ (turn_keysN _ hdt) ⟨_, Heap.get?_push_size _ rfl, rfl, ?_⟩ q)
  rw [hsz] <;> rfl
/-! ### keys of any dict that is locked -/
def keyOf : Key → D
  | .inl i => .int i
  | .inr x => .str x
def mKeys (a : ME) : MI := fun ε L => (a ε L).bind fun x L1 => match x with
  | .ref n => match L1[n]? with
    | some (.dic true ks) => .ok ⟨ks.map fun kv => keyOf kv.1, some (n, .dic true ks)⟩ L1
    | some (.nd true ks) => .ok ⟨ks.map (·.1), some (n, .nd true ks)⟩ L1
    | _ => .bad
  | _ => .bad
theorem KR.get : ∀ {ks : List (Key × D)} {vs : List (Key × V)}, KR g ρ H ks vs → ∀ {i : Nat} {k : Key} {d : D}, ks[i]? = some (k, d) → ∃ v, vs[i]? = some (k, v) ∧ VR g ρ H d v
  | _, _, .nil, i, k, d, e => by simp at e
  | _, _, .cons r t, 0, k, d, e => by simp at e; obtain ⟨rfl, rfl⟩ := e; exact ⟨_, rfl, r⟩
  | _, _, .cons r t, i + 1, k, d, e => by obtain ⟨v, h1, h2⟩ := t.get (show _ = _ by simpa using e); exact ⟨v, by simpa using h1, h2⟩
theorem vr_key (k : Key) : VR g ρ H (keyOf k) (kV k) := by
  cases k with
  | inl i => exact .int i
  | inr x => exact .str x
theorem wk_keysK {ks : List (Key × D)} {n : Nat} {a : Addr} {o : Obj} {vs : List (Key × V)} (h : H a = some (.frz o (.dK vs))) (r : KR g ρ H ks vs) : Wk g ρ H ⟨ks.map fun kv => keyOf kv.1, some (n, .dic true ks)⟩ (Itk a o vs) where
  go := fun i ρ' L' H' hi p tt hh ok => by
    simp only [List.length_map] at hi
    exact ⟨tt.frz a o _ h, by rw [← r.length]; exact hi⟩
  stop := fun ρ' L' H' p tt hh ok => ⟨tt.frz a o _ h, by simp only [List.length_map]; rw [r.length]; exact Nat.le_refl _⟩
  yld := fun i d ρ' L' H' x H2 e p tt hh ok y => by
    obtain ⟨rfl, k, v, hk, rfl⟩ := y
    simp only [List.getElem?_map] at e
    cases hq : ks[i]? with
    | none => rw [hq] at e; cases e
    | some kv =>
      rw [hq] at e
      cases e
      obtain ⟨v2, h2, _⟩ := r.get (k := kv.1) (d := kv.2) hq
      rw [hk] at h2
      cases h2
      exact ⟨TP.refl _, hh, vr_key _⟩
theorem wk_keysN {ks : List (D × D)} {n : Nat} {a : Addr} {o : Obj} {xs : List (NestedKey × Addr × V)} (h : H a = some (.frz o (NdO g.w a xs))) (r : NR g ρ H ks xs) : Wk g ρ H ⟨ks.map (·.1), some (n, .nd true ks)⟩ (ItkN g.w a o xs) where
  go := fun i ρ' L' H' hi p tt hh ok => by
    simp only [List.length_map] at hi
    exact ⟨tt.frz a o _ h, by rw [← r.length]; exact hi⟩
  stop := fun ρ' L' H' p tt hh ok => ⟨tt.frz a o _ h, by simp only [List.length_map]; rw [r.length]; exact Nat.le_refl _⟩
  yld := fun i d ρ' L' H' x H2 e p tt hh ok y => by
    obtain ⟨rfl, k, q, v, hk, rfl⟩ := y
    simp only [List.getElem?_map] at e
    cases hq : ks[i]? with
    | none => rw [hq] at e; cases e
    | some kv =>
      rw [hq] at e
      cases e
      obtain ⟨k2, q2, v2, h2, h3, _⟩ := r.get (d := kv.1) (e := kv.2) hq
      rw [hk] at h2
      cases h2
      exact ⟨TP.refl _, hh, h3.mono p tt⟩
theorem si_keys {tg e : Expr} {a : ME} (h : PE X e (tM ⟨X.K, cm, fx, X.w⟩ W a)) : PI X tg e (tMI ⟨X.K, cm, fx, X.w⟩ W (mKeys a)) :=
  (PI.or (pi_keys h) (pi_keysN h)).imp fun σ H R q => by
    obtain ⟨ε, ρ, L, he, hh, q⟩ := q
    by_cases ht : ∃ n L1 ks, a ε L = .ok (.ref n) L1 ∧ L1[n]? = some (.nd true ks)
    · obtain ⟨n, L1, ks, ht, hn⟩ := ht
      refine .inr ⟨ε, ρ, L, he, hh, Lf.bind q fun x L1 v ρ1 H1 e1 p1 t1 h1 r1 q1 => ?_⟩
      rw [ht] at e1
      cases e1
      cases r1 with
      | ref ea =>
        simp only [hn] at q1
        obtain ⟨xs, o, b1, b2⟩ := h1.ob n _ _ hn ea
        exact ⟨_, o, xs, rfl, b1, q1 _ ρ1 H1 (List.prefix_refl _) (TP.refl H1) h1 (wk_keysN b1 b2)⟩
    · refine .inl ⟨ε, ρ, L, he, hh, Lf.bind q fun x L1 v ρ1 H1 e1 p1 t1 h1 r1 q1 => ?_⟩
      cases r1 with
      | ref ea =>
        simp only at q1
        split at q1
        · rename_i ks h2
          obtain ⟨vs, o, b1, b2⟩ := h1.ob _ _ _ h2 ea
          exact ⟨_, o, rfl, .inl ⟨vs, b1, q1 _ ρ1 H1 (List.prefix_refl _) (TP.refl H1) h1 (wk_keysK b1 b2)⟩⟩
        · rename_i ks h2
          exact (ht ⟨_, _, _, e1, h2⟩).elim
        · exact q1.elim
      | _ => exact q1.elim
/-! ### items of a dict that is locked -/
def mItems (a : ME) : MI := fun ε L => (a ε L).bind fun x L1 => match x with
  | .ref n => match L1[n]? with
    | some (.dic true ks) => .ok ⟨ks.map fun kv => .tup [keyOf kv.1, kv.2], some (n, .dic true ks)⟩ L1
    | _ => .bad
  | _ => .bad
theorem wk_items {ks : List (Key × D)} {n : Nat} {a : Addr} {o : Obj} {vs : List (Key × V)} (h : H a = some (.frz o (.dK vs))) (r : KR g ρ H ks vs) : Wk g ρ H ⟨ks.map fun kv => .tup [keyOf kv.1, kv.2], some (n, .dic true ks)⟩ (Iti a o vs) where
  go := fun i ρ' L' H' hi p tt hh ok => by
    simp only [List.length_map] at hi
    exact ⟨tt.frz a o _ h, by rw [← r.length]; exact hi⟩
  stop := fun ρ' L' H' p tt hh ok => ⟨tt.frz a o _ h, by simp only [List.length_map]; rw [r.length]; exact Nat.le_refl _⟩
  yld := fun i d ρ' L' H' x H2 e p tt hh ok y => by
    obtain ⟨T, k, v, hk, rfl, hT, rfl⟩ := y
    simp only [List.getElem?_map] at e
    cases hq : ks[i]? with
    | none => rw [hq] at e; cases e
    | some kv =>
      rw [hq] at e
      cases e
      obtain ⟨v2, h2, h3⟩ := r.get (k := kv.1) (d := kv.2) hq
      rw [hk] at h2
      cases h2
      exact ⟨TP.new hT, hh.fresh hT _, .tup (.inl upd_same) (.cons (vr_key _) (.cons (h3.mono p (tt.trans (TP.new hT))) .nil))⟩
theorem si_items {elts : List Expr} {kk : Nat} {tpos apos cpos : Pos} {e : Expr} {a : ME} (h : PE X e (tM ⟨X.K, cm, fx, X.w⟩ W a)) (hbase : attributeBase e "items" X.env (eval e X.env) = eval e X.env := by rfl) (hline : (apos.endLine == cpos.line) = true := by rfl) : PI X (.Tuple elts kk tpos) (.Call (.Attribute e "items" apos) [] [] cpos) (tMI ⟨X.K, cm, fx, X.w⟩ W (mItems a)) :=
  (pi_items h hbase hline).imp fun σ H R q => by
    obtain ⟨ε, ρ, L, he, hh, q⟩ := q
    refine ⟨ε, ρ, L, he, hh, Lf.bind q fun x L1 v ρ1 H1 e1 p1 t1 h1 r1 q1 => ?_⟩
    cases r1 with
    | ref ea =>
      simp only at q1
      split at q1
      · rename_i ks h2
        obtain ⟨vs, o, b1, b2⟩ := h1.ob _ _ _ h2 ea
        exact ⟨_, o, vs, rfl, b1, q1 _ ρ1 H1 (List.prefix_refl _) (TP.refl H1) h1 (wk_items b1 b2)⟩
      · exact q1.elim
    | _ => exact q1.elim
end Tw
end

section
set_option Elab.async false
set_option linter.all false
set_option maxRecDepth 100000
set_option maxHeartbeats 1000000
/-! Tw, part V: d.get, dict comprehensions, enumerate with a start. -/
namespace Tw
open PySem PySem.Spec L2
variable {g : Gx} {ρ ρ' : List Addr} {H H' : Hp} {X : Cx} {W : WX} {L : List O} {cm : Nat → Addr} {fx : Hp} {pins : List (Addr × Obj)} {σ : L2.St} {s : Shared}
/-! ### d.get -/
def isDic (L : List O) : D → Bool
  | .ref n => match L[n]? with
    | some (.dic _ _) => true
    | _ => false
  | _ => false
def oGet (x y z : D) (L : List O) : OD := match x with
  | .ref n => match L[n]? with
    | some (.dic _ ks) => match keyD y with
      | some k => some ((lkK ks k).getD z, L)
      | none => none
    | _ => none
  | _ => none
def mGet2 (o a b : ME) : ME := fun ε L => (o ε L).bind fun x L1 => if isDic L1 x = true then (a ε L1).bind fun y L2 => (b ε L2).bind fun z L3 => ofO (oGet x y z L3) else .bad
def mGet1 (o a : ME) : ME := fun ε L => (o ε L).bind fun x L1 => if isDic L1 x = true then (a ε L1).bind fun y L2 => ofO (oGet x y .non L2) else .bad
theorem isDic_ok {x : D} {v : V} (hh : HR g ρ L H) (r : VR g ρ H x v) (e : isDic L x = true) : ∃ n a lk ks, x = .ref n ∧ v = .ref a ∧ ρ[n]? = some a ∧ L[n]? = some (.dic lk ks) ∧ IsD H a := by
  unfold isDic at e
  cases r with
  | ref ea =>
    simp only at e
    split at e
    · rename_i lk ks h
      obtain ⟨vs, rd, _⟩ := hh.dic h ea
      exact ⟨_, _, lk, ks, rfl, rfl, ea, h, .inl ⟨vs, rd⟩⟩
    · cases e
  | _ => cases e
theorem get_ok {y z : D} {n : Nat} {a : Addr} {yv zv : V} {Q : VK} (hh : HR g ρ L H) (ea : ρ[n]? = some a) (ry : VR g ρ H y yv) (rz : VR g ρ H z zv) (q : LfO g ρ H (oGet (.ref n) y z L) Q) : ∃ o, DGet H a yv o ∧ Q (o.getD zv) H := by
  unfold oGet at q
  simp only at q
  split at q
  · rename_i lk ks h
    split at q
    · rename_i k hk
      rcases hh.dget h ea ry hk with ⟨x, w, l, r, dg⟩ | ⟨l, dg⟩
      · rw [l] at q
        exact ⟨_, dg, LfO.same q hh r⟩
      · rw [l] at q
        exact ⟨_, dg, LfO.same q hh rz⟩
    · exact q.elim
  · exact q.elim
theorem se_get2 (hu : X.A.units + 65 < cLine) {o e f : Expr} {mo ma mb : ME} {apos cpos : Pos} (ho : PE X o (tM g W mo)) (ha : PE X e (tM g W ma)) (hb : PE X f (tM g W mb))
    (hbase : attributeBase o "get" X.env (eval o X.env) = eval o X.env := by rfl)
    (hfew : ((backTo cpos (starEach [e, f] X.env)).all (fun x => !x.1) && (backToKw cpos (keywordEach [] X.env)).all (fun x => x.1.isSome)
      && decide (([e, f] : List Expr).length + ([] : List Keyword).length + (if ([] : List Keyword).isEmpty then 0 else 1) < 30)) = true := by rfl)
    (hline : (apos.endLine == cpos.line) = true := by rfl) (ht : backTo cpos (starEach [e, f] X.env) = [(false, eval e X.env), (false, eval f X.env)] := by rfl) :
    PE X (.Call (.Attribute o "get" apos) [e, f] [] cpos) (tM g W (mGet2 mo ma mb)) :=
  (pe_dget2 (by omega) ho ha hb ⟨hbase, hfew, hline, ht⟩).imp fun σ H Q q => by
    obtain ⟨ε, ρ, L, he, hh, q⟩ := q
    refine ⟨ε, ρ, L, he, hh, Lf.bind q fun x L1 v ρ1 H1 e1 p1 t1 h1 r1 q1 => ?_⟩
    cases hi : isDic L1 x with
    | false => rw [hi, if_neg (by decide)] at q1; exact q1.elim
    | true =>
      rw [hi, if_pos rfl] at q1
      obtain ⟨n, a, lk, ks, rfl, rfl, ea, hL, isd⟩ := isDic_ok h1 r1 hi
      refine ⟨a, rfl, isd, ε, ρ1, L1, he.mono p1 t1, h1, Lf.bind q1 fun y L2 yv ρ2 H2 e2 p2 t2 h2 r2 q2 => ?_⟩
      refine ⟨ε, ρ2, L2, (he.mono p1 t1).mono p2 t2, h2, Lf.bind q2 fun z L3 zv ρ3 H3 e3 p3 t3 h3 r3 q3 => ?_⟩
      exact get_ok h3 (pre_get p3 (pre_get p2 ea)) (r2.mono p3 t3) r3 (LfO.of q3)
theorem se_get1 (hu : X.A.units + 65 < cLine) {o e : Expr} {mo ma : ME} {apos cpos : Pos} (ho : PE X o (tM g W mo)) (ha : PE X e (tM g W ma))
    (hbase : attributeBase o "get" X.env (eval o X.env) = eval o X.env := by rfl)
    (hfew : ((backTo cpos (starEach [e] X.env)).all (fun x => !x.1) && (backToKw cpos (keywordEach [] X.env)).all (fun x => x.1.isSome)
      && decide (([e] : List Expr).length + ([] : List Keyword).length + (if ([] : List Keyword).isEmpty then 0 else 1) < 30)) = true := by rfl)
    (hline : (apos.endLine == cpos.line) = true := by rfl) (ht : backTo cpos (starEach [e] X.env) = [(false, eval e X.env)] := by rfl) :
    PE X (.Call (.Attribute o "get" apos) [e] [] cpos) (tM g W (mGet1 mo ma)) :=
  (pe_dget1 (by omega) ho ha ⟨hbase, hfew, hline, ht⟩).imp fun σ H Q q => by
    obtain ⟨ε, ρ, L, he, hh, q⟩ := q
    refine ⟨ε, ρ, L, he, hh, Lf.bind q fun x L1 v ρ1 H1 e1 p1 t1 h1 r1 q1 => ?_⟩
    cases hi : isDic L1 x with
    | false => rw [hi, if_neg (by decide)] at q1; exact q1.elim
    | true =>
      rw [hi, if_pos rfl] at q1
      obtain ⟨n, a, lk, ks, rfl, rfl, ea, hL, isd⟩ := isDic_ok h1 r1 hi
      refine ⟨a, rfl, isd, ε, ρ1, L1, he.mono p1 t1, h1, Lf.bind q1 fun y L2 yv ρ2 H2 e2 p2 t2 h2 r2 q2 => ?_⟩
      exact get_ok h2 (pre_get p2 ea) r2 .non (LfO.of q2)
/-! ### dict comprehensions -/
def loopD (src : Src) (t : MG) (tt : MB) (tk te : ME) (n : Nat) (ε : En) : List D → List O → Rs D
  | [], L => if src.ok L = true then .ok (.ref n) L else .bad
  | d :: ds, L => if src.ok L = true then (match t.f d ε with
    | none => .bad
    | some ε1 => (tt ε1 L).nox.bind fun b L2 => if b = true then (tk ε1 L2).nox.bind fun x L3 => (te ε1 L3).nox.bind fun y L4 => (match L4[n]?, keyD x with
        | some (.dic false ks), some k => if ks.length < most then loopD src t tt tk te n ε ds (L4.set n (.dic false (putKD ks k y))) else .bad
        | _, _ => .bad) else loopD src t tt tk te n ε ds L2) else .bad
def mDComp (vs : List Nat) (mi : MI) (t : MG) (tt : MB) (tk te : ME) : ME := fun ε L => (mi ε L).bind fun src L1 => loopD src t tt tk te L1.length (wipeE ε vs) src.ds (L1 ++ [.dic false []])
theorem loopD_ok {src : Src} {t : MG} {tt : MB} {tk te : ME} {n : Nat} {ε : En} {ds : List D} {σ : L2.St} {Q : VK} (h : LfD g ρ H σ W (loopD src t tt tk te n ε ds L) Q) : src.ok L = true := by
  cases hk : src.ok L with
  | true => rfl
  | false =>
    cases ds with
    | nil => unfold loopD at h; rw [hk] at h; exact h.elim
    | cons d ds => unfold loopD at h; rw [hk] at h; exact h.elim
theorem dcomp_turns {src : Src} {t : MG} {tt : MB} {tk te : ME} {own : List Nat} {σ : L2.St} {ε : En} {J : It} {Q : VK} (hsub : ∀ i ∈ t.is, i ∈ own) (wk : Wk g ρ H src J) (he : ER g ρ H σ ε) {Dl : Addr} (hD : H Dl = none) (hh : HR g ρ L H)
    (q : LfD g ρ H σ W (loopD src t tt tk te L.length (wipeE ε own) src.ds (L ++ [.dic false []])) Q) :
    ∃ Wv : Nat → Nat → Hp → Prop, (∃ m, Wv 0 m (upd H Dl (.dK []))) ∧ ∀ i m H, Wv i m H →
      (J.stop i H ∧ Q (.ref Dl) H) ∨ (J.go i H ∧ ∃ Nx : Hp → Prop, (∀ H', Nx H' → ∃ m', m' < m ∧ Wv (i + 1) m' H') ∧ ∀ x H', J.yld i H x H' → tMG g t x (wipe σ own) H' fun σ2 H2 => wipe σ2 own = wipe σ own ∧ tMB g W0 tt σ2 H2 fun b H3 =>
        if b = true then tM g W0 tk σ2 H3 fun y H4 => tM g W0 te σ2 H4 fun z H5 => ∃ kvs k, y = kV k ∧ H5 Dl = some (.dK kvs) ∧ kvs.length < sizeLine ∧ Nx (upd H5 Dl (.dK (putK kvs k z))) else Nx H3) := by
  have tD : TP H (upd H Dl (.dK [])) := TP.new hD
  have hr := hh.new hD (u := .dK []) (o := .dic false []) ⟨[], upd_same, .nil⟩
  have eD : (ρ ++ [Dl])[L.length]? = some Dl := by rw [← hh.len]; simp
  let Wd : Nat → Nat → Hp → Prop := fun i m H1 => m = src.ds.length - i ∧ i ≤ src.ds.length ∧ ∃ ρ' L', ρ ++ [Dl] <+: ρ' ∧ TP H H1 ∧ HR g ρ' L' H1 ∧ LfD g ρ' H1 σ W (loopD src t tt tk te L.length (wipeE ε own) (src.ds.drop i) L') Q
  refine ⟨Wd,
    ⟨_, rfl, Nat.zero_le _, ρ ++ [Dl], _, List.prefix_refl _, tD, hr, LfD.mono (pre_snoc _ _) tD q⟩, ?_⟩
  rintro i m H2 ⟨rfl, hi, ρ2, L2, p2, t2, h2, q2⟩
  have p02 : ρ <+: ρ2 := (pre_snoc _ _).trans p2
  have hok := loopD_ok q2
  have eD2 : ρ2[L.length]? = some Dl := pre_get p2 eD
  by_cases hlt : i < src.ds.length
  · obtain ⟨d, hd, hdr⟩ := drop_cons hlt
    rw [hdr] at q2
    unfold loopD at q2
    rw [if_pos hok] at q2
    refine .inr ⟨wk.go i ρ2 L2 H2 hlt p02 t2 h2 hok, Wd (i + 1) (src.ds.length - (i + 1)), fun H' n => ⟨src.ds.length - (i + 1), by omega, n⟩, fun x H3 y => ?_⟩
    · obtain ⟨t3, h3, r3⟩ := wk.yld i d ρ2 L2 H2 x H3 hd p02 t2 h2 hok y
      have he3 : ER g ρ2 H3 (wipe σ own) (wipeE ε own) := (he.mono p02 (t2.trans t3)).wipes own
      cases ht : t.f d (wipeE ε own) with
      | none => rw [ht] at q2; exact q2.elim
      | some ε3 =>
        rw [ht] at q2
        have q3 := LfD.mono (List.prefix_refl _) t3 q2
        refine ⟨ρ2, _, d, ε3, he3, r3, ht, fun σ4 he4 u4 => ⟨by rw [wipe_upd u4 hsub, wipe_wipe], ε3, ρ2, L2, he4, h3, ?_⟩⟩
        refine Lf.nox (Lf.bind q3 fun b L5 v ρ5 H5 _ p5 t5 h5 r5 q5 => ?_)
        cases r5
        have p25 := p2.trans p5
        have t05 := (t2.trans t3).trans t5
        cases b with
        | false =>
          rw [if_neg (by decide)] at q5 ⊢
          exact ⟨rfl, hlt, ρ5, L5, p25, t05, h5, q5⟩
        | true =>
          rw [if_pos rfl] at q5 ⊢
          refine ⟨ε3, ρ5, L5, he4.mono p5 t5, h5, Lf.nox (Lf.bind q5 fun xk L6 xv ρ6 H6 _ p6 t6 h6 r6 q6 => ?_)⟩
          refine ⟨ε3, ρ6, L6, (he4.mono p5 t5).mono p6 t6, h6, Lf.nox (Lf.bind q6 fun y L7 yv ρ7 H7 _ p7 t7 h7 r7 q7 => ?_)⟩
          split at q7
          · rename_i ks k ha hk
            split at q7
            · rename_i hz
              have e7 : ρ7[L.length]? = some Dl := pre_get ((p5.trans p6).trans p7) eD2
              obtain ⟨vs, b1, b2⟩ := h7.ob _ _ _ ha e7
              have t8 : TP H7 (upd H7 Dl (.dK (putK vs k yv))) := TP.mut b1 rfl
              refine ⟨vs, k, keyD_ok r6 hk, b1, Nat.lt_of_lt_of_le (by rw [← b2.length]; exact hz) (most_le (Nat.le_refl _)), rfl, hlt, ρ7, _, (p25.trans p6).trans p7, ((t05.trans t6).trans t7).trans t8, ?_, LfD.mono (List.prefix_refl _) t8 q7⟩
              exact h7.set e7 b1 rfl ⟨_, upd_same, (b2.put r7).mono (List.prefix_refl _) t8⟩
            · exact q7.elim
          · exact q7.elim
  · have e : i = src.ds.length := by omega
    subst e
    rw [List.drop_length] at q2
    unfold loopD at q2
    rw [if_pos hok] at q2
    exact .inl ⟨wk.stop ρ2 L2 H2 p02 t2 h2 hok, q2 _ ρ2 H2 (List.prefix_refl _) (TP.refl H2) h2 (.ref eD2)⟩
theorem se_dc {kx vx tg iter : Expr} {ifs : List Expr} {scope : Scope} {own : List (Str × Nat)} {pos : Pos} {mi : MI} {t : MG} {tt : MB} {tk te : ME} (hc : X.calm = true) (hN : X.N.Nodup) (hi : PI X tg iter (tMI g W mi)) (ok : BlkOk X.N X.env.scope scope own)
    (hg : InBlk X scope fun Y => PG Y tg (tMG g t)) (ht : InBlk X scope fun Y => STs g Y ifs tt) (hk : InBlk X scope fun Y => PE Y kx (tM g W0 tk)) (he : InBlk X scope fun Y => PE Y vx (tM g W0 te)) (hsub : ∀ i ∈ t.is, i ∈ own.map (·.2) := by decide) (hs : ∀ x, foldedSetIterable iter X.env x = pure x := by intro _; rfl) :
    PE X (.DictComp kx vx [⟨tg, iter, ifs, 0⟩] scope pos) (tM g W (mDComp (own.map (·.2)) mi t tt tk te)) :=
  (pe_dc hc hN hi ok hg (fun s H C cl fp => (ht s H C cl fp).h) hk he hs).imp fun σ H Q q => by
    obtain ⟨ε, ρ, L, he, hh, q⟩ := q
    refine ⟨ε, ρ, L, he, hh, Lf.bind q fun src L1 J ρ1 H1 _ p1 t1 h1 wk q1 => fun Dl hD => ?_⟩
    exact dcomp_turns hsub wk (he.mono p1 t1) hD h1 q1
/-! ### enumerate(t, start=k) of a tuple -/
theorem callWith_kwT {M : Model} {A : Around} {E : Value → Shared → Prop} {s : Shared} {env : Env} {pos : Pos} {T : String} {e : Expr} {rest : List Expr} {kws : List Keyword} {Q : Value → Shared → Prop}
    (h : wpAny M A (spliced (backTo pos (starEach (e :: rest) env))) (fun vs s₁ => wpAny M A (evalAll ((backToKw pos (keywordEach kws env)).map (·.2)))
      (fun kvs s₂ => wpAny M A (call (.type T) vs (((backToKw pos (keywordEach kws env)).filterMap (·.1)).zip kvs)) Q E s₂) E s₁) E s)
    (he : backTo pos (starEach (e :: rest) env) = (false, eval e env) :: backTo pos (starEach rest env) := by rfl)
    (hplain : (backTo pos (starEach (e :: rest) env)).any (·.1) = false := by rfl)
    (hall : (backToKw pos (keywordEach kws env)).all (·.1.isSome) = true := by rfl)
    (hkw : (backToKw pos (keywordEach kws env)).any (·.1.isNone) = false := by rfl) :
    wpAny M A (callWith pos (.type T) [] (backTo pos (starEach (e :: rest) env)) (backToKw pos (keywordEach kws env))) Q E s := by
  have h' : wpAny M A (evalArgs (.type T) true (backTo pos (starEach (e :: rest) env)) (backToKw pos (keywordEach kws env))) (fun a s₁ => wpAny M A (call (.type T) ([] ++ a.pos) a.kw) Q E s₁) E s := by
    rw [he] at h ⊢
    exact PyProof.Rows.evalArgs_kwB hall h
  unfold callWith
  refine wpAny_bind (wpAny_holding (wpAny_mono h' (fun a s₁ h₁ => wpAny_bind (wpAny_standAt ?_)) fun _ _ x => x))
  simp only [hplain, hkw, Bool.or_false]
  refine wpAny_bind (wpAny_pure ?_)
  exact wpAny_bind (wpAny_mono h₁ (fun r s₂ hr => wpAny_bind (wpAny_holding (wpAny_point (wpAny_pure hr)))) fun _ _ x => x)
def iEnumK (K : PySem.W.Frag) (ta tk : TA) : TI := fun σ H R => ta σ H fun vs H1 => tk σ H1 fun zs H2 => ∃ a xs k, vs = [.ref a] ∧ zs = [.int k] ∧ SqT K H2 a xs ∧ -(2 ^ 63) ≤ k ∧ k < 2 ^ 63 ∧ R (IteT K a k) H2
theorem pi_enumK {e e2 : Expr} {ta tk : TA} {p pos tpos kpos : Pos} {elts : List Expr} {kk : Nat} (hg : Gl X "enumerate") (hm : X.mg "enumerate" = none) (ha : PA X [e] ta) (hk : PK X [⟨some "start", e2, kpos⟩] tk)
    (he : backTo pos (starEach [e] X.env) = (false, eval e X.env) :: backTo pos (starEach [] X.env) := by rfl) (hpl : (backTo pos (starEach [e] X.env)).any (·.1) = false := by rfl)
    (hall : (backToKw pos (keywordEach [⟨some "start", e2, kpos⟩] X.env)).all (·.1.isSome) = true := by rfl) (hnone : (backToKw pos (keywordEach [⟨some "start", e2, kpos⟩] X.env)).any (·.1.isNone) = false := by rfl)
    (hks : (backToKw pos (keywordEach [⟨some "start", e2, kpos⟩] X.env)).filterMap (·.1) = [Str.ofString "start"] := by rfl) :
    PI X (.Tuple elts kk tpos) (.Call (.Name "enumerate" p) [e] [⟨some "start", e2, kpos⟩] pos) (iEnumK X.K ta tk) := by
  refine ⟨fun pins s σ H R I h => ?_⟩
  refine wpAny_Call_Name_kw (ld_blt I hg hm PyProof.Rows.boot_enumerate ?_)
  refine callWith_kwT (thn (ha.run pos pins s σ H _ I h) fun us s1 ⟨vs, H1, I1, r1, q1⟩ => thn (hk.run pos pins s1 σ H1 _ I1 q1) fun ws s2 ⟨zs, H2, I2, r2, a, xs, k, ev, ez, hq, k0, k1, q⟩ => ?_) he hpl hall hnone
  rw [hks]
  subst ev ez
  cases r1 with
  | cons r rr =>
    cases rr
    cases r
    cases r2 with
    | cons r rr =>
      cases rr
      obtain ⟨t, rfl⟩ := r
      obtain ⟨its, rv, p', hz⟩ := I2.tuple hq
      exact enum_begins_start (begins_tuple a its.toArray) p' k0 k1 fun h' he hit hsz hk => enum_itT (tg := e) I2 hq he hit hsz hk q
def mEnumK (a b : ME) : MI := fun ε L => (a ε L).bind fun x L1 => (b ε L1).bind fun y L2 => match x, y with
  | .tup ds, .int k => if -1000000 ≤ k ∧ k ≤ 1000000 then .ok ⟨enumD k ds, none⟩ L2 else .bad
  | _, _ => .bad
theorem si_enumK {elts : List Expr} {kk : Nat} {tpos p pos kpos : Pos} {e e2 : Expr} {a b : ME} (hg : Gl X "enumerate") (hm : X.mg "enumerate" = none) (h : PA X [e] (tCons (tM ⟨X.K, cm, fx, X.w⟩ W a) tNil)) (hb : PE X e2 (tM ⟨X.K, cm, fx, X.w⟩ W b))
    (he : backTo pos (starEach [e] X.env) = (false, eval e X.env) :: backTo pos (starEach [] X.env) := by rfl) (hpl : (backTo pos (starEach [e] X.env)).any (·.1) = false := by rfl)
    (hall : (backToKw pos (keywordEach [⟨some "start", e2, kpos⟩] X.env)).all (·.1.isSome) = true := by rfl) (hnone : (backToKw pos (keywordEach [⟨some "start", e2, kpos⟩] X.env)).any (·.1.isNone) = false := by rfl)
    (hks : (backToKw pos (keywordEach [⟨some "start", e2, kpos⟩] X.env)).filterMap (·.1) = [Str.ofString "start"] := by rfl) :
    PI X (.Tuple elts kk tpos) (.Call (.Name "enumerate" p) [e] [⟨some "start", e2, kpos⟩] pos) (tMI ⟨X.K, cm, fx, X.w⟩ W (mEnumK a b)) :=
  (pi_enumK hg hm h (pk_cons hb pk_nil) he hpl hall hnone hks).imp fun σ H R q => by
    obtain ⟨ε, ρ, L, he, hh, q⟩ := q
    refine ⟨ε, ρ, L, he, hh, Lf.bind q fun x L1 v ρ1 H1 e1 p1 t1 h1 r1 q1 => ?_⟩
    refine ⟨ε, ρ1, L1, he.mono p1 t1, h1, Lf.bind q1 fun y L2 u ρ2 H2 e2 p2 t2 h2 r2 q2 => ?_⟩
    split at q2
    · cases r1 with
      | tup s t =>
        cases r2
        split at q2
        · rename_i hz
          exact ⟨_, _, _, rfl, rfl, t2.rd s.sq, by omega, by omega, q2 _ ρ2 H2 (List.prefix_refl _) (TP.refl H2) h2 (wk_enumT (t2.rd s.sq) (t.mono p2 t2))⟩
        · exact q2.elim
    · exact q2.elim
end Tw
end

section
set_option Elab.async false
set_option linter.all false
set_option maxRecDepth 100000
set_option maxHeartbeats 1000000
/-! Tw, part X: sorted. -/
namespace Tw
open PySem PySem.Spec L2
variable {g : Gx} {ρ ρ' : List Addr} {H H' : Hp} {X : Cx} {W : WX} {L : List O} {cm : Nat → Addr} {fx : Hp} {pins : List (Addr × Obj)} {σ : L2.St} {s : Shared}
/-! ### a sort that the kernel reckons -/
section
variable {α : Type} (le : α → α → Bool)
def insS (x : α) : List α → List α
  | [] => [x]
  | y :: ys => if le x y = true then x :: y :: ys else y :: insS x ys
def sortS : List α → List α
  | [] => []
  | x :: xs => insS le x (sortS xs)
variable {le}
theorem insS_mem {x z : α} : ∀ {l : List α}, z ∈ insS le x l → z = x ∨ z ∈ l
  | [], h => by simp [insS] at h; exact .inl h
  | y :: ys, h => by
    unfold insS at h
    split at h
    · simpa using h
    · rcases List.mem_cons.mp h with h | h
      · exact .inr (by simp [h])
      · rcases insS_mem h with h | h
        · exact .inl h
        · exact .inr (List.mem_cons_of_mem _ h)
theorem insS_pw (T : PySem.W.TotalLe le) {x : α} : ∀ {l : List α}, l.Pairwise (fun a b => le a b = true) → (insS le x l).Pairwise fun a b => le a b = true
  | [], _ => by simp [insS]
  | y :: ys, h => by
    unfold insS
    split
    · rename_i hxy
      refine List.pairwise_cons.mpr ⟨fun z hz => ?_, h⟩
      rcases List.mem_cons.mp hz with e | hz
      · rw [e]; exact hxy
      · exact T.trans _ _ _ hxy ((List.pairwise_cons.mp h).1 z hz)
    · rename_i hxy
      refine List.pairwise_cons.mpr ⟨fun z hz => ?_, insS_pw T (List.pairwise_cons.mp h).2⟩
      rcases insS_mem hz with e | hz
      · rw [e]
        rcases T.total x y with h1 | h1
        · exact absurd h1 hxy
        · exact h1
      · exact (List.pairwise_cons.mp h).1 z hz
theorem insS_filter (T : PySem.W.TotalLe le) {x c : α} : ∀ {l : List α}, (insS le x l).filter (PySem.W.sameRank le c) = (x :: l).filter (PySem.W.sameRank le c)
  | [] => by simp [insS]
  | y :: ys => by
    unfold insS
    split
    · rfl
    · rename_i hxy
      rw [List.filter_cons, insS_filter T, List.filter_cons (x := x), List.filter_cons (x := x), List.filter_cons (x := y)]
      by_cases hx : PySem.W.sameRank le c x = true
      · have hy : ¬ PySem.W.sameRank le c y = true := fun hy => hxy (by
          unfold PySem.W.sameRank at hx hy
          simp only [Bool.and_eq_true] at hx hy
          exact T.trans _ _ _ hx.2 hy.1)
        simp [hx, hy]
      · simp [hx]
theorem sortS_eq (T : PySem.W.TotalLe le) (l : List α) : sortS le l = l.mergeSort le := by
  have pw : ∀ l : List α, (sortS le l).Pairwise fun a b => le a b = true := by
    intro l
    induction l with
    | nil => exact List.Pairwise.nil
    | cons x xs ih => exact insS_pw T ih
  have fl : ∀ (c : α) (l : List α), (sortS le l).filter (PySem.W.sameRank le c) = l.filter (PySem.W.sameRank le c) := by
    intro c l
    induction l with
    | nil => rfl
    | cons x xs ih =>
      rw [show sortS le (x :: xs) = insS le x (sortS le xs) from rfl, insS_filter T, List.filter_cons, List.filter_cons, ih]
  exact PySem.W.sort_unique T (pw l) fun c => fl c l
end
def encD (L : List O) (d : D) : PyData := (toPy L pyDeep d).getD .none
def allAlikeB (ps : List PyData) : Bool := ps.all fun p => ps.all fun q => PySem.W.alike p q
def sortableB (ps : List PyData) : Bool := (ps.all fun p => match p with
    | .tuple (_ :: _) => true
    | _ => false) || ps.all fun p => match p with
    | .none => false
    | .tuple _ => false
    | _ => true
theorem allAlike_ok {ps : List PyData} (h : allAlikeB ps = true) : PySem.W.AllAlike ps := fun d hd d' hd' => by
  have := List.all_eq_true.mp (List.all_eq_true.mp h d hd) d' hd'
  exact this
theorem sortable_ok {ps : List PyData} (h : sortableB ps = true) : PySem.W.Sortable ps := by
  unfold sortableB at h
  rw [Bool.or_eq_true] at h
  rcases h with h | h
  · refine .inl fun d hd => ?_
    have := List.all_eq_true.mp h d hd
    split at this
    · exact ⟨_, _, rfl⟩
    · cases this
  · refine .inr fun d hd => ?_
    have := List.all_eq_true.mp h d hd
    split at this
    · cases this
    · cases this
    · rename_i h1 h2
      exact ⟨h1, h2⟩
/-- the items sorted; none where their order is not served -/
def sortedD (L : List O) (ds : List D) : Option (List D) :=
  if (ds.all fun d => match toPy L pyDeep d with
      | some p => decide (p.depth ≤ 16)
      | none => false) = true ∧ allAlikeB (ds.map (encD L)) = true ∧ sortableB (ds.map (encD L)) = true ∧ ds.length ≤ most then some (sortS (PySem.W.dataLe false (encD L)) ds) else none
def cSorted : OC := fun ds L => match ds with
  | [.ref n] => match L[n]? with
    | some (.lst xs) => (sortedD L xs).map fun ys => (.ref L.length, L ++ [.lst ys])
    | _ => none
  | _ => none
theorem each_both {α β : Type} {R : α → β → Prop} : ∀ {as : List α} {bs : List β}, PySem.W.EachIs R as bs → ∀ (i : Nat) a b, as[i]? = some a → bs[i]? = some b → R a b
  | _, _, .nil, i, a, b, e, _ => by simp at e
  | _, _, .cons h t, 0, a, b, e, e2 => by simp at e e2; subst e e2; exact h
  | _, _, .cons h t, i + 1, a, b, e, e2 => each_both t i a b (by simpa using e) (by simpa using e2)
def RD (g : Gx) (ρ : List Addr) (H : Hp) : Value → D → Prop := fun v d => ∃ x, RelV x v ∧ VR g ρ H d x
theorem each_in : ∀ {ds : List D} {vs : List V} {us : List Value}, VRs g ρ H ds vs → Vals vs us → PySem.W.EachIs (RD g ρ H) us ds
  | _, _, _, .nil, .nil => .nil
  | _, _, _, .cons r t, .cons r2 t2 => .cons ⟨_, r2, r⟩ (each_in t t2)
theorem each_out : ∀ {ds : List D} {us : List Value}, PySem.W.EachIs (RD g ρ H) us ds → ∃ vs, VRs g ρ H ds vs ∧ Vals vs us
  | _, _, .nil => ⟨[], .nil, .nil⟩
  | _, _, .cons ⟨x, r1, r2⟩ t => by
    obtain ⟨vs, h1, h2⟩ := each_out t
    exact ⟨x :: vs, .cons r2 h1, .cons r1 h2⟩
theorem each_reads (I : Inv X pins σ H s) (hh : HR ⟨X.K, cm, fx, X.w⟩ ρ L H) : ∀ {ds : List D} {us : List Value}, PySem.W.EachIs (RD ⟨X.K, cm, fx, X.w⟩ ρ H) us ds → (∀ d ∈ ds, ∃ p, toPy L pyDeep d = some p) → PySem.W.EachIs (fun v d => ∃ as, Reads s.heap v (encD L d) as) us ds
  | _, _, .nil, _ => .nil
  | _, _, .cons (b := d) ⟨x, r1, r2⟩ t, h => by
    obtain ⟨p, hp⟩ := h d List.mem_cons_self
    refine .cons ?_ (each_reads I hh t fun e he => h e (List.mem_cons_of_mem _ he))
    have : encD L d = p := by unfold encD; rw [hp]; rfl
    rw [this]
    exact Dp.reads I p x _ (toPy_ok hh _ _ _ _ hp r2) r1
theorem c_sorted (hu : X.A.units + 65 < cLine) : CallR X (.builtin "sorted") (rC ⟨X.K, cm, fx, X.w⟩ cSorted) := by
  intro pins s σ H xs us Q I r q
  obtain ⟨ρ, L, ds, hh, rr, q⟩ := q
  unfold cSorted at q
  split at q
  · rename_i n
    obtain ⟨v, rfl, rv⟩ := rr.one
    cases rv with
    | ref ea =>
      rename_i a
      obtain ⟨u, rfl, ru⟩ := r.one
      obtain rfl : u = Value.ref a := ru
      split at q
      · rename_i zs hz
        cases hs : sortedD L zs with
        | none => rw [hs] at q; exact q.elim
        | some ys =>
          rw [hs] at q
          simp only [Option.map_some] at q
          unfold sortedD at hs
          split at hs
          · rename_i hc
            obtain ⟨c1, c2, c3, c4⟩ := hc
            have hys : ys = zs.mergeSort (PySem.W.dataLe false (encD L)) := by
              have := sortS_eq (le := PySem.W.dataLe false (encD L)) (by unfold PySem.W.dataLe; exact PySem.W.sortLe_total _ _ _) zs
              exact (Option.some.inj hs).symm.trans this
            subst hys
            obtain ⟨vs, b1, b2⟩ := hh.lst hz ea
            obtain ⟨its, rel, ⟨o, k, ho, hcl, hdn, hdat⟩, hlen⟩ := I.list (SqL.of b1)
            have e1 := each_in b2 rel
            have py : ∀ d ∈ zs, ∃ p, toPy L pyDeep d = some p ∧ p.depth ≤ 16 := fun d hd => by
              have := List.all_eq_true.mp c1 d hd
              split at this
              · rename_i p hp
                exact ⟨p, hp, of_decide_eq_true this⟩
              · cases this
            have e2 := each_reads I hh e1 fun d hd => let ⟨p, hp, _⟩ := py d hd; ⟨p, hp⟩
            refine PySem.W.sorted_data (bs := zs) (enc := encD L) (R := RD ⟨X.K, cm, fx, X.w⟩ ρ H) ⟨o, ho, hcl, k, hdat⟩ e1 e2 (allAlike_ok c2) (sortable_ok c3) (Nat.le_trans c4 (most_le (Nat.le_refl _))) (fun d hd => ?_) fun out hl eo => ?_
            · obtain ⟨p, hp, h16⟩ := py d hd
              have : encD L d = p := by unfold encD; rw [hp]; rfl
              rw [this]
              omega
            · obtain ⟨ws, w1, w2⟩ := each_out eo
              obtain ⟨ee, hat⟩ := PyProof.Rows.sortedAll_at s.heap its out.toArray
              have hn : H (s.heap.objs.size + 1) = none := I.hok.fresh (Nat.le_succ _)
              have hz2 : ws.length ≤ sizeLine := by
                rw [← w1.length, List.length_mergeSort]
                exact Nat.le_trans c4 (most_le (Nat.le_refl _))
              have I2 := I.laid (a := s.heap.objs.size + 1) (o := .lst ws) (h' := PyProof.Rows.sortedAll s.heap its out.toArray) (t' := s.toks) (fun _ _ q => PyProof.Rows.sortedAll_old q) (Nat.le_succ _) ⟨hz2, out, ee, w2, hat⟩
              exact ⟨.ref (s.heap.objs.size + 1), _, I2, rfl, LfO.newL q hh w1 hn⟩
          · cases hs
      · exact q.elim
  · exact q.elim
end Tw
namespace Tw
def lkVar (i : Nat) : En → List O → Option Nat := fun ε _ => match ε[i]? with
  | some (some (.ref n)) => some n
  | _ => none
def lkFld (i : Nat) (f : PySem.Str) : En → List O → Option Nat := fun ε L => match ε[i]? with
  | some (some (.ref n)) => match L[n]? with
    | some (.ins _ fs) => match fs.lookup f with
      | some (.ref m) => some m
      | _ => none
    | _ => none
  | _ => none
end Tw
end

section
set_option Elab.async false
set_option linter.all false
set_option maxRecDepth 100000
set_option maxHeartbeats 1000000
/-! Tw, part Y: name = {k: v for ..}. -/
namespace Tw
open PySem PySem.Spec PyProof.Rows L2
variable {g : Gx} {ρ ρ' : List Addr} {H H' : Hp} {X : Cx} {W : WX} {L : List O} {cm : Nat → Addr} {fx : Hp} {pins : List (Addr × Obj)} {σ : L2.St} {s : Shared}
theorem ps_setDc {i : Nat} {y : Str} {py : Pos} {kx vx tg iter : Expr} {ifs : List Expr} {scope : Scope} {own : List (Str × Nat)} {pos spos : Pos} {wi : TI} {g : TG} {tt : TT} {tk te : TE} (hc : X.calm = true) (hN : X.N.Nodup) (hy : X.N[i]? = some y) (hyl : X.env.scope.names.lookup y = some .local)
    (hsw : swapsWith (.DictComp kx vx [⟨tg, iter, ifs, 0⟩] scope pos) (some (.Name y py)) spos.line X.env = pure true) (hi : PI X tg iter wi) (ok : BlkOk X.N X.env.scope scope own)
    (hg : ∀ (s : Shared) (H : Hp) (C : Addr) (cl : List (Str × Addr)) (fp : List Addr), PG (X.blk s H scope (compEnvC scope cl C X.env) fp) tg g) (ht : ∀ (s : Shared) (H : Hp) (C : Addr) (cl : List (Str × Addr)) (fp : List Addr), PTs (X.blk s H scope (compEnvC scope cl C X.env) fp) ifs tt)
    (hk : ∀ (s : Shared) (H : Hp) (C : Addr) (cl : List (Str × Addr)) (fp : List Addr), PE (X.blk s H scope (compEnvC scope cl C X.env) fp) kx tk)
    (he : ∀ (s : Shared) (H : Hp) (C : Addr) (cl : List (Str × Addr)) (fp : List Addr), PE (X.blk s H scope (compEnvC scope cl C X.env) fp) vx te) (hs : ∀ x, foldedSetIterable iter X.env x = pure x := by intro _; rfl) :
    PS X (.Assign [.Name y py] (.DictComp kx vx [⟨tg, iter, ifs, 0⟩] scope pos) spos) (tAsg (tDc wi g tt tk te (own.map (·.2))) (gName i)) := by
  refine ⟨fun pins s σ H D I h => ?_⟩
  rw [exec_Assign_Name_used _ _ _ _ hsw]
  refine wpAny_bind (wpAny_standAt (wpAny_bind ?_))
  show wpAny _ X.A (do let _ ← comprehension (.DictComp kx vx [⟨tg, iter, ifs, 0⟩] scope pos) scope X.env (firstIterPos [⟨tg, iter, ifs, 0⟩] pos) newDict false (eval iter X.env) (some (assign (.Name y py) X.env))) _ _ s
  have h : tDc wi g tt tk te (own.map (·.2)) σ H (fun x H1 => gName i x σ H1 D.nx) := h
  refine wpAny_bind (thn (dc_core (Qf := fun _ s' => SP X pins D .next s') hc hN I hi ok hg ht hk he hs h fun L C s' m H' I' q hn f => ?_) fun _ s' hq => wpAny_pure (wpAny_pure hq))
  show wpAny _ _ (assign (.Name y py) X.env (.ref L)) _ _ _
  refine wpAny_assign_Name (store_ok2 (v := V.ref L) I' hN hy (.inl hyl) rfl (fun s2 I2 ⟨a, sb, ha⟩ => ?_) (.inr hyl))
  obtain ⟨f0, f1, f2, f3, f4, f5⟩ := f
  have haC : C ≠ a := by
    rcases ha with z | z
    · rw [z]; exact f1
    · exact fun e => f4 y a z e.symm
  refine ⟨m, hn.sameBut sb haC, fun h3 sb3 => ?_⟩
  exact ⟨_, H', I2.turned (t' := s2.toks) (fun b o hb e => (sb3.2 b hb).trans e) f0 f1 f3 f4 f5, q⟩
theorem sw_trueD {kx vx : Expr} {gs : List Comprehension} {scope : Scope} {pos py : Pos} {y : Str} {l : Nat} {env : Env} (hk : env.scope.kind = .function) (hy : env.scope.names.lookup y = some .local) (hl : (py.line == pos.line) = true)
    (ha : (scope.names.any fun (n, k) => n == y && (k == .local || k == .cell)) = false) : swapsWith (.DictComp kx vx gs scope pos) (some (.Name y py)) l env = pure true := by
  have ky : env.kindOf y = some .local := hy
  have hb : env.blockKind = .function := by unfold Env.blockKind; rw [hk]; rfl
  unfold swapsWith
  simp only [hb, ky, ha, Expr.pos, hl]
  rfl
theorem ss_setDc {i : Nat} {y : Str} {py : Pos} {kx vx tg iter : Expr} {ifs : List Expr} {scope : Scope} {own : List (Str × Nat)} {pos spos : Pos} {mi : MI} {t : MG} {tt : MB} {tk te : ME} (hc : X.calm = true) (hN : X.N.Nodup) (hy : X.N[i]? = some y) (hi : PI X tg iter (tMI g W mi)) (ok : BlkOk X.N X.env.scope scope own)
    (hg : InBlk X scope fun Y => PG Y tg (tMG g t)) (ht : InBlk X scope fun Y => STs g Y ifs tt) (hk : InBlk X scope fun Y => PE Y kx (tM g W0 tk)) (he : InBlk X scope fun Y => PE Y vx (tM g W0 te)) (hsub : ∀ i ∈ t.is, i ∈ own.map (·.2) := by decide) (hyl : X.env.scope.names.lookup y = some .local := by rfl)
    (hsw : swapsWith (.DictComp kx vx [⟨tg, iter, ifs, 0⟩] scope pos) (some (.Name y py)) spos.line X.env = pure true := by exact sw_trueD rfl rfl rfl (by decide +kernel)) (hs : ∀ x, foldedSetIterable iter X.env x = pure x := by intro _; rfl) :
    PS X (.Assign [.Name y py] (.DictComp kx vx [⟨tg, iter, ifs, 0⟩] scope pos) spos) (tMS g W (mSet i (mDComp (own.map (·.2)) mi t tt tk te))) :=
  (ps_setDc hc hN hy hyl hsw hi ok hg (fun s H C cl fp => (ht s H C cl fp).h) hk he hs).imp fun D σ H q => by
    obtain ⟨ε, ρ, L, he, hh, q⟩ := q
    have q2 : LfD g ρ H σ W (mDComp (own.map (·.2)) mi t tt tk te ε L) (fun x H1 => gName i x σ H1 D.nx) := LfS.bind he q fun x L1 v ρ1 H1 _ p1 t1 h1 r1 q1 => q1 _ ρ1 H1 (List.prefix_refl _) (TP.refl H1) h1 ((he.mono p1 t1).set i r1)
    refine ⟨ε, ρ, L, he, hh, Lf.bind q2 fun src L1 J ρ1 H1 _ p1 t1 h1 wk q1 => fun Dl hD => ?_⟩
    exact dcomp_turns hsub wk (he.mono p1 t1) hD h1 q1
end Tw
end

section
set_option Elab.async false
set_option linter.all false
set_option maxRecDepth 100000
set_option maxHeartbeats 1000000
/-! Tw, part Z: xs[::-1] of lists and tuples; tuple * n. -/
namespace Tw
open PySem PySem.Spec PyProof.Rows L2 HT
variable {g : Gx} {ρ ρ' : List Addr} {H H' : Hp} {X : Cx} {W : WX} {L : List O} {cm : Nat → Addr} {fx : Hp} {pins : List (Addr × Obj)} {σ : L2.St} {s : Shared}
section
variable {prog : Program} {w : World} {A : Around} {E : Value → Shared → Prop}
theorem adjust_rev (n : Nat) : Builtin.Slice.sliceAdjust none none (-1) (n : Int) = ((n : Int) - 1, -1) := by
  unfold Builtin.Slice.sliceAdjust
  simp
theorem places_rev (n : Nat) : Builtin.Slice.slicePlaces ((n : Int) - 1) (-1) (-1) = n := by
  unfold Builtin.Slice.slicePlaces
  simp
  try omega
theorem sliceApplied_rev {sl : Addr} {vl vu vs : Value} {n : Nat} {Q : Int × Int × Nat → Shared → Prop} (hs : s.heap.IsSliceOf sl vl vu vs) (pl : IsPart vl none) (pu : IsPart vu none) (ps : IsPart vs (some (-1)))
    (h : Q ((n : Int) - 1, -1, n) s) : wpAny (model prog w) A (Builtin.Slice.sliceApplied (.ref sl) (pure (n : Int))) Q E s := by
  obtain ⟨os, hos, hcs, hds⟩ := id hs
  unfold Builtin.Slice.sliceApplied Builtin.Slice.sliceFields
  refine wpAny_bind (wpAny_bind (wpAny_field hos hds (x := vl) rfl (wpAny_bind (wpAny_field hos hds (x := vu) rfl (wpAny_bind (wpAny_field hos hds (x := vs) rfl (wpAny_pure ?_)))))))
  refine wpAny_bind (slicePart_ ps ?_)
  show wpAny _ _ (if ((-1 : Int) == 0) = true then _ else _) _ _ s
  rw [if_neg (by decide)]
  refine wpAny_bind (slicePart_ pl (wpAny_bind (slicePart_ pu (wpAny_bind (wpAny_pure ?_)))))
  show wpAny _ _ (match Builtin.Slice.sliceAdjust none none (-1) (n : Int) with | (lo, hi) => pure (lo, (-1 : Int), Builtin.Slice.slicePlaces lo hi (-1))) _ _ s
  rw [adjust_rev n]
  show wpAny _ _ (pure ((n : Int) - 1, (-1 : Int), Builtin.Slice.slicePlaces ((n : Int) - 1) (-1) (-1))) _ _ s
  rw [places_rev]
  exact wpAny_pure h
theorem pick_rev (xs : Array Value) : ((List.range xs.size).filterMap fun (m : Nat) => xs[(((xs.size : Nat) : Int) - 1 + (m : Int) * (-1)).toNat]?).toArray = xs.toList.reverse.toArray := by
  congr 1
  refine List.ext_getElem? fun i => ?_
  have hf : ∀ l : List Nat, (∀ m ∈ l, m < xs.size) → l.filterMap (fun (m : Nat) => xs[(((xs.size : Nat) : Int) - 1 + (m : Int) * (-1)).toNat]?) = l.map fun m => xs.toList.reverse.getD m .none := by
    intro l
    induction l with
    | nil => intro _; rfl
    | cons m l ih =>
      intro h
      have hm := h m List.mem_cons_self
      have e : (((xs.size : Nat) : Int) - 1 + (m : Int) * (-1)).toNat = xs.size - 1 - m := by omega
      have hlt : xs.size - 1 - m < xs.size := by omega
      have e2 : xs[xs.size - 1 - m]? = some (xs.toList.reverse.getD m .none) := by
        rw [List.getD_eq_getElem?_getD, List.getElem?_reverse (by simpa using hm)]
        simp [hlt]
      rw [List.filterMap_cons, e, e2]
      simp only [List.map_cons]
      rw [ih fun k hk => h k (List.mem_cons_of_mem _ hk)]
  rw [hf _ fun m hm => List.mem_range.mp hm]
  by_cases hi : i < xs.size
  · simp [hi]
  · rw [List.getElem?_eq_none (by simpa using hi), List.getElem?_eq_none (by simpa using hi)]
theorem getItem_tuple_rev {t sl : Addr} {items : Array Value} {vl vu vs : Value} {Q : Value → Shared → Prop} (ht : IsTup s.heap t items) (hs : s.heap.IsSliceOf sl vl vu vs) (pl : IsPart vl none) (pu : IsPart vu none) (ps : IsPart vs (some (-1)))
    (h : Q (.ref s.heap.objs.size) { s with heap := s.heap.push { cls := .type "tuple", data := .seq items.toList.reverse.toArray } })
    (hsz : items.size ≤ sizeLine) : wpAny (model prog w) A (getItem (.ref t) (.ref sl)) Q E s := by
  have htake : sizeOk (.seq items.toList.reverse.toArray) := by
    show items.toList.reverse.toArray.size ≤ sizeLine
    simpa using hsz
  obtain ⟨os, hos, hcs, hds⟩ := id hs
  have hTs : s.TypeIs (.ref sl) "slice" := ⟨os, hos, hcs⟩
  unfold getItem
  try with_reducible refine wpAny_holding ?_
  first | refine wpAny_bind (wpAny_pure ?_) | skip
  refine wpAny_bind (wpAny_sequenceKey ht.typeIs (by decide) ?_)
  refine wpAny_bind (wpAny_callSpecial?_slot (name := Str.ofString "__getitem__") ht.typeIs PyProof.Rows.slot_tuple_getitem
    (wpAny_call_entry PyProof.Rows.slot_tuple_getitem ht.typeIs entry_tuple_getitem ?_ (args_tuple_getitem _ _)))
  show wpAny _ _ (Builtin.Tuple.tupleItemsOf (.ref t) >>= _) _ _ s
  refine wpAny_bind (tupleItemsOf_ ht ?_)
  refine wpAny_bind (wpAny_typeOf hTs ?_)
  rw [if_pos (by decide)]
  refine wpAny_bind (sliceApplied_rev hs pl pu ps ?_)
  have hno : ¬ ((((items.size : Nat) : Int) - 1 == 0 && (-1 : Int) == 1 && items.size == items.size) = true) := by
    simp
  show wpAny _ _ (if (((items.size : Nat) : Int) - 1 == 0 && (-1 : Int) == 1 && items.size == items.size) = true then _ else _) _ _ s
  rw [if_neg hno, pick_rev]
  first
    | exact wpAny_bind (m := Builtin.Tuple.tupleExact _) (wpAny_newObj_type (wpAny_pure ⟨_, rfl, wpAny_pure h⟩) htake)
    | exact wpAny_bind (m := Builtin.Tuple.tupleExact _) (wpAny_newObj_type (wpAny_bind (wpAny_pure (wpAny_pure ⟨_, rfl, wpAny_pure h⟩))) htake)
    | exact wpAny_bind (wpAny_bind (m := Builtin.Tuple.tupleExact _) (wpAny_newObj_type (wpAny_pure (wpAny_pure ⟨_, rfl, wpAny_pure h⟩)) htake))
    | exact wpAny_bind (wpAny_bind (m := Builtin.Tuple.tupleExact _) (wpAny_newObj_type (wpAny_pure ⟨_, rfl, wpAny_pure h⟩) htake))
end
def tRevA (K : PySem.W.Frag) (te : TE) : TE := fun σ H Q => te σ H fun x H1 => ∃ a xs, x = .ref a ∧ ((SqL K H1 a xs ∧ ∀ p, H1 p = none → Q (.ref p) (upd H1 p (.lst xs.reverse))) ∨ (SqT K H1 a xs ∧ ∀ p, H1 p = none → Q (.ref p) (upd H1 p (.tup xs.reverse))))
theorem pe_revA {e : Expr} {te : TE} {k : Nat} {p1 p2 p3 pos : Pos} (he : PE X e te) : PE X (.Subscript e (.Slice none none (some (.UnaryOp .USub (.Constant (.int 1) k p1) p2)) p3) pos) (tRevA X.K te) := by
  refine ⟨fun pins s σ H Q I h => ?_⟩
  refine Subscript_ (thn (he.run pins s σ H _ I h) fun v s1 ⟨x, H1, I1, r1, q1⟩ => ?_)
  obtain ⟨a, xs, ex, q⟩ := q1
  subst ex
  cases r1
  have hst : PO X (some (.UnaryOp .USub (.Constant (.int 1) k p1) p2)) (tPart (tUn (rU fun i => .int (-i)) (tC (.int 1)))) := po_some (pe_un un_neg pe_int)
  refine wpAny_Slice (thn (po_none.run pins s1 σ H1 (fun o H2 => o = none ∧ H2 = H1) I1 ⟨rfl, rfl⟩) fun vl s2 ⟨l, H2, I2, pl, el, e2⟩ => ?_)
  subst el e2
  refine thn (po_none.run pins s2 σ H2 (fun o H3 => o = none ∧ H3 = H2) I2 ⟨rfl, rfl⟩) fun vu s3 ⟨u, H3, I3, pu, eu, e3⟩ => ?_
  subst eu e3
  refine thn (hst.run pins s3 σ H3 (fun o H4 => o = some (-1) ∧ H4 = H3) I3 ⟨1, rfl, -1, rfl, rfl, rfl⟩) fun vs s4 ⟨o, H4, I4, ps, eo, e4⟩ => ?_
  subst eo e4
  have I5 : Inv X pins σ H4 { s4 with heap := s4.heap.push { cls := .type "slice", data := .fields #[vl, vu, vs] } } := I4.kept (t' := s4.toks) fun b ob q => Heap.get?_push_of_some _ q
  show wpAny (model X.prog X.w) X.A (subscriptTail e (.Slice none none (some (.UnaryOp .USub (.Constant (.int 1) k p1) p2)) p3) (.ref a) (.ref s4.heap.objs.size)) (EP X pins σ Q) X.xe { s4 with heap := s4.heap.push { cls := .type "slice", data := .fields #[vl, vu, vs] } }
  rcases q with ⟨hx, q⟩ | ⟨hx, q⟩
  · obtain ⟨its, r, ht, hz⟩ := I5.list hx
    have hlen := r.length
    refine tail_any (ops := [.ref a, .ref s4.heap.objs.size]) ht.isList.typeIs (PySem.slot_list_getitem.lookup) ?_ (by with_unfolding_all rfl)
    refine wpAny_getItem_list_slice ht.isList (Heap.IsSliceOf.new _ vl vu vs) pl pu ps (by decide) ?_ (by rw [List.size_toArray]; omega)
    rw [PySem.W.krv_pick]
    refine ⟨.ref _, _, I5.laid (t' := s4.toks) (o := .lst xs.reverse) (fun b ob q => Heap.get?_push_of_some _ q) (Nat.le_refl _) ?_, rfl, q _ (I5.hok.fresh (Nat.le_refl _))⟩
    exact ⟨by rw [List.length_reverse]; exact hz, _, 0, r.reverse, Heap.get?_push_size _ rfl⟩
  · obtain ⟨its, r, ht, hz⟩ := I5.tuple hx
    have hlen := r.length
    refine tail_any (ops := [.ref a, .ref s4.heap.objs.size]) ht.typeIs (PyProof.Rows.slot_tuple_getitem.lookup) ?_ (by with_unfolding_all rfl)
    refine getItem_tuple_rev ht (Heap.IsSliceOf.new _ vl vu vs) pl pu ps ?_ (by rw [List.size_toArray]; omega)
    refine ⟨.ref _, _, I5.laid (t' := s4.toks) (o := .tup xs.reverse) (fun b ob q => Heap.get?_push_of_some _ q) (Nat.le_refl _) ?_, rfl, q _ (I5.hok.fresh (Nat.le_refl _))⟩
    exact ⟨by rw [List.length_reverse]; exact hz, _, r.reverse, ⟨_, Heap.get?_push_size _ rfl, rfl, 0, by simp⟩⟩
def oRev (x : D) (L : List O) : OD := match x with
  | .tup ds => some (.tup ds.reverse, L)
  | .ref n => match L[n]? with
    | some (.lst ds) => some (.ref L.length, L ++ [.lst ds.reverse])
    | _ => none
  | _ => none
def mRevSl (a : ME) : ME := fun ε L => (a ε L).bind fun x L1 => ofO (oRev x L1)
theorem se_revSl {e : Expr} {a : ME} {k : Nat} {p1 p2 p3 pos : Pos} (he : PE X e (tM ⟨X.K, cm, fx, X.w⟩ W a)) : PE X (.Subscript e (.Slice none none (some (.UnaryOp .USub (.Constant (.int 1) k p1) p2)) p3) pos) (tM ⟨X.K, cm, fx, X.w⟩ W (mRevSl a)) :=
  (pe_revA he).imp fun σ H Q q => by
    obtain ⟨ε, ρ, L, he, hh, q⟩ := q
    refine ⟨ε, ρ, L, he, hh, Lf.bind q fun x L1 v ρ1 H1 _ p1 t1 h1 r1 q1 => ?_⟩
    have q1 := LfO.of q1
    unfold oRev at q1
    split at q1
    · cases r1 with
      | tup s1 a1 => exact ⟨_, _, rfl, .inr ⟨s1.sq, fun p hp => q1.newT h1 a1.reverse hp⟩⟩
    · cases r1 with
      | ref ea =>
        split at q1
        · rename_i ds h2
          obtain ⟨vs, b1, b2⟩ := h1.lst h2 ea
          exact ⟨_, _, rfl, .inl ⟨SqL.of b1, fun p hp => q1.newL h1 b2.reverse hp⟩⟩
        · exact q1.elim
    · exact q1.elim
end Tw
end

section
set_option Elab.async false
set_option linter.all false
set_option maxRecDepth 100000
set_option maxHeartbeats 4000000
/-! Tw, part Z2: tuple * 0, tuple * 1. -/
namespace Tw
open PySem PySem.Spec PyProof.Rows L2 HT
variable {g : Gx} {ρ ρ' : List Addr} {H H' : Hp} {X : Cx} {W : WX} {L : List O} {cm : Nat → Addr} {fx : Hp} {pins : List (Addr × Obj)} {σ : L2.St} {s : Shared}
theorem tuple_mul1 (l : Addr) (items : Array Value) (n : Nat) (dd : Option Addr) (sl : Array (Option Value)) (u : Tok) :
    Meets (Builtin.«tuple.__mul__» ⟨[.ref l, .int 1 u], []⟩) (fun _ R s => s.heap.get? l = some { cls := .type "tuple", dict := dd, data := .seq items n, slots := sl } ∧ R (.ok (.ret (Value.ref l))) s) :=
  .of_wp fun prog w A R s h => by
    obtain ⟨hp, g, d, tk, os⟩ := s
    obtain ⟨hl, h⟩ := h
    have f1 := AutoSeq1.idx_int
    have c1 : (items.isEmpty || (1 : Int) == 1) = true := by simp
    wp_walk using wpAny_loadPart' hl
    repeat (first
      | (refine wpAny_ite_true (decide_eq_true c1) ?_; wp_walk using wpAny_loadPart' hl)
      | (refine wpAny_ite_false (by decide) ?_; wp_walk using wpAny_loadPart' hl))
    exact ⟨_, rfl, h⟩
theorem tuple_mul0 (l : Addr) (items : Array Value) (n : Nat) (dd : Option Addr) (sl : Array (Option Value)) (x : Int) (u : Tok) (c0 : (decide (x < -(2 ^ 63)) || decide (x ≥ 2 ^ 63)) = false) (c1 : (items.isEmpty || x == 1) = false) (c2 : (decide (x ≤ 0) || items.isEmpty) = true) :
    Meets (Builtin.«tuple.__mul__» ⟨[.ref l, .int x u], []⟩) (fun _ R s => s.heap.get? l = some { cls := .type "tuple", dict := dd, data := .seq items n, slots := sl } ∧
      R (.ok (.ret (Value.ref s.heap.objs.size))) { s with heap := s.heap.push { cls := Value.type "tuple", data := Data.seq #[] }, toks := s.toks }) :=
  .of_wp fun prog w A R s h => by
    obtain ⟨hp, g, d, tk, os⟩ := s
    obtain ⟨hl, h⟩ := h
    have f1 := AutoSeq1.idx_int
    wp_walk using wpAny_loadPart' hl
    repeat (first
      | (refine wpAny_ite_false (decide_eq_false (by rw [c0]; exact Bool.false_ne_true)) ?_; wp_walk using wpAny_loadPart' hl)
      | (refine wpAny_ite_false (decide_eq_false (by rw [c1]; exact Bool.false_ne_true)) ?_; wp_walk using wpAny_loadPart' hl)
      | (refine wpAny_ite_true (decide_eq_true c2) ?_; wp_walk using wpAny_loadPart' hl))
    exact ⟨_, rfl, h⟩
def rRep01 (K : PySem.W.Frag) : R2 := fun x y H Q => ∃ l k xs, x = .ref l ∧ y = .int k ∧ SqT K H l xs ∧ xs ≠ [] ∧ ((k = 1 ∧ Q (.ref l) H) ∨ (-1000 ≤ k ∧ k ≤ 0 ∧ ∀ p, H p = none → Q (.ref p) (upd H p (.tup []))))
theorem op_rep01 : OpR X (binaryOp .Mult) (rRep01 X.K) := by
  intro pins s σ H x y v u Q I rx ry h
  obtain ⟨l, k, xs, rfl, rfl, hT, hne, q⟩ := h
  cases rx
  obtain ⟨t, rfl⟩ := ry
  obtain ⟨its, r, ⟨⟨cls, dd, data, sl⟩, ho, hc, n, hd⟩, hs⟩ := I.tuple hT
  simp only at hc hd
  subst hc hd
  have hle : its.length = xs.length := r.length.symm
  have hn : its ≠ [] := fun e => hne (by
    rw [e] at hle
    exact List.eq_nil_of_length_eq_zero hle.symm)
  have hi : its.toArray.isEmpty = false := by
    cases its with
    | nil => exact absurd rfl hn
    | cons a b => rfl
  rcases q with ⟨rfl, q⟩ | ⟨h1, h2, q⟩
  · exact wpAny_binaryOp_repeat_ref (T := "tuple") (U := "int") (by decide) ⟨_, ho, rfl⟩ (fun s' => typeIs_int s' 1 t) noFill_tuple_mul F.fills_int_mul F.slot_int_rmul repeat_tuple F.slot_int_index.lookup
      (call_meets F.slot_int_rmul (typeIs_int s 1 t) F.entry_int_rmul (F.args_int_rmul_2 _ _) (int_rmul_tuple 1 t l its.toArray n dd sl)
        ⟨ho, rfl, ⟨_, ho, rfl⟩, call_meets F.slot_tuple_mul ⟨_, ho, rfl⟩ F.entry_tuple_mul (F.args_tuple_mul_2 _ _) (tuple_mul1 l its.toArray n dd sl t) ⟨ho, .ref l, H, I, rfl, q⟩⟩)
  · have c0 : (decide (k < -(2 ^ 63)) || decide (k ≥ 2 ^ 63)) = false := by
      rw [decide_eq_false (by omega), decide_eq_false (by omega)] <;> rfl
    have c1 : (its.toArray.isEmpty || k == 1) = false := by
      rw [hi, Bool.false_or]
      exact beq_eq_false_iff_ne.mpr (by omega)
    have c2 : (decide (k ≤ 0) || its.toArray.isEmpty) = true := by
      rw [decide_eq_true h2] <;> rfl
    exact wpAny_binaryOp_repeat_ref (T := "tuple") (U := "int") (by decide) ⟨_, ho, rfl⟩ (fun s' => typeIs_int s' k t) noFill_tuple_mul F.fills_int_mul F.slot_int_rmul repeat_tuple F.slot_int_index.lookup
      (call_meets F.slot_int_rmul (typeIs_int s k t) F.entry_int_rmul (F.args_int_rmul_2 _ _) (int_rmul_tuple k t l its.toArray n dd sl)
        ⟨ho, rfl, ⟨_, ho, rfl⟩, call_meets F.slot_tuple_mul ⟨_, ho, rfl⟩ F.entry_tuple_mul (F.args_tuple_mul_2 _ _) (tuple_mul0 l its.toArray n dd sl k t c0 c1 c2) ⟨ho,
          .ref s.heap.objs.size, _, I.laid (t' := s.toks) (o := .tup []) (fun b ob q => Heap.get?_push_of_some _ q) (Nat.le_refl _) ⟨Nat.zero_le _, [], .nil, IsTup.new _ _⟩, rfl, q _ (I.hok.fresh (Nat.le_refl _))⟩⟩)
/-- * with tuples of any number of times -/
def oMulT : O2 := fun x y L => match x, y with
  | .tup xs, .int k => if xs ≠ [] ∧ -1000 ≤ k ∧ k ≤ 1 then some (.tup (List.replicate k.toNat xs).flatten, L) else oMul x y L
  | _, _ => oMul x y L
theorem op_oMulT : OpR X (binaryOp .Mult) (rM ⟨X.K, cm, fx, X.w⟩ oMulT) := by
  intro pins s σ H x y v u Q I rx ry q
  obtain ⟨ρ, L, d, e, hh, r1, r2, q⟩ := q
  unfold oMulT at q
  split at q
  · rename_i xs k
    split at q
    · rename_i hz
      cases r1 with
      | tup s1 a1 =>
        cases r2
        refine op_rep01 pins s σ H _ _ v u Q I rx ry ⟨_, _, _, rfl, rfl, s1.sq, fun e => ?_, ?_⟩
        · rw [e] at a1
          cases a1
          exact hz.1 rfl
        · by_cases hk : k = 1
          · subst hk
            refine .inl ⟨rfl, ?_⟩
            have e1 : (List.replicate (1 : Int).toNat xs).flatten = xs := by simp
            rw [e1] at q
            exact q.same hh (.tup s1 a1)
          · refine .inr ⟨hz.2.1, by omega, fun p hp => ?_⟩
            have e1 : (List.replicate k.toNat xs).flatten = [] := by
              have : k.toNat = 0 := by omega
              rw [this]
              rfl
            rw [e1] at q
            exact q.newT hh .nil hp
    · exact op_oMul pins s σ H x y v u Q I rx ry ⟨ρ, L, _, _, hh, r1, r2, q⟩
  · exact op_oMul pins s σ H x y v u Q I rx ry ⟨ρ, L, _, _, hh, r1, r2, q⟩
end Tw
end

section
set_option Elab.async false
set_option linter.all false
set_option maxRecDepth 100000
set_option maxHeartbeats 4000000
/-! Tw, part W: list != list, the items of a class with its own ==, all equal. -/
namespace TwNe
open PySem PySem.SeqAt GQ
open AutoSeq1 (wpAny_loadPart')
open MeetsSeq MeetsSeq2 MeetsSeq3 SeqRoads2
section
variable {prog : Program} {w : World} {A : Around} {R : Result → Shared → Prop}
/-- the loop behind !=, the turns' state given by I: False at its end -/
theorem ne_loopG (l b : Addr) (N : Nat) (I : Nat → Shared → Prop) (hl : ListI prog w A (fun e s' => R (.error e) s') l b N I) (fin : ∀ s, I N s → R (.ok (.ret (.bool false))) s) :
    ∀ k i : Nat, N - i = k → i ≤ N → ∀ s, I i s → wpAny (model prog w) A.in1 (Builtin.«list.__eq__.loop» ⟨[.ref l, .ref b, rawInt i, rawInt 3], []⟩) (FinOf prog w A R) (fun e s' => R (.error e) s') s
  | 0, i, hk, hi, s, h => by
    obtain ⟨xs, ys, n, n2, hx, hy, sx, sy, _⟩ := hl _ _ h
    have hN : i = N := by omega
    have done := fin s (hN ▸ h)
    obtain ⟨hp, g, d, tk, os⟩ := s
    have o1 : xs[((i : Nat) : Int).toNat]? = none := by simp; omega
    have o2 : ys[((i : Nat) : Int).toNat]? = none := by simp; omega
    wp_walk using wpAny_loadPart' hx, wpAny_loadPart' hy
    rw [o1, o2]
    wp_walk using wpAny_loadPart' hx, wpAny_loadPart' hy
    show R (.ok (.ret (.bool (xs.size != ys.size)))) _
    rw [sx, sy]
    simpa using done
  | k + 1, i, hk, hi, s, h => by
    obtain ⟨xs, ys, n, n2, hx, hy, sx, sy, turn⟩ := hl _ _ h
    have ht := turn (by omega) (by omega)
    have o1 : xs[((i : Nat) : Int).toNat]? = some (xs[i]'(by omega)) := by simp
    have o2 : ys[((i : Nat) : Int).toNat]? = some (ys[i]'(by omega)) := by simp
    obtain ⟨hp, g, d, tk, os⟩ := s
    wp_walk using wpAny_loadPart' hx, wpAny_loadPart' hy
    rw [o1, o2]
    refine wpAny_bind (wpAny_mono ht (fun r s2 h2 => ?_) fun _ _ x => x)
    obtain ⟨rfl, h2⟩ := h2
    have rec_ := ne_loopG l b N I hl fin k (i + 1) (by omega) (by omega) s2 h2
    obtain ⟨hp2, g2, d2, tk2, os2⟩ := s2
    wp_walk
    rw [show ((i : Int) + 1) = ((i + 1 : Nat) : Int) by omega]
    exact ⟨plainId_quiet plain_eq_loop _, codeAny_builtin entry_eq_loop (by
      rw [Around.under_plainId plain_eq_loop _]
      exact rec_)⟩
theorem list_neG (l b : Addr) (N : Nat) (I : Nat → Shared → Prop) (hl : ListI prog w A (fun e s' => R (.error e) s') l b N I) (fin : ∀ s, I N s → R (.ok (.ret (.bool false))) s) {s : Shared} (h : I 0 s) :
    wpAny (model prog w) A.in1 (Builtin.«list.__ne__» ⟨[.ref l, .ref b], []⟩) (FinOf prog w A R) (fun e s' => R (.error e) s') s := by
  obtain ⟨xs, ys, n, n2, hx, hy, sx, sy, _⟩ := hl _ _ h
  have go := ne_loopG (A := A) (R := R) l b N I hl fin _ 0 rfl (Nat.zero_le _) s h
  obtain ⟨hp, g, d, tk, os⟩ := s
  have f3 := AutoSeq1.sub_list_list
  have same : ¬ (xs.size != ys.size) = true := by simp [sx, sy]
  wp_walk using wpAny_loadPart' hx, wpAny_loadPart' hy
  exact ⟨plainId_quiet plain_eq_loop _, codeAny_builtin entry_eq_loop (by
    rw [Around.under_plainId plain_eq_loop _]
    exact go)⟩
end
theorem rc_neG {prog : Program} {w : World} {A : Around} {E : Value → Shared → Prop} {s : Shared} {l b : Addr} {N : Nat} {Q : Value → Shared → Prop} (hu : A.units < cLine) (I : Nat → Shared → Prop) (hl : ListI prog w A E l b N I)
    (fin : ∀ s, I N s → Q (.bool false) s) (h : I 0 s) : wpAny (model prog w) A (richCompare .NotEq (.ref l) (.ref b)) Q E s := by
  obtain ⟨xs, ys, n, n2, hx, hy, _⟩ := hl _ _ h
  refine wpAny_richCompare_same_room (op := .NotEq) ⟨_, hx, rfl⟩ ⟨_, hy, rfl⟩ F.slot_list_ne (call_here F.slot_list_ne ⟨_, hx, rfl⟩ F.entry_list_ne (F.args_list_ne_2 _ _) ?_) hu
  exact list_neG (R := wants (fun v s' => v ≠ .notImplemented ∧ Q v s') E) l b N I hl (fun s' q => ⟨(fun x => nomatch x), fin s' q⟩) h
end TwNe
namespace Tw
open PySem PySem.Spec L2
variable {g : Gx} {ρ ρ' : List Addr} {H H' : Hp} {X : Cx} {W : WX} {L : List O} {cm : Nat → Addr} {fx : Hp}
/-- the items, pair by pair: the same thing, or equal by the own == of the class c -/
def eqAllI (c : Nat) (F : FS) (n m : Nat) (xs ys : List D) : List D → List D → List O → Option (List O)
  | [], [], L => if L[n]? = some (.lst xs) ∧ L[m]? = some (.lst ys) then some L else none
  | .ref i :: as, .ref j :: bs, L => if L[n]? = some (.lst xs) ∧ L[m]? = some (.lst ys) then (if i = j then eqAllI c F n m xs ys as bs L else if isCls c L (.ref i) = true then (match eqI c F (.ref i) (.ref j) L with
      | some (true, L') => eqAllI c F n m xs ys as bs L'
      | _ => none) else none) else none
  | _, _, _ => none
def oNeLI (c : Nat) (F : FS) : O2 := fun x y L => match x, y with
  | .ref n, .ref m => match L[n]?, L[m]? with
    | some (.lst (x0 :: xs)), some (.lst ys) => if isCls c L x0 = true then (if xs.length + 1 = ys.length then (eqAllI c F n m (x0 :: xs) ys (x0 :: xs) ys L).map fun L' => (.bl false, L') else none) else oNeI c F x y L
    | _, _ => oNeI c F x y L
  | _, _ => oNeI c F x y L
/-- richCompare == of an instance by its own __eq__, anywhere below the body -/
theorem rc_own {A : Around} {c k : Nat} {F : FS} {pins : List (Addr × Obj)} {σ : L2.St} {s : Shared} (sb : L2.Sub X k A) (h : MtI X.prog X.w X.K X.mg X.base cm c "__eq__" k 2 F) (hi : InsTy X.K (cm c)) (I : Inv X pins σ H s) {i j : Nat} {b : Bool} {L' : List O} {v u : Value} {x y : V}
    (hh : HR ⟨X.K, cm, fx, X.w⟩ ρ L H) (hc : isCls c L (.ref i) = true) (he : eqI c F (.ref i) (.ref j) L = some (b, L')) (r1 : VR ⟨X.K, cm, fx, X.w⟩ ρ H (.ref i) x) (r2 : VR ⟨X.K, cm, fx, X.w⟩ ρ H (.ref j) y) (rx : RelV x v) (ry : RelV y u) :
    wpAny (model X.prog X.w) A (richCompare .Eq v u) (fun w s' => w = .bool b ∧ ∃ ρ' H', Inv X pins σ H' s' ∧ ρ <+: ρ' ∧ TP H H' ∧ HR ⟨X.K, cm, fx, X.w⟩ ρ' L' H') X.xe s := by
  obtain ⟨a, dx, fs, rfl, ha⟩ := isCls_ok hh r1 hc
  obtain rfl : v = Value.ref a := rx
  unfold eqI at he
  split at he
  · rename_i t ht
    split at he
    · rename_i hok
      obtain ⟨f, fd, ps, hm, hcl, hb, hps, G⟩ := h.ex
      obtain ⟨mA, J, _⟩ := ins_get I.hok ha
      obtain ⟨od, J, _⟩ := J.look
      obtain ⟨m, hF⟩ := I.fr
      have hty := tag_ok hh r2 ht (fun c' hc' => by
        subst hc'
        have : c' = c := of_decide_eq_true hok
        subst this; exact hi)
      obtain ⟨Pt, kx, hP, _⟩ := kit_of I ry hty
      refine PySem.W.cmp_K (op := .Eq) sb.room.units0 hF I.ok.mod.kin J (kx.ty _ _ I.kIn hP) (tag_first hok) hm.at_ hm.fn ?_
      refine wpAny_mono (run_own (vs := [V.ref a, y]) (Q := fun v H' => v = .bl b ∧ ∃ ρ', ρ <+: ρ' ∧ TP H H' ∧ HR ⟨X.K, cm, fx, X.w⟩ ρ' L' H') sb G hb hps I (.cons rfl (.cons ry .nil)) (outB_sp hh (.cons r1 (.cons r2 .nil)) rfl he (fun v ρ' H' p t h r => ?_))) (fun w s' z => ?_) fun _ _ x => x
      · cases r
        exact ⟨rfl, ρ', p, t, h⟩
      · obtain ⟨z', H', I', rz, ez, ρ', p, t, hr⟩ := z
        subst ez
        obtain rfl : w = Value.bool b := rz
        exact ⟨rfl, ρ', H', I', p, t, hr⟩
    · cases he
  · cases he
theorem eqAllI_len {c : Nat} {F : FS} {n m : Nat} {xs ys : List D} : ∀ {as bs : List D} {L L' : List O}, eqAllI c F n m xs ys as bs L = some L' → L[n]? = some (.lst xs) ∧ L[m]? = some (.lst ys)
  | as, bs, L, L', e => by
    unfold eqAllI at e
    split at e
    · split at e
      · assumption
      · cases e
    · split at e
      · assumption
      · cases e
    · cases e
theorem eqAllI_cons {c : Nat} {F : FS} {n m : Nat} {xs ys : List D} {d1 d2 : D} {as bs : List D} {L Lf : List O} (e : eqAllI c F n m xs ys (d1 :: as) (d2 :: bs) L = some Lf) :
    ∃ i j, d1 = .ref i ∧ d2 = .ref j ∧ ((i = j ∧ eqAllI c F n m xs ys as bs L = some Lf) ∨ (i ≠ j ∧ isCls c L (.ref i) = true ∧ ∃ L', eqI c F (.ref i) (.ref j) L = some (true, L') ∧ eqAllI c F n m xs ys as bs L' = some Lf)) := by
  cases d1 with
  | ref i =>
    cases d2 with
    | ref j =>
      refine ⟨i, j, rfl, rfl, ?_⟩
      rw [eqAllI] at e
      split at e
      · split at e
        · rename_i h
          exact .inl ⟨h, e⟩
        · rename_i h
          split at e
          · rename_i h2
            split at e
            · rename_i L' h3
              exact .inr ⟨h, h2, L', h3, e⟩
            · cases e
          · cases e
      · cases e
    | _ => simp [eqAllI] at e
  | _ => cases d2 <;> simp [eqAllI] at e
theorem op_oNeLI {c k : Nat} {F : FS} (hu : X.A.units + 64 < cLine) (h : MtI X.prog X.w X.K X.mg X.base cm c "__eq__" k 2 F) (hi : InsTy X.K (cm c)) (hne : PySem.W.findIn X.K (.ref (cm c)) "__ne__" = some (some (.builtin "object.__ne__"))) (hr : Room (k + 1) X.A) : OpR X (compareOp .NotEq) (rM ⟨X.K, cm, fx, X.w⟩ (oNeLI c F)) := by
  intro pins s σ H x y v u Q I rx ry q
  have dflt : ∀ (ρ : List Addr) (L : List O) (d e : D), HR ⟨X.K, cm, fx, X.w⟩ ρ L H → VR ⟨X.K, cm, fx, X.w⟩ ρ H d x → VR ⟨X.K, cm, fx, X.w⟩ ρ H e y → LfO ⟨X.K, cm, fx, X.w⟩ ρ H (oNeI c F d e L) Q → wpAny (model X.prog X.w) X.A (compareOp .NotEq v u) (EP X pins σ Q) X.xe s := fun ρ L d e hh r1 r2 q => op_oNeI hu h hi hne hr pins s σ H x y v u Q I rx ry ⟨ρ, L, d, e, hh, r1, r2, q⟩
  obtain ⟨ρ, L, d, e, hh, r1, r2, q⟩ := q
  unfold oNeLI at q
  split at q
  · rename_i n m
    split at q
    · rename_i x0 xs ys h1 h2
      split at q
      · split at q
        · rename_i hlen
          cases hE : eqAllI c F n m (x0 :: xs) ys (x0 :: xs) ys L with
          | none => rw [hE] at q; exact q.elim
          | some Lf =>
            rw [hE] at q
            generalize hX : x0 :: xs = zs at hE h1 hlen
            have hlen' : zs.length = ys.length := by rw [← hX]; exact hlen
            cases r1 with
            | ref ea =>
              rename_i a
              cases r2 with
              | ref eb =>
                rename_i b
                obtain rfl : v = Value.ref a := rx
                obtain rfl : u = Value.ref b := ry
                show wpAny _ _ (richCompare .NotEq (.ref a) (.ref b)) _ _ _
                let St : Nat → Shared → Prop := fun i s' => ∃ ρ' L' H', Inv X pins σ H' s' ∧ ρ <+: ρ' ∧ TP H H' ∧ HR ⟨X.K, cm, fx, X.w⟩ ρ' L' H' ∧ eqAllI c F n m zs ys (zs.drop i) (ys.drop i) L' = some Lf ∧ i ≤ zs.length
                refine TwNe.rc_neG (N := zs.length) hr.units0 St (fun i s' st => ?_) (fun s' st => ?_) ⟨ρ, L, H, I, List.prefix_refl _, TP.refl H, hh, hE, Nat.zero_le _⟩
                · obtain ⟨ρ', L', H', I', p, t, hh', hE', hi'⟩ := st
                  obtain ⟨g1, g2⟩ := eqAllI_len hE'
                  obtain ⟨vs, hv, rv⟩ := hh'.lst g1 (pre_get p ea)
                  obtain ⟨us, hus, ru⟩ := hh'.lst g2 (pre_get p eb)
                  obtain ⟨z1, its, k1, w1, o1⟩ := I'.hok a _ hv
                  obtain ⟨z2, its2, k2, w2, o2⟩ := I'.hok b _ hus
                  refine ⟨its.toArray, its2.toArray, k1, k2, o1, o2, by rw [List.size_toArray, ← w1.length, ← rv.length], by rw [List.size_toArray, ← w2.length, ← ru.length, hlen'], fun q1 q2 => ?_⟩
                  have k1' : i < zs.length := by rw [rv.length, w1.length]; simpa using q1
                  have k2' : i < ys.length := by omega
                  rw [List.drop_eq_getElem_cons k1', List.drop_eq_getElem_cons k2'] at hE'
                  obtain ⟨v1, f1, rr1⟩ := rv.get (List.getElem?_eq_getElem k1')
                  obtain ⟨v2, f2, rr2⟩ := ru.get (List.getElem?_eq_getElem k2')
                  obtain ⟨u1, f3, rr3⟩ := w1.get f1
                  obtain ⟨u2, f4, rr4⟩ := w2.get f2
                  have m1 : its.toArray[i] = u1 := by
                    have : i < its.length := by simpa using q1
                    rw [List.getElem?_eq_getElem this] at f3
                    simpa using Option.some.inj f3
                  have m2 : its2.toArray[i] = u2 := by
                    have : i < its2.length := by simpa using q2
                    rw [List.getElem?_eq_getElem this] at f4
                    simpa using Option.some.inj f4
                  rw [m1, m2]
                  generalize zs[i] = d1 at hE' rr1
                  generalize ys[i] = d2 at hE' rr2
                  obtain ⟨i1, j1, rfl, rfl, hcase⟩ := eqAllI_cons hE'
                  cases rr1 with
                  | ref ei =>
                    rename_i a1
                    cases rr2 with
                    | ref ej =>
                      rename_i a2
                      obtain rfl : u1 = Value.ref a1 := rr3
                      obtain rfl : u2 = Value.ref a2 := rr4
                      rcases hcase with ⟨rfl, hE2⟩ | ⟨hij, hcl, L3, he, hE2⟩
                      · obtain rfl : a1 = a2 := Option.some.inj (ei.symm.trans ej)
                        exact SeqAt.EqAt.same (A := X.A.in1) (s := s') (.ref a1) X.prog X.w X.xe _ ⟨rfl, ρ', L', H', I', p, t, hh', hE2, k1'⟩
                      · have hab : a1 ≠ a2 := fun e => hij (nodup_get hh'.nd ei (e ▸ ej))
                        refine GQ.eqBool_refG hab (wpAny_mono (rc_own (sub_in1 hr) h hi I' hh' hcl he (.ref ei) (.ref ej) rfl rfl) (fun r s2 z => ?_) fun _ _ x => x)
                        obtain ⟨rfl, ρ2, H2, I2, p2, t2, h2'⟩ := z
                        exact ⟨true, rfl, rfl, ρ2, L3, H2, I2, p.trans p2, t.trans t2, h2', hE2, k1'⟩
                · obtain ⟨ρ', L', H', I', p, t, hh', hE', hi'⟩ := st
                  have e1 : zs.drop zs.length = [] := List.drop_length
                  have e2 : ys.drop zs.length = [] := by rw [hlen']; exact List.drop_length
                  rw [e1, e2] at hE'
                  unfold eqAllI at hE'
                  split at hE'
                  · cases hE'
                    exact ⟨.bl false, H', I', rfl, q _ ρ' H' p t hh' (.bl _)⟩
                  · cases hE'
        · exact q.elim
      · exact dflt _ _ _ _ hh r1 r2 q
    · exact dflt _ _ _ _ hh r1 r2 q
  · exact dflt _ _ _ _ hh r1 r2 q
end Tw
end

section
set_option Elab.async false
set_option linter.all false
set_option maxRecDepth 100000
set_option maxHeartbeats 4000000
/-! Tw, part Wa: dict(d), dict([pairs]), list(d). -/
namespace Tw
open PySem PySem.Spec L2
variable {g : Gx} {ρ ρ' : List Addr} {H H' : Hp} {X : Cx} {W : WX} {L : List O} {cm : Nat → Addr} {fx : Hp}
theorem LfO.newO {o : O} {u : HO} {Q : VK} (h : LfO g ρ H (some (.ref L.length, L ++ [o])) Q) (hh : HR g ρ L H) {p : Addr} (hp : H p = none) (ho : OR g (ρ ++ [p]) (upd H p u) p o) : Q (.ref p) (upd H p u) := by
  refine h _ (ρ ++ [p]) _ (pre_snoc _ _) (TP.new hp) (hh.new hp ho) (.ref ?_)
  rw [← hh.len]
  simp
theorem keys_vrs : ∀ {ks : List (Key × D)} {vs : List (Key × V)}, KR g ρ H ks vs → VRs g ρ H (ks.map fun kv => keyOf kv.1) (vs.map fun kv => kV kv.1)
  | _, _, .nil => .nil
  | _, _, .cons (k := k) r t => .cons (vr_key k) (keys_vrs t)
/-- list(x), x a dict too -/
def cListD : OC := fun ds L => match ds with
  | [.ref n] => match L[n]? with
    | some (.dic _ ks) => some (.ref L.length, L ++ [.lst (ks.map fun kv => keyOf kv.1)])
    | _ => cList [.ref n] L
  | _ => cList ds L
theorem c_listD (hc : X.calm = true) : CallR X (.type "list") (rC ⟨X.K, cm, fx, X.w⟩ cListD) := fun pins s σ H xs us Q I r q => by
  obtain ⟨ρ, L, ds, hh, rr, q⟩ := q
  unfold cListD at q
  split at q
  · rename_i n
    split at q
    · rename_i lk ks hn
      obtain ⟨v, rfl, rv⟩ := rr.one
      cases rv with
      | ref ea =>
        obtain ⟨vs, rd, kr⟩ := hh.dic hn ea
        exact call_listD hc pins s σ H _ us Q I r ⟨_, vs, rfl, rd, fun p hp => LfO.newL q hh (keys_vrs kr) hp⟩
    · exact c_list pins s σ H xs us Q I r ⟨ρ, L, _, hh, rr, q⟩
  · exact c_list pins s σ H xs us Q I r ⟨ρ, L, _, hh, rr, q⟩
def pairD : D → Option (Key × D)
  | .tup [k, v] => (keyD k).map fun k => (k, v)
  | _ => none
def mergeD (ks more : List (Key × D)) : List (Key × D) := more.foldl (fun acc kv => putKD acc kv.1 kv.2) ks
theorem KR.merge {more : List (Key × D)} {mv : List (Key × V)} (h : KR g ρ H more mv) : ∀ {ks : List (Key × D)} {vs : List (Key × V)}, KR g ρ H ks vs → KR g ρ H (mergeD ks more) (mergeK vs mv) := by
  induction h with
  | nil => exact fun r => r
  | cons q t ih => exact fun r => ih (r.put q)
theorem pairs_ok : ∀ {ds : List D} {vs : List V} {prs : List (Key × D)}, VRs g ρ H ds vs → optAll pairD ds = some prs → ∃ (ps : List Addr) (kvs : List (Key × V)), vs = ps.map V.ref ∧ Paired (fun p kv => SqT g.K H p [kV kv.1, kv.2]) ps kvs ∧ KR g ρ H prs kvs
  | [], _, _, r, e => by
    cases r
    cases e
    exact ⟨[], [], rfl, .nil, .nil⟩
  | d :: ds, _, _, .cons (v := v) (vs := vs) r t, e => by
    unfold optAll at e
    split at e
    · rename_i y ys h1 h2
      cases e
      obtain ⟨ps, kvs, rfl, pp, kr⟩ := pairs_ok t h2
      unfold pairD at h1
      split at h1
      · rename_i k x
        cases hk : keyD k with
        | none => rw [hk] at h1; cases h1
        | some kk =>
          rw [hk] at h1
          cases h1
          cases r with
          | tup tt rr =>
            cases rr with
            | cons ra rb =>
              cases rb with
              | cons rc rd =>
                cases rd
                have := keyD_ok ra hk
                subst this
                exact ⟨_ :: ps, (kk, _) :: kvs, rfl, .cons tt.sq pp, .cons rc kr⟩
      · cases h1
    · cases e
/-- dict(x), x a dict or a list of pairs -/
def cDict : OC := fun ds L => match ds with
  | [.ref n] => match L[n]? with
    | some (.dic _ ks) => some (.ref L.length, L ++ [.dic false ks])
    | some (.lst xs) => match optAll pairD xs with
      | some prs => some (.ref L.length, L ++ [.dic false (mergeD [] prs)])
      | none => none
    | _ => none
  | _ => none
theorem c_dict (hc : X.calm = true) : CallR X (.type "dict") (rC ⟨X.K, cm, fx, X.w⟩ cDict) := fun pins s σ H xs us Q I r q => by
  obtain ⟨ρ, L, ds, hh, rr, q⟩ := q
  unfold cDict at q
  split at q
  · rename_i n
    split at q
    · rename_i lk ks hn
      obtain ⟨v, rfl, rv⟩ := rr.one
      cases rv with
      | ref ea =>
        obtain ⟨vs, rd, kr⟩ := hh.dic hn ea
        exact call_dictD pins s σ H _ us Q I r ⟨_, vs, rfl, rd, fun p hp => LfO.newO q hh hp ⟨vs, upd_same, kr.mono (pre_snoc _ _) (TP.new hp)⟩⟩
    · rename_i xs hn
      split at q
      · rename_i prs hp
        obtain ⟨v, rfl, rv⟩ := rr.one
        cases rv with
        | ref ea =>
          obtain ⟨vs, hv, rvs⟩ := hh.lst hn ea
          obtain ⟨ps, kvs, rfl, pp, kr⟩ := pairs_ok rvs hp
          exact call_dictP hc pins s σ H _ us Q I r ⟨_, ps, kvs, rfl, .inl (.inl hv), pp, fun p hp2 => LfO.newO q hh hp2 ⟨_, upd_same, (KR.merge kr .nil).mono (pre_snoc _ _) (TP.new hp2)⟩⟩
      · exact q.elim
    · exact q.elim
  · exact q.elim
end Tw
end

section
set_option Elab.async false
set_option linter.all false
set_option maxRecDepth 100000
set_option maxHeartbeats 4000000
/-! Tw, part Wb: == and != of dicts with flat values. -/
namespace Tw
open PySem PySem.Spec L2
variable {g : Gx} {ρ ρ' : List Addr} {H H' : Hp} {X : Cx} {W : WX} {L : List O} {cm : Nat → Addr} {fx : Hp}
def hitsD (b : List (Key × D)) : List (Key × D) → Bool
  | [] => true
  | kv :: r => match lkK b kv.1 with
    | some e => eqF kv.2 e && hitsD b r
    | none => false
def flatsD (a : List (Key × D)) : Bool := a.all fun kv => flatD kv.2
def eqDic (a b : List (Key × D)) : Bool := a.length == b.length && hitsD b a
theorem lkK_flat {b : List (Key × D)} {k : Key} {e : D} (h : flatsD b = true) (hk : lkK b k = some e) : flatD e = true := by
  unfold lkK at hk
  cases hf : b.find? fun kv => decide (kv.1 = k) with
  | none => rw [hf] at hk; cases hk
  | some kv =>
    rw [hf] at hk
    cases hk
    exact List.all_eq_true.mp h kv (List.mem_of_find?_eq_some hf)
theorem hits_sp {A : Around} {s : Shared} {b : List (Key × D)} {vb : List (Key × V)} {ub : List (Key × Value)} (rb : KR g ρ H b vb) (kb : KV vb ub) (fb : flatsD b = true) :
    ∀ {a : List (Key × D)} {va : List (Key × V)} {ua : List (Key × Value)}, KR g ρ H a va → KV va ua → flatsD a = true → PySem.W.KeqHits A s ub ua (hitsD b a)
  | _, _, ua, .nil, ka, _ => by
    unfold KV at ka
    cases ka
    exact .nil
  | _, _, ua, .cons (k := k) (d := d) (v := v) (ks := ks) r t, ka, fa => by
    unfold KV at ka
    cases ka with
    | cons h tl =>
      rename_i q ua'
      obtain ⟨k', u⟩ := q
      obtain ⟨h1, h2⟩ := h
      have h1' : k = k' := h1
      subst h1'
      have h2' : RelV v u := h2
      have fd : flatD d = true := List.all_eq_true.mp fa (k, d) List.mem_cons_self
      have ft : flatsD ks = true := List.all_eq_true.mpr fun kv hkv => List.all_eq_true.mp fa kv (List.mem_cons_of_mem _ hkv)
      have rest := hits_sp (A := A) (s := s) rb kb fb t (show KV _ _ from tl) ft
      rcases rb.look k with ⟨e, y, h3, h4, h5⟩ | ⟨h3, h4⟩
      · have rr : RelO (some y) (valueAt ub k) := by rw [← h4]; exact kb.val k
        obtain ⟨z, hz, rz⟩ := rr.some_of
        have fe : flatD e = true := lkK_flat fb h3
        show PySem.W.KeqHits A s ub ((k, u) :: ua') (match lkK b k with | some e => eqF d e && hitsD b ks | none => false)
        rw [h3]
        refine .hit hz ?_ rest
        have q := eqAt_V (A := A) (s := s) h2' rz ((flatD_ok r).trans fd) ((flatD_ok h5).trans fe)
        rw [eqF_ok r h5] at q
        exact q
      · show PySem.W.KeqHits A s ub ((k, u) :: ua') (match lkK b k with | some e => eqF d e && hitsD b ks | none => false)
        rw [h3]
        have rr : RelO none (valueAt ub k) := by rw [← h4]; exact kb.val k
        refine .miss ?_
        cases hv : valueAt ub k with
        | none => rfl
        | some z => rw [hv] at rr; cases rr
def oEqDc : O2 := fun x y L => match x, y with
  | .ref n, .ref m => match L[n]?, L[m]? with
    | some (.dic _ a), some (.dic _ b) => if flatsD a = true ∧ flatsD b = true then some (.bl (eqDic a b), L) else none
    | _, _ => oEq (.ref n) (.ref m) L
  | _, _ => oEq x y L
def oNeDc : O2 := fun x y L => match x, y with
  | .ref n, .ref m => match L[n]?, L[m]? with
    | some (.dic _ a), some (.dic _ b) => if flatsD a = true ∧ flatsD b = true then some (.bl (!eqDic a b), L) else none
    | _, _ => oNe (.ref n) (.ref m) L
  | _, _ => oNe x y L
theorem op_oEqDc (hu : X.A.units + 64 < cLine) : OpR X (compareOp .Eq) (rM ⟨X.K, cm, fx, X.w⟩ oEqDc) := by
  intro pins s σ H x y v u Q I rx ry q
  obtain ⟨ρ, L, d, e, hh, r1, r2, q⟩ := q
  unfold oEqDc at q
  split at q
  · rename_i n m
    split at q
    · rename_i la a lb b hn hm
      split at q
      · rename_i fl
        cases r1 with
        | ref ea =>
          rename_i p1
          cases r2 with
          | ref eb =>
            rename_i p2
            obtain rfl : v = Value.ref p1 := rx
            obtain rfl : u = Value.ref p2 := ry
            obtain ⟨va, rda, kra⟩ := hh.dic hn ea
            obtain ⟨vb, rdb, krb⟩ := hh.dic hm eb
            obtain ⟨_, ya, ua, ra, da⟩ := (show ObjOk X.prog X.w H s.heap p1 (.dK va) from rda.ok I.hok)
            obtain ⟨_, yb, ub, rb, db⟩ := (show ObjOk X.prog X.w H s.heap p2 (.dK vb) from rdb.ok I.hok)
            have hl : (ua.length == ub.length && hitsD b a) = eqDic a b := by
              unfold eqDic
              rw [show ua.length = a.length from ra.length.symm.trans kra.length.symm, show ub.length = b.length from rb.length.symm.trans krb.length.symm]
            exact PySem.W.keq_eq (knd := mixKind X.prog X.w) (r := hitsD b a) ya yb da db (by omega) (fun _ => hits_sp krb rb fl.2 kra ra fl.1) (by
              rw [hl]
              exact ⟨.bl (eqDic a b), H, I, rfl, LfO.same q hh (.bl _)⟩)
      · exact q.elim
    · exact op_oEq hu pins s σ H x y v u Q I rx ry ⟨ρ, L, _, _, hh, r1, r2, q⟩
  · exact op_oEq hu pins s σ H x y v u Q I rx ry ⟨ρ, L, _, _, hh, r1, r2, q⟩
theorem op_oNeDc (hu : X.A.units + 64 < cLine) : OpR X (compareOp .NotEq) (rM ⟨X.K, cm, fx, X.w⟩ oNeDc) := by
  intro pins s σ H x y v u Q I rx ry q
  obtain ⟨ρ, L, d, e, hh, r1, r2, q⟩ := q
  unfold oNeDc at q
  split at q
  · rename_i n m
    split at q
    · rename_i la a lb b hn hm
      split at q
      · rename_i fl
        cases r1 with
        | ref ea =>
          rename_i p1
          cases r2 with
          | ref eb =>
            rename_i p2
            obtain rfl : v = Value.ref p1 := rx
            obtain rfl : u = Value.ref p2 := ry
            obtain ⟨va, rda, kra⟩ := hh.dic hn ea
            obtain ⟨vb, rdb, krb⟩ := hh.dic hm eb
            obtain ⟨_, ya, ua, ra, da⟩ := (show ObjOk X.prog X.w H s.heap p1 (.dK va) from rda.ok I.hok)
            obtain ⟨_, yb, ub, rb, db⟩ := (show ObjOk X.prog X.w H s.heap p2 (.dK vb) from rdb.ok I.hok)
            have hl : (ua.length == ub.length && hitsD b a) = eqDic a b := by
              unfold eqDic
              rw [show ua.length = a.length from ra.length.symm.trans kra.length.symm, show ub.length = b.length from rb.length.symm.trans krb.length.symm]
            exact PySem.W.keq_ne (knd := mixKind X.prog X.w) (r := hitsD b a) ya yb da db (by omega) (fun _ => hits_sp krb rb fl.2 kra ra fl.1) (by
              rw [hl]
              exact ⟨.bl (!eqDic a b), H, I, rfl, LfO.same q hh (.bl _)⟩)
      · exact q.elim
    · exact op_oNe hu pins s σ H x y v u Q I rx ry ⟨ρ, L, _, _, hh, r1, r2, q⟩
  · exact op_oNe hu pins s σ H x y v u Q I rx ry ⟨ρ, L, _, _, hh, r1, r2, q⟩
end Tw
end

section
set_option Elab.async false
set_option linter.all false
set_option maxRecDepth 100000
set_option maxHeartbeats 4000000
/-! Tw, part Wc: {**d}. -/
namespace TwMg
open PySem
section
variable {prog : Program} {w : World} {K : Type} [DecidableEq K] {knd : KeyKind prog w K} {A : Around} {E : Value → Shared → Prop} {s : Shared}
theorem not_ref {k : K} {v : Value} (h : knd.is k v = true) {a : Addr} : v ≠ .ref a := fun e => by
  have := knd.byValue k v h
  rw [e] at this
  cases this
/-- d.__setitem__ of a key that is not there, its hash known -/
theorem put_new {d : Addr} {kvs : List (K × Value)} {k : K} {key v : Value} {Q : Unit → Shared → Prop} (hkey : knd.is k key = true) (hm : s.heap.DictOf knd d kvs) (hnot : k ∉ kvs.map (·.1)) (hsz : kvs.length ≤ sizeLine)
    (hQ : ∀ h', h'.DictOf knd d (kvs ++ [(k, v)]) → Heap.SameBut d s.heap h' → Q () { s with heap := h' }) : wpAny (model prog w) A (dictPut d (knd.hash k) key v) Q E s := by
  obtain ⟨o, es, ep, ho, hc, hd, hk, hp, hn⟩ := hm
  have hes : es.size ≤ sizeLine := by
    have e1 := hp.length
    have e2 : es.toList.length = es.size := by simp
    omega
  have hidx : (es.findIdx? fun e => knd.is k e.key) = kvs.findIdx? fun kv => decide (kv.1 = k) := by
    rw [← hp.findIdx k]; obtain ⟨l⟩ := es; simp
  have hnone : (kvs.findIdx? fun kv => decide (kv.1 = k)) = none := by
    rw [List.findIdx?_eq_none_iff]
    intro kv hkv
    exact decide_eq_false fun e => hnot (List.mem_map.mpr ⟨kv, hkv, e⟩)
  unfold dictPut
  refine wpAny_bind (wpAny_dictFind_of hkey ho hd hk ?_)
  rw [hidx, hnone]
  refine wpAny_updateDictKeys (hz := hes) ho hd (hQ _ ⟨_, _, ep + 1, Heap.get?_update_self _ ho (Obj.isFreed_of_dict (Obj.data_mapDictKeys hd _)),
      hc.mapDictKeys _, Obj.data_mapDictKeys hd _, hk.push hkey _, ?_, ?_⟩ (Heap.SameBut.update ..))
  · have := hp.append hkey (knd.hash k) v
    obtain ⟨l⟩ := es
    simpa using this
  · rw [List.map_append, List.nodup_append]
    refine ⟨hn, by simp, ?_⟩
    intro a ha b hb
    simp only [List.map_cons, List.map_nil, List.mem_singleton] at hb
    subst hb
    exact fun e => hnot (e ▸ ha)
/-- the entries of one dict put into another that is empty -/
theorem merge_empty {d o : Addr} {kvs : List (K × Value)} {Q : Unit → Shared → Prop} (hdo : d ≠ o) (hoS : (o == sysModules) = false) (hd : s.heap.DictOf knd d []) (ho : s.heap.DictOf knd o kvs) (hsz : kvs.length ≤ sizeLine)
    (hQ : ∀ h', h'.DictOf knd d kvs → Heap.SameBut d s.heap h' → Q () { s with heap := h' }) : wpAny (model prog w) A (mergeMapping d (.ref o) false) Q E s := by
  obtain ⟨od, esd, epd, hod, hcd, hdd, hkd, hpd, hnd⟩ := id hd
  obtain ⟨oo, eso, epo, hoo, hco, hdo', hko, hpo, hno⟩ := id ho
  have hlen : kvs.length = eso.size := by rw [← hpo.length]; simp
  unfold mergeMapping
  refine wpAny_bind (wpAny_isInstance ho.typeIs PySem.F.sub_dict_dict ?_)
  rw [if_pos rfl]
  refine wpAny_bind (wpAny_specialOf ho.typeIs PySem.F.slot_dict_iter.lookup (wpAny_bind (wpAny_pure ?_)))
  have hbq : ((some (Value.builtin "dict.__iter__") : Option Value) == some (Value.builtin "dict.__iter__")) = true := by decide +kernel
  rw [hbq]
  dsimp only
  rw [if_neg (by rw [hoS]; exact Bool.false_ne_true)]
  refine wpAny_bind (wpAny_dictEntries hod hdd ?_)
  have he0 : esd = #[] := by
    have := hpd.length
    simpa using this
  rw [he0, if_pos (by rfl)]
  refine wpAny_bind (wpAny_dictEntries hoo hdo' ?_)
  refine wpAny_bind ?_
  rw [← Array.forIn_toList]
  have keyOk : ∀ e ∈ eso.toList, ∀ a, e.key ≠ Value.ref a := fun e he a => by
    obtain ⟨k', hk', _⟩ := hko e (Array.mem_toList_iff.mp he)
    exact not_ref hk'
  refine wpAny_forIn_list _ (fun rest _ s' => s' = s ∧ ∀ e ∈ rest, ∀ a, e.key ≠ Value.ref a) _ ?_ ?_ _ _ ⟨rfl, keyOk⟩
  · rintro x rest b s' ⟨rfl, hx⟩
    have nx := hx x List.mem_cons_self
    split
    · rename_i a he
      exact absurd he (nx a)
    · exact wpAny_pure ⟨rfl, fun e he => hx e (List.mem_cons_of_mem _ he)⟩
  · rintro b s' ⟨rfl, _⟩
    refine wpAny_bind (wpAny_dictEntries hoo hdo' ?_)
    refine wpAny_bind (wpAny_dictEpoch hoo hdo' ?_)
    refine wpAny_bind ?_
    rw [List.range_eq_range']
    refine wpAny_forIn_list _
      (fun rest _ s'' => ∃ h' i, s'' = { s' with heap := h' } ∧ rest = List.range' i (eso.size - i) ∧ i ≤ eso.size ∧ h'.DictOf knd d (kvs.take i) ∧ h'.get? o = some oo ∧ Heap.SameBut d s'.heap h')
      _ ?_ ?_ _ _ ⟨s'.heap, 0, rfl, by simp, Nat.zero_le _, by simpa using hd, hoo, Heap.SameBut.refl _ _⟩
    · rintro x rest b s'' ⟨h', i, rfl, hr, hi, hd', hoo', hs'⟩
      have hlt : i < eso.size := by
        rcases Nat.lt_or_ge i eso.size with h | h
        · exact h
        · rw [Nat.sub_eq_zero_of_le h] at hr; simp at hr
      obtain ⟨rfl, hrest⟩ : x = i ∧ rest = List.range' (i + 1) (eso.size - (i + 1)) := by
        have e : eso.size - i = (eso.size - (i + 1)) + 1 := by omega
        rw [e, List.range'_succ] at hr
        injection hr with h1 h2
        exact ⟨h1, h2⟩
      refine wpAny_bind (wpAny_dictEntries hoo' hdo' ?_)
      rw [Array.getElem?_eq_getElem hlt]
      have hxl : x < kvs.length := by omega
      have hkv : kvs[x]? = some kvs[x] := List.getElem?_eq_getElem hxl
      obtain ⟨hkey, hval⟩ := hpo.get? (e := eso[x]) (k := kvs[x].1) (v := kvs[x].2) (by simp [hlt]) hkv
      obtain ⟨k', hkey', hhash⟩ := hko eso[x] (Array.getElem_mem hlt)
      have ek : k' = kvs[x].1 := knd.inj _ _ _ hkey' hkey
      rw [ek] at hhash
      dsimp only
      rw [if_neg (by decide), hhash, hval]
      have hnew : kvs[x].1 ∉ (kvs.take x).map (·.1) := by
        intro hm
        have nd : ((kvs.take (x + 1)).map (·.1)).Nodup := by
          rw [List.map_take]
          exact hno.sublist (List.take_sublist ..)
        rw [List.take_succ_eq_append_getElem hxl, List.map_append, List.nodup_append] at nd
        exact nd.2.2 _ hm _ (by simp) rfl
      refine wpAny_bind (wpAny_holding (put_new hkey hd' hnew (by rw [List.length_take]; omega) fun h'' hd'' hs'' => ?_))
      have hoo'' : h''.get? o = some oo := (hs''.2 o (Ne.symm hdo)).trans hoo'
      refine wpAny_bind (wpAny_dictEpoch hoo'' hdo' ?_)
      rw [if_neg (by simp)]
      exact wpAny_pure ⟨h'', x + 1, rfl, hrest, hlt, by rw [List.take_succ_eq_append_getElem hxl]; exact hd'', hoo'', hs'.trans hs''⟩
    · rintro b s'' ⟨h', i, rfl, hr, hi, hd', hoo', hs'⟩
      have hin : i = eso.size := by
        rcases Nat.lt_or_ge i eso.size with h | h
        · have e : eso.size - i = (eso.size - (i + 1)) + 1 := by omega
          rw [e, List.range'_succ] at hr; exact nomatch hr
        · exact Nat.le_antisymm hi h
      rw [hin, ← hlen, List.take_length] at hd'
      exact wpAny_pure (hQ h' hd' hs')
end
end TwMg
end

section
set_option Elab.async false
set_option linter.all false
set_option maxRecDepth 100000
set_option maxHeartbeats 4000000
/-! Tw, part Wd: {**d}. -/
namespace Tw
open PySem PySem.Spec L2
variable {g : Gx} {ρ ρ' : List Addr} {H H' : Hp} {X : Cx} {W : WX} {L : List O} {cm : Nat → Addr} {fx : Hp}
def tDStar (te : TE) : TE := fun σ H Q => ∀ p, H p = none → te σ (upd H p (.dK [])) fun x H2 => ∃ a kvs, x = .ref a ∧ Rd H2 a (.dK kvs) ∧ H2 p = some (.dK []) ∧ p ≠ a ∧ Q (.ref p) (upd H2 p (.dK kvs))
theorem pe_dstar {e : Expr} {te : TE} {pos : Pos} (he : PE X e te) : PE X (.Dict [none] [e] pos) (tDStar te) := ⟨fun pins s σ H Q I h => by
  have hn := I.hok.fresh (Nat.le_refl s.heap.objs.size)
  have I1 := I.laid (a := s.heap.objs.size) (o := .dK []) (h' := s.heap.push { cls := .type "dict", data := .dict #[] }) (t' := s.toks) (fun _ _ q => Heap.get?_push_of_some _ q) (Nat.le_refl _) (dk_empty s.heap I.big)
  have shape : (evalEachOpt [none] X.env).zip ((evalEach [e] X.env).map fun v => do let x ← v; standAt pos; pure x) = [(none, do let x ← eval e X.env; standAt pos; pure x)] := by
    rw [arm_evalEachOpt_cons, arm_evalEach_cons]
    rfl
  rw [arm_eval_Dict, shape]
  refine wpAny_bind (wpAny_standAt ?_)
  unfold dictDisplay
  dsimp only
  refine wpAny_bind ?_
  rw [List.forIn_cons]
  refine wpAny_bind ?_
  dsimp only
  rw [if_pos (by rfl)]
  refine wpAny_bind (wpAny_pure ?_)
  dsimp only
  refine wpAny_bind (wpAny_alloc ?_)
  refine wpAny_bind (wpAny_holding (wpAny_bind ?_))
  refine wpAny_mono (he.run pins _ σ _ _ I1 (h _ hn)) (fun v s2 z => ?_) fun _ _ x => x
  obtain ⟨x, H2, I2, rx, a, kvs, rfl, rda, hp2, hpa, q⟩ := z
  obtain rfl : v = Value.ref a := rx
  refine wpAny_bind (wpAny_standAt (wpAny_pure ?_))
  obtain ⟨z1, ya, va, ra, da⟩ := dk_rd I2.hok rda
  obtain ⟨_, z2', vd, rd, dd⟩ := dk_of I2.hok hp2
  cases rd
  have hz : va.length ≤ sizeLine := by rw [← ra.length]; exact z1
  refine wpAny_bind (wpAny_onRaise (wpAny_tryCatch (wpAny_onRaise (wpAny_holding (TwMg.merge_empty (knd := mixKind X.prog X.w) hpa ya dd da hz fun h' dd' hs => ?_)))))
  refine wpAny_pure ?_
  dsimp only
  rw [List.forIn_nil]
  refine wpAny_pure ?_
  dsimp only
  rw [if_pos (by rfl)]
  refine wpAny_bind (wpAny_pure ?_)
  dsimp only
  refine wpAny_pure ?_
  have he' : ∃ q, h'.get? s.heap.objs.size = some q := let ⟨q, _, _, hq, _⟩ := dd'; ⟨q, hq⟩
  exact ⟨.ref s.heap.objs.size, _, d_write (t' := s2.toks) I2 (by rw [hp2]; exact True.intro) hs he' (dk_new z1 z2' ra dd'), rfl, q⟩⟩
/-- {**e}, e a dict -/
def mDStar (a : ME) : ME := fun ε L => (a ε (L ++ [.dic false []])).bind fun x L1 => match x with
  | .ref n => if n = L.length then .bad else (match L1[n]?, L1[L.length]? with
    | some (.dic _ ks), some (.dic false []) => .ok (.ref L.length) (L1.set L.length (.dic false ks))
    | _, _ => .bad)
  | _ => .bad
theorem se_dstar {e : Expr} {a : ME} {pos : Pos} (he : PE X e (tM ⟨X.K, cm, fx, X.w⟩ W a)) : PE X (.Dict [none] [e] pos) (tM ⟨X.K, cm, fx, X.w⟩ W (mDStar a)) :=
  (pe_dstar he).imp fun σ H Q q => by
    obtain ⟨ε, ρ, L, he, hh, q⟩ := q
    intro p hp
    have h2 := hh.new hp (u := .dK []) (o := .dic false []) ⟨[], upd_same, .nil⟩
    have t0 : TP H (upd H p (.dK [])) := TP.new hp
    have sh : LfD ⟨X.K, cm, fx, X.w⟩ (ρ ++ [p]) (upd H p (.dK [])) σ W (mDStar a ε L) Q := LfD.mono (pre_snoc _ _) t0 q
    have hlen : ρ.length = L.length := hh.len
    refine ⟨ε, ρ ++ [p], L ++ [.dic false []], he.mono (pre_snoc _ _) t0, h2, Lf.bind sh fun x L1 v ρ1 H1 _ p1 t1 h1 r1 q1 => ?_⟩
    split at q1
    · rename_i n
      split at q1
      · exact q1.elim
      · rename_i hne
        split at q1
        · rename_i lk ks hn hm
          cases r1 with
          | ref ea =>
            rename_i b
            have ep : ρ1[L.length]? = some p := pre_get p1 (by rw [← hlen]; simp)
            obtain ⟨vs, rda, kr⟩ := h1.dic hn ea
            obtain ⟨vp, rdp, kp⟩ := h1.ob _ _ p hm ep
            cases kp
            have hpb : p ≠ b := fun z => hne (nodup_get h1.nd ea (z ▸ ep))
            refine ⟨b, vs, rfl, rda, rdp, hpb, ?_⟩
            have tm : TP H1 (upd H1 p (.dK vs)) := TP.mut rdp rfl
            exact q1 (.ref p) ρ1 (upd H1 p (.dK vs)) (List.prefix_refl _) tm (h1.set ep rdp rfl ⟨vs, upd_same, kr.mono (List.prefix_refl _) tm⟩) (.ref ep)
        · exact q1.elim
    · exact q1.elim
end Tw
end

section
set_option Elab.async false
set_option linter.all false
set_option maxRecDepth 100000
set_option maxHeartbeats 4000000
/-! Tw, part We: *d in a display or call, d a dict. -/
namespace Tw
open PySem PySem.Spec PyProof.Rows L2
variable {g : Gx} {ρ ρ' : List Addr} {H H' : Hp} {X : Cx} {W : WX} {L : List O} {cm : Nat → Addr} {fx : Hp}
def tStarD (K : PySem.W.Frag) (te : TE) (t : TA) : TA := fun σ H Q => te σ H fun x H1 => ∃ p kvs, x = V.ref p ∧ Rd H1 p (.dK kvs) ∧ t σ H1 fun ys H2 => Q ((kvs.map fun kv => kV kv.1) ++ ys) H2
theorem pa_starD {e : Expr} {es : List Expr} {te : TE} {t : TA} {p : Pos} (hc : X.calm = true) (he : PE X e te) (hr : PA X es t) (hs : starEach (.Starred e p :: es) X.env = (true, eval e X.env) :: starEach es X.env := by rfl) : PA X (.Starred e p :: es) (tStarD X.K te t) := by
  refine ⟨fun pos pins s σ H Q I h => ?_⟩
  refine PySem.W.items_star (thn (he.run pins s σ H _ I h) fun v s1 ⟨y, H1, I1, ry, a, kvs, ey, hx, q⟩ => ?_) hs
  subst ey
  obtain rfl : v = Value.ref a := ry
  obtain ⟨z, lo, vs, rel, dd⟩ := dk_rd I1.hok hx
  obtain ⟨ep, hat⟩ := dd.dictAt
  have ek : (kvs.map fun kv => kV kv.1) = vs.map fun p => kV p.1 := by
    have e := congrArg (List.map kV) rel.keys
    rw [List.map_map, List.map_map] at e
    exact e
  have hT : s1.TypeIs (.ref a) "dict" := dd.typeIs
  unfold PySem.W.StarOf notIterableAtAll
  refine wpAny_bind (wpAny_specialOf hT PySem.F.slot_dict_iter.lookup (wpAny_pure ⟨rfl, ?_⟩))
  refine PySem.W.kdu_collect (PySem.W.kdl_dict (knd := mixKind X.prog X.w) (kvs := vs) (ep := ep) lo) (I1.ok.hd hc) hat (by rw [← rel.length]; exact z) fun h' tk acc hk hacc => ?_
  have hv : Vals (kvs.map fun kv => kV kv.1) acc.toList := by
    rw [ek]
    exact keys_at (by rw [Array.length_toList]; exact hacc.1) fun j v e => hacc.2 j v (by rw [← Array.getElem?_toList]; exact e)
  have I2 : L2.Inv X pins σ H1 { s1 with heap := h', toks := tk } := I1.kept (t' := tk) hk
  exact thn (hr.run pos pins _ σ H1 _ I2 q) fun ws s3 ⟨us, H3, I3, r3, q3⟩ => ⟨(kvs.map fun kv => kV kv.1) ++ us, H3, I3, hv.append r3, q3⟩
/-- *e, e a dict too -/
def seqDD (L : List O) (x : D) : Option (List D) := match x with
  | .ref n => match L[n]? with
    | some (.dic _ ks) => some (ks.map fun kv => keyOf kv.1)
    | _ => none
  | _ => none
def mStarD (a : ME) (r : MA) : MA := fun ε L => (a ε L).bind fun x L1 => match seqDD L1 x with
  | some xs => (r ε L1).bind fun ys L2 => .ok (xs ++ ys) L2
  | none => .bad
theorem sa_starD {e : Expr} {es : List Expr} {a : ME} {r : MA} {p : Pos} (hc : X.calm = true) (ha : PE X e (tM ⟨X.K, cm, fx, X.w⟩ W a)) (hr : PA X es (tMA ⟨X.K, cm, fx, X.w⟩ W r)) (hs : starEach (.Starred e p :: es) X.env = (true, eval e X.env) :: starEach es X.env := by rfl) :
    PA X (.Starred e p :: es) (tMA ⟨X.K, cm, fx, X.w⟩ W (mStarD a r)) :=
  (pa_starD hc ha hr hs).imp fun σ H Q q => by
    obtain ⟨ε, ρ, L, he, hh, q⟩ := q
    refine ⟨ε, ρ, L, he, hh, Lf.bind q fun x L1 v ρ1 H1 _ p1 t1 h1 r1 q1 => ?_⟩
    cases hs : seqDD L1 x with
    | none => rw [hs] at q1; exact q1.elim
    | some xs =>
      rw [hs] at q1
      unfold seqDD at hs
      split at hs
      · split at hs
        · rename_i n lk ks hn
          cases hs
          cases r1 with
          | ref ea =>
            rename_i b
            obtain ⟨vs, rda, kr⟩ := h1.dic hn ea
            refine ⟨b, vs, rfl, rda, ε, ρ1, L1, he.mono p1 t1, h1, Lf.bind q1 fun ys L2 us ρ2 H2 _ p2 t2 h2 r2 q2 => ?_⟩
            exact q2 _ ρ2 H2 (List.prefix_refl _) (TP.refl H2) h2 (((keys_vrs kr).mono p2 t2).append r2)
        · cases hs
      · cases hs
end Tw
end

section
set_option Elab.async false
set_option linter.all false
set_option maxRecDepth 100000
set_option maxHeartbeats 4000000
/-! Tw, part Wf: len of a dict that is being walked. -/
namespace Tw
open PySem PySem.Spec L2
variable {g : Gx} {ρ ρ' : List Addr} {H H' : Hp} {X : Cx} {W : WX} {L : List O} {cm : Nat → Addr} {fx : Hp}
def cLenDc : OC := fun ds L => match ds with
  | [.ref n] => match L[n]? with
    | some (.dic _ ks) => some (.int ks.length, L)
    | _ => cLen [.ref n] L
  | _ => cLen ds L
theorem c_lenDc : CallR X (.builtin "len") (rC ⟨X.K, cm, fx, X.w⟩ cLenDc) := fun pins s σ H xs us Q I r q => by
  obtain ⟨ρ, L, ds, hh, rr, q⟩ := q
  unfold cLenDc at q
  split at q
  · rename_i n
    split at q
    · rename_i lk ks hn
      obtain ⟨v, rfl, rv⟩ := rr.one
      cases rv with
      | ref ea =>
        obtain ⟨vs, rd, kr⟩ := hh.dic hn ea
        obtain ⟨u, eu, rx⟩ := vals1 r
        subst eu
        cases rx
        refine d_len I rd fun t s' I' => ⟨.int ks.length, H, I', ⟨t, ?_⟩, LfO.same q hh (.int _)⟩
        rw [kr.length]
    · exact c_len pins s σ H xs us Q I r ⟨ρ, L, _, hh, rr, q⟩
  · exact c_len pins s σ H xs us Q I r ⟨ρ, L, _, hh, rr, q⟩
end Tw
end

section
set_option Elab.async false
set_option linter.all false
set_option maxRecDepth 100000
set_option maxHeartbeats 4000000
/-! Tw, part Wg: list(d.values()), d.pop(k), truth by an own __len__. -/
namespace Tw
open PySem PySem.Spec PyProof.Rows L2
variable {g : Gx} {ρ ρ' : List Addr} {H H' : Hp} {X : Cx} {W : WX} {L : List O} {cm : Nat → Addr} {fx : Hp}
/-- a view of a dict's values -/
def VwO (p d : Addr) : HO := .ext fun h => h.IsValuesView p d
theorem vwO_ok {P : Program} {w : World} {H : Hp} {h : Heap} {p d : Addr} (e : h.IsValuesView p d) : ObjOk P w H h p (VwO p d) := by
  refine ⟨e, ?_, fun h h' x k => ?_⟩
  · obtain ⟨o, ho, _⟩ := e
    exact ⟨o, ho⟩
  · obtain ⟨o, ho, r⟩ := x
    exact ⟨o, k o ho, r⟩
def tVals (td : TE) : TE := fun σ H Q => td σ H fun x H1 => ∃ a kvs, x = .ref a ∧ Rd H1 a (.dK kvs) ∧ ∀ p, H1 p = none → Q (.ref p) (upd H1 p (VwO p a))
theorem pe_vals {e : Expr} {td : TE} {apos cpos : Pos} (he : PE X e td) (hbase : attributeBase e "values" X.env (eval e X.env) = eval e X.env := by rfl) (hline : (apos.endLine == cpos.line) = true := by rfl) : PE X (.Call (.Attribute e "values" apos) [] [] cpos) (tVals td) := by
  refine ⟨fun pins s σ H R I h => ?_⟩
  refine wpAny_Call_method (T := "dict") (id := "dict.values") hbase rfl hline F.plainAttrs_dict F.slot_dict_values F.type_dict_values (thn (he.run pins s σ H _ I h) fun u s1 ⟨x, H1, I1, rx, d, kvs, ex, hd, q⟩ => ?_)
  subst ex
  obtain rfl : u = Value.ref d := rx
  obtain ⟨hz, hs, vs, rel, dd⟩ := dk_rd I1.hok hd
  refine ⟨dd.typeIs, dd.mapOf.noDict, ?_⟩
  have fin : EP X pins σ R (.ref s1.heap.objs.size) { s1 with heap := s1.heap.push { cls := .type "dict_values", data := .fields #[.ref d] } } :=
    ⟨.ref s1.heap.objs.size, upd H1 s1.heap.objs.size (VwO s1.heap.objs.size d), I1.laid (t' := s1.toks) (fun b u e => Heap.get?_push_of_some _ e) (Nat.le_refl _) (vwO_ok ⟨_, Heap.get?_push_size _ rfl, rfl, rfl⟩), rfl, q _ (I1.hok.fresh (Nat.le_refl _))⟩
  show wpAny _ _ (callWith cpos (.builtin "dict.values") [.ref d] [] []) _ X.xe s1
  refine Calls.callWith_builtin rfl (PySem.evalArgs_none ?_)
  exact call_meetsIn F.slot_dict_values dd.typeIs F.entry_dict_values (F.args_dict_values_1 _) (meets_dict_values (mixKind X.prog X.w) d hs) ⟨⟨vs, dd⟩, fin⟩
theorem KV.vals {κ : Type} {kvs : List (κ × V)} {vs : List (κ × Value)} (r : KV kvs vs) : Vals (kvs.map (·.2)) (vs.map (·.2)) := by
  unfold KV at r
  induction r with
  | nil => exact .nil
  | cons h t ih => exact .cons h.2 ih
/-- list(v), v a view of values -/
theorem call_listV (hcalm : X.calm = true) : CallR X (.type "list") (fun xs H Q => ∃ (p a : Addr) (kvs : List (Key × V)), xs = [.ref p] ∧ H p = some (VwO p a) ∧ Rd H a (.dK kvs) ∧ ∀ q, H q = none → Q (.ref q) (upd H q (.lst (kvs.map (·.2))))) := by
  intro pins s σ H xs us Q I r q
  obtain ⟨p, a, kvs, ex, hp, hd, q⟩ := q
  subst ex
  obtain ⟨u, eu, rx⟩ := r.one
  subst eu
  obtain rfl : u = Value.ref p := rx
  obtain ⟨z, lo, vs, rel, dd⟩ := dk_rd I.hok hd
  obtain ⟨ep, hat⟩ := dd.dictAt
  obtain ⟨hv, _, _⟩ := I.hok p _ hp
  have hlen : vs.length = kvs.length := (KV.length rel).symm
  refine PySem.W.kdl_call (PySem.W.kdl_values (knd := mixKind X.prog X.w) (kvs := vs) (ep := ep) (d := a) (r := p)) (I.ok.hd hcalm) ⟨hv, hat⟩ (by rw [hlen]; exact z) fun h' tk acc c' hk hD hacc => ?_
  have hvs : acc.toList = vs.map (·.2) := PySem.W.kdl_vals_eq _ (by rw [Array.length_toList]; exact hacc.1) fun j v e => hacc.2 j v (by rw [← Array.getElem?_toList]; exact e)
  have hval : Vals (kvs.map (·.2)) acc.toList := by rw [hvs]; exact KV.vals rel
  exact ⟨.ref s.heap.objs.size, upd H s.heap.objs.size (.lst (kvs.map (·.2))), I.laid (t' := tk) hk (Nat.le_refl _)
    (show ObjOk X.prog X.w _ _ _ (.lst (kvs.map (·.2))) from ⟨by rw [List.length_map]; exact z, acc.toList, c', hval, by rw [Array.toArray_toList]; exact hD⟩), rfl, q _ (I.hok.fresh (Nat.le_refl _))⟩
theorem vals_vrs : ∀ {ks : List (Key × D)} {vs : List (Key × V)}, KR g ρ H ks vs → VRs g ρ H (ks.map (·.2)) (vs.map (·.2))
  | _, _, .nil => .nil
  | _, _, .cons r t => .cons r (vals_vrs t)
/-- list(o.values()) -/
def mListVals (o : ME) : ME := fun ε L => (o ε L).bind fun x L1 => match x with
  | .ref n => match L1[n]? with
    | some (.dic _ ks) => .ok (.ref L1.length) (L1 ++ [.lst (ks.map (·.2))])
    | _ => .bad
  | _ => .bad
theorem se_listVals {o : Expr} {mo : ME} {p apos cpos pos : Pos} (hc : X.calm = true) (hm : X.mg "list" = none) (ho : PE X o (tM g W mo))
    (hbase : attributeBase o "values" X.env (eval o X.env) = eval o X.env := by rfl) (hline : (apos.endLine == cpos.line) = true := by rfl) (hg : Gl X "list" := by rfl)
    (he : starEach [Expr.Call (.Attribute o "values" apos) [] [] cpos] X.env = (false, eval (Expr.Call (.Attribute o "values" apos) [] [] cpos) X.env) :: starEach [] X.env := by rfl) :
    PE X (.Call (.Name "list" p) [.Call (.Attribute o "values" apos) [] [] cpos] [] pos) (tM g W (mListVals mo)) :=
  (pe_callTy (T := "list") (call_listV hc) hg hm (by decide +kernel) (pa_cons (pe_vals ho hbase hline) pa_nil) (by decide) (by decide) he (by rfl)).imp fun σ H Q q => by
    obtain ⟨ε, ρ, L, he, hh, q⟩ := q
    refine ⟨ε, ρ, L, he, hh, Lf.bind q fun x L1 v ρ1 H1 e1 p1 t1 h1 r1 q1 => ?_⟩
    cases r1 with
    | @ref nn aa ea =>
      simp only at q1
      split at q1
      · rename_i lk ks hn
        obtain ⟨vs, hd, kr⟩ := h1.dic hn ea
        refine ⟨aa, vs, rfl, hd, fun p hp => ⟨p, aa, vs, rfl, upd_same, ?_, fun q' hq' => ?_⟩⟩
        · exact hd.imp (fun z => by rw [upd_ne (ne_of_none z hp)]; exact z) fun ⟨o, z⟩ => ⟨o, by rw [upd_ne (ne_of_none z hp)]; exact z⟩
        · have t2 : TP H1 (upd H1 p (VwO p aa)) := TP.new hp
          have h2 := h1.fresh hp (VwO p aa)
          have t3 := t2.trans (TP.new (o := .lst (vs.map (·.2))) hq')
          have h3 := h2.new (u := .lst (vs.map (·.2))) (o := .lst (ks.map (·.2))) hq' ⟨_, upd_same, (vals_vrs kr).mono (pre_snoc _ _) t3⟩
          refine q1 _ (ρ1 ++ [q']) _ (pre_snoc _ _) t3 h3 (.ref ?_)
          rw [← h1.len]
          simp
      · exact q1.elim
    | _ => exact q1.elim
/-! ### d.pop(k) -/
def dropKD (ks : List (Key × D)) (k : Key) : List (Key × D) := ks.filter fun kv => !decide (kv.1 = k)
theorem dropKD_map {k : Key} : ∀ {ks : List (Key × D)} {vs : List (Key × V)}, KR g ρ H ks vs → KR g ρ H (dropKD ks k) (dropK vs k)
  | _, _, .nil => .nil
  | _, _, .cons (k := k') (d := d) (v := v) r t => by
    unfold dropKD dropK
    rw [List.filter_cons, List.filter_cons]
    by_cases h : k' = k
    · simp only [h, decide_true, Bool.not_true, Bool.false_eq_true, if_false, ne_eq, not_true, decide_false]
      exact dropKD_map t
    · simp only [h, decide_false, Bool.not_false, if_true, ne_eq, not_false_eq_true, decide_true]
      exact .cons r (dropKD_map t)
def oDPop (x y : D) (L : List O) : OD := match x with
  | .ref n => match L[n]? with
    | some (.dic false ks) => match keyD y with
      | some k => match lkK ks k with
        | some v => some (v, L.set n (.dic false (dropKD ks k)))
        | none => none
      | none => none
    | _ => none
  | _ => none
def mDPop (o a : ME) : ME := fun ε L => (o ε L).bind fun x L1 => if isDic L1 x = true then (a ε L1).bind fun y L2 => ofO (oDPop x y L2) else .bad
theorem KR.valV {ks : List (Key × D)} {vs : List (Key × V)} (r : KR g ρ H ks vs) (k : Key) {d : D} (h : lkK ks k = some d) : ∃ v, L2.valV vs k = some v ∧ VR g ρ H d v := by
  induction r with
  | nil => cases h
  | cons r t ih =>
    rename_i k' d' v' ks' vs'
    unfold lkK at h
    rw [List.find?_cons] at h
    by_cases e : k' = k
    · simp only [e, decide_true, Option.map_some] at h
      cases h
      exact ⟨_, valV_pos e, r⟩
    · simp only [e, decide_false] at h
      obtain ⟨v, h1, h2⟩ := ih h
      exact ⟨v, (valV_neg e).trans h1, h2⟩
theorem se_dpop {o e : Expr} {mo ma : ME} {apos cpos : Pos} (ho : PE X o (tM g W mo)) (ha : PE X e (tM g W ma))
    (hbase : attributeBase o "pop" X.env (eval o X.env) = eval o X.env := by rfl)
    (hfew : ((backTo cpos (starEach [e] X.env)).all (fun x => !x.1) && (backToKw cpos (keywordEach [] X.env)).all (fun x => x.1.isSome)
      && decide (([e] : List Expr).length + ([] : List Keyword).length + (if ([] : List Keyword).isEmpty then 0 else 1) < 30)) = true := by rfl)
    (hline : (apos.endLine == cpos.line) = true := by rfl) (ht : backTo cpos (starEach [e] X.env) = [(false, eval e X.env)] := by rfl) :
    PE X (.Call (.Attribute o "pop" apos) [e] [] cpos) (tM g W (mDPop mo ma)) :=
  (pe_dpop1 ho ha ⟨hbase, hfew, hline, ht⟩).imp fun σ H Q q => by
    obtain ⟨ε, ρ, L, he, hh, q⟩ := q
    refine ⟨ε, ρ, L, he, hh, Lf.bind q fun x L1 v ρ1 H1 e1 p1 t1 h1 r1 q1 => ?_⟩
    cases hi : isDic L1 x with
    | false => rw [hi, if_neg (by decide)] at q1; exact q1.elim
    | true =>
      rw [hi, if_pos rfl] at q1
      obtain ⟨n, a, lk, ks, rfl, rfl, ea, hL, isd⟩ := isDic_ok h1 r1 hi
      refine ⟨a, rfl, isd, ε, ρ1, L1, he.mono p1 t1, h1, Lf.bind q1 fun y L2 yv ρ2 H2 e2 p2 t2 h2 r2 q2 => ?_⟩
      have q3 := LfO.of q2
      unfold oDPop at q3
      simp only at q3
      have ea2 := pre_get p2 ea
      split at q3
      · rename_i ks2 hn
        obtain ⟨vs, hd, kr⟩ := h2.ob _ _ _ hn ea2
        split at q3
        · rename_i k hk
          have hy := keyD_ok r2 hk
          split at q3
          · rename_i dv hl
            obtain ⟨w, hw, rw'⟩ := kr.valV k hl
            have tt : TP H2 (upd H2 a (.dK (dropK vs k))) := TP.mut hd rfl
            refine ⟨vs, k, w, hd, hy, hw, ?_⟩
            exact q3 w ρ2 _ (List.prefix_refl _) tt (h2.set ea2 hd rfl ⟨_, upd_same, (dropKD_map kr).mono (List.prefix_refl _) tt⟩) (rw'.mono (List.prefix_refl _) tt)
          · exact q3.elim
        · exact q3.elim
      · exact q3.elim
end Tw
end

section
set_option Elab.async false
set_option linter.all false
set_option maxRecDepth 100000
set_option maxHeartbeats 4000000
/-! Tw, part Wh: truth by an own __len__. -/
namespace PySem.W
open PySem PySem.Spec PyProof.Rows
section
variable {prog : Program} {w : World} {A : Around} {E : Value → Shared → Prop} {s : Shared} {K : Frag} {a C f : Addr} {ox : Obj} {od : Option Obj}
theorem tw_truthyLen {Q : Bool → Shared → Prop} (X : K.In s.heap) (I : InstAt s.heap a ox C od) (hb : findIn K (.ref C) "__bool__" = some none) (hs : findIn K (.ref C) "__len__" = some (some (.ref f))) (hf : isFn K (.ref f) = true)
    (h : wpAny (model prog w) A.in1 (call (.ref f) [.ref a]) (fun v s' => ∃ n t, v = .int n t ∧ (0 ≤ n ∧ n < 2 ^ 63) ∧ ∀ tk, Q (n != 0) { s' with toks := tk }) E s) : wpAny (model prog w) A (truthy (.ref a)) Q E s := by
  have body : wpAny (model prog w) A.in1 (Builtin.«len» ⟨[.ref a], []⟩) (fun fin s' => ∃ n t, fin = .done (.ret (.int n t)) ∧ Q (n != 0) s') E s := by
    unfold Builtin.«len»
    refine wpAny_bind (m := oneArg "len" _) (wpAny_pure ?_)
    refine wpAny_bind (m := callSpecial? (.ref a) (Str.ofString "__len__")) (special_fn X I hs (beq_iff_eq.mp hf) (wpAny_mono h (fun r s' hr => ?_) fun _ _ y => y))
    obtain ⟨n, t, rfl, ⟨h0, h1⟩, hq⟩ := hr
    refine wpAny_bind (wpAny_holding (wpAny_pure ?_))
    refine wpAny_bind (wpAny_letGo ?_)
    show wpAny _ _ (if n < 0 then _ else _) _ _ _
    rw [if_neg (by omega)]
    show wpAny _ _ (if n ≥ 2 ^ 63 then _ else _) _ _ _
    rw [if_neg (by omega)]
    exact wpAny_bind (wpAny_mkInt (wpAny_pure ⟨_, _, rfl, hq _⟩))
  have key : wpAny (model prog w) A (runValue (.builtin "len" ⟨[.ref a], []⟩)) (fun r s' => ∃ n t, r = .int n t ∧ Q (n != 0) s') E s := by
    refine wpAny_runValue (codeAny_builtin entry_len ?_)
    rw [Around.under_plainId plain_len _]
    exact wpAny_mono body (fun fin s' h' => by obtain ⟨n, t, rfl, hq⟩ := h'; exact ⟨n, t, rfl, hq⟩) fun _ _ e => e
  have hsp : ∀ {Q' : Option Value → Shared → Prop}, Q' (some (.ref f)) s → wpAny (model prog w) A (specialOf (.ref a) "__len__") Q' E s := fun q => by
    unfold specialOf
    exact wpAny_bind (I.type.here ((looks_findIn X hs).here q))
  unfold truthy
  first
    | refine wpAny_bind (DSub.special_no (name := Str.ofString "__bool__") X I hb ?_)
    | refine wpAny_bind (wpAny_pure (wpAny_bind (DSub.special_no (name := Str.ofString "__bool__") X I hb ?_)))
  first
    | refine wpAny_bind (hsp ?_)
    | refine wpAny_bind (wpAny_pure (wpAny_bind (hsp ?_)))
  first
    | exact wpAny_bind (wpAny_mono key (fun r s' h' => by obtain ⟨n, t, rfl, hq⟩ := h'; exact wpAny_pure hq) fun _ _ e => e)
    | exact wpAny_bind (wpAny_pure (wpAny_bind (wpAny_mono key (fun r s' h' => by obtain ⟨n, t, rfl, hq⟩ := h'; exact wpAny_pure hq) fun _ _ e => e)))
end
end PySem.W
namespace Tw
open PySem PySem.Spec PyProof.Rows L2
variable {g : Gx} {ρ ρ' : List Addr} {H H' : Hp} {X : Cx} {W : WX} {L : List O} {cm : Nat → Addr} {fx : Hp}
def mTruI (c : Nat) (F : FS) (a : ME) : MB := fun ε L => (a ε L).bind fun x L1 => if isCls c L1 x = true then match outI (F [x] L1) with
  | some (n, L2) => .ok (n != 0) L2
  | none => .bad else .bad
theorem st_truI {c k : Nat} {F : FS} {e : Expr} {a : ME} (h : MtI X.prog X.w X.K X.mg X.base cm c "__len__" k 1 F) (hb : PySem.W.findIn X.K (.ref (cm c)) "__bool__" = some none) (hr : Room (k + 1) X.A) (ha : PE X e (tM ⟨X.K, cm, fx, X.w⟩ W a))
    (he : ∀ whole, isTrue e X.env whole = (do let v ← whole; standAt e.pos; holding [v] (truthy v)) := by exact fun _ => rfl) : PT X e (tMB ⟨X.K, cm, fx, X.w⟩ W (mTruI c F a)) := by
  refine (pt_truthR (r := fun x H Q => ∃ ρ L d, HR ⟨X.K, cm, fx, X.w⟩ ρ L H ∧ VR ⟨X.K, cm, fx, X.w⟩ ρ H d x ∧ isCls c L d = true ∧ ∃ n L', outI (F [d] L) = some (n, L') ∧ ∀ ρ' H', ρ <+: ρ' → TP H H' → HR ⟨X.K, cm, fx, X.w⟩ ρ' L' H' → Q (n != 0) H') ha (fun pins s σ H x v Q I rx q => ?_) he).imp fun σ H Q q => ?_
  · obtain ⟨ρ, L, d, hh, rv, hc, n, L', ho, q⟩ := q
    obtain ⟨a, dx, fs, rfl, hi⟩ := isCls_ok hh rv hc
    obtain rfl : v = Value.ref a := rx
    unfold outI at ho
    split at ho
    · rename_i n' L2 hF
      split at ho
      · rename_i hz
        cases ho
        obtain ⟨f, fd, ps, hm, hcl, hbd, hps, G⟩ := h.ex
        obtain ⟨mA, J, _⟩ := ins_get I.hok hi
        obtain ⟨od, J, _⟩ := J.look
        refine PySem.W.tw_truthyLen I.kIn J hb hm.at_ hm.fn ?_
        have sp : spF X.w X.K cm 1 F [V.ref a] H (fun v H' => v = .int n ∧ Q (n != 0) H') L2.E0 := by
          refine ⟨rfl, fx, ρ, L, [d], hh, .cons rv .nil, ?_⟩
          rw [hF]
          intro v ρ' H' p t h r
          cases r
          exact ⟨rfl, q ρ' H' p t h⟩
        refine wpAny_mono (run_own (vs := [V.ref a]) (sub_in1 hr) G hbd hps I (.cons rfl .nil) sp) (fun w s' z => ?_) fun _ _ x => x
        obtain ⟨z', H', I', rz, ez, qz⟩ := z
        subst ez
        obtain ⟨t, rfl⟩ := (show ∃ t, w = Value.int n t from rz)
        exact ⟨n, t, rfl, ⟨hz.1, by omega⟩, fun tk => ⟨H', I'.tok _, qz⟩⟩
      · cases ho
    · cases ho
  · obtain ⟨ε, ρ, L, he, hh, q⟩ := q
    refine ⟨ε, ρ, L, he, hh, Lf.bind q fun x L1 v ρ1 H1 _ p1 t1 h1 r1 q1 => ?_⟩
    cases hc : isCls c L1 x with
    | false => rw [hc, if_neg (by decide)] at q1; exact q1.elim
    | true =>
      rw [hc, if_pos rfl] at q1
      cases ho : outI (F [x] L1) with
      | none => rw [ho] at q1; exact q1.elim
      | some p =>
        obtain ⟨n, L2⟩ := p
        rw [ho] at q1
        exact ⟨ρ1, L1, x, h1, r1, hc, n, L2, ho, fun ρ2 H2 p2 t2 h2 => q1 (n != 0) ρ2 H2 p2 t2 h2 rfl⟩
end Tw
end

section
set_option Elab.async false
set_option linter.all false
set_option maxRecDepth 100000
set_option maxHeartbeats 4000000
/-! Tw, part Wi: == and != of instances with own __eq__ beside dicts and lists. -/
namespace Tw
open PySem PySem.Spec PyProof.Rows L2
variable {g : Gx} {ρ ρ' : List Addr} {H H' : Hp} {X : Cx} {W : WX} {L : List O} {cm : Nat → Addr} {fx : Hp}
def oIteC (c : Nat) (o o' : O2) : O2 := fun x y L => if isCls c L x = true then o x y L else o' x y L
theorem op_iteC {c : Nat} {o o' : O2} {op : Value → Value → Sem Value} (h : OpR X op (rM g o)) (h' : OpR X op (rM g o')) : OpR X op (rM g (oIteC c o o')) := by
  intro pins s σ H x y v u Q I rx ry q
  obtain ⟨ρ, L, d, e, hh, r1, r2, q⟩ := q
  unfold oIteC at q
  split at q
  · exact h pins s σ H x y v u Q I rx ry ⟨ρ, L, d, e, hh, r1, r2, q⟩
  · exact h' pins s σ H x y v u Q I rx ry ⟨ρ, L, d, e, hh, r1, r2, q⟩
/-- a, b, c = x, y, z with three local names: no tuple is told -/
def mPar3 (i j l : Nat) (r : MA) : MS := fun ε L => (r ε L).bindS ε fun xs L1 => match xs with
  | [x, y, z] => .nx (((ε.set i (some x)).set j (some y)).set l (some z)) L1
  | _ => .bad
theorem VRs.three {ds : D} {ds2 : D} {ds3 : D} {vs : List V} (r : VRs g ρ H [ds, ds2, ds3] vs) : ∃ v u t, vs = [v, u, t] ∧ VR g ρ H ds v ∧ VR g ρ H ds2 u ∧ VR g ρ H ds3 t := by
  cases r with
  | cons a r =>
    obtain ⟨u, t, rfl, b, c⟩ := r.two
    exact ⟨_, u, t, rfl, a, b, c⟩
theorem ss_par3 {i j l : Nat} {x y z : Str} {a b c : Expr} {r : MA} {px py pz pt pos : Pos} {kt k2 pt2} (hc : X.calm = true) (hN : X.N.Nodup) (hi : X.N[i]? = some x) (hj : X.N[j]? = some y) (hl : X.N[l]? = some z) (hij : i ≠ j) (hil : i ≠ l) (hjl : j ≠ l) (ha : PA X [a, b, c] (tMA g W r))
    (hx : X.env.scope.names.lookup x = some .local := by rfl) (hy : X.env.scope.names.lookup y = some .local := by rfl) (hz : X.env.scope.names.lookup z = some .local := by rfl)
    (hw : swappedStores [.Tuple [.Name x px, .Name y py, .Name z pz] kt pt] (.Tuple [a, b, c] k2 pt2) X.env = pure (some [x, y, z]) := by rfl)
    (hs : swapsWithSole [.Tuple [.Name x px, .Name y py, .Name z pz] kt pt] (.Tuple [a, b, c] k2 pt2) pos.line X.env = pure false := by rfl) :
    PS X (.Assign [.Tuple [.Name x px, .Name y py, .Name z pz] kt pt] (.Tuple [a, b, c] k2 pt2) pos) (tMS g W (mPar3 i j l r)) :=
  (ps_par3 hc hN hi hj hl hij hil hjl hx hy hz ha hw hs).imp fun D σ H q => by
    obtain ⟨ε, ρ, L, he, hh, q⟩ := q
    refine ⟨ε, ρ, L, he, hh, LfS.bind he q fun xs L1 vs ρ1 H1 _ p1 t1 h1 r1 q1 => ?_⟩
    split at q1
    · obtain ⟨v, u, t, rfl, a, b, c⟩ := VRs.three r1
      exact ⟨v, u, t, rfl, q1 _ ρ1 H1 (List.prefix_refl _) (TP.refl H1) h1 ((((he.mono p1 t1).set i a).set j b).set l c)⟩
    · exact q1.elim
end Tw
end

section
set_option Elab.async false
set_option linter.all false
set_option maxRecDepth 100000
set_option maxHeartbeats 4000000
/-! Tw, part Xa: an own exception class whose __init__ calls super().__init__ and sets fields. -/
namespace TwX
open PySem PySem.W PySem.Calls PyProof.Rows PySem.HandSPX PySem.Spec
variable {prog : Program} {w : World} {A : Around} {E : Value → Shared → Prop} {s : Shared} {K : Frag}
/-- what the written part says of such a class and of its __init__ -/
structure ExiC (prog : Program) (K : Frag) (C f : Addr) (params : Arguments) (body : List Stmt) (scope : Scope) : Prop where
  oex : L2.OexC K C
  ini : findIn K (.ref C) "__init__" = some (some (.ref f))
  tyf : typeIn K (.ref f) = some (.type "function")
  fn : ∃ (qual : Str) (kV doc pm ct oc : Value) (an od : Option Addr) (osl : Array (Option Value)) (cc cda : Addr), K.lookup f = some ⟨oc, od, .func (ksFn "__init__" qual params body scope .none kV doc pm an (.ref cda) ct cc), osl⟩ ∧ codeIn K (.ref cda) qual = true ∧
    (∃ (cl : Value) (cld : Option Addr) (csl : Array (Option Value)), K.lookup cc = some ⟨cl, cld, .cell (some (.ref C)), csl⟩) ∧
    ∃ (ccl : Value) (cdd : Option Addr) (vs : Array Value) (ccs : Array (Option Value)) (file : Str) (tf : Tok), K.lookup cda = some ⟨ccl, cdd, .fields vs, ccs⟩ ∧ vs[2]? = some (.str file tf) ∧ ((prog.main.file : Str) == file) = true
  sup : ks_superIn K C C "__init__" = some (some (.builtin "ValueError.__init__"))
  subV : subIn K (.ref C) (.type "ValueError") = some true
  selfC : mroIn K C (.ref C) = some true
  opq : nsIn K cStatics "thirdparty.any" = some none
/-- the built-in __init__ bound to the exception, called -/
theorem call_mw {C e t0 u : Addr} {nm q : Str} {N : Addr} {bs bm : List Value} {hdct : Bool} {sn : List Str} {sub : List Value} {ab : Bool} {col : Option Bool} {dd : Option Addr} {k0 k1 k2 k3 k5 : Option Value} {rest : List Value} {Q : Value → Shared → Prop}
    (hC : s.heap.get? C = some (excClassObj nm q C N bs bm hdct sn sub ab col dd k0 k1 k2 k3 k5 "ValueError.__new__")) (he : s.heap.get? e = some (excO C t0)) (hu : s.heap.get? u = some (kxs_mw "ValueError.__init__" e)) (hz : rest.length ≤ sizeLine)
    (h : ∀ h' t1, (∀ b o, b ≠ e → s.heap.get? b = some o → h'.get? b = some o) → h'.get? e = some (excO C t1) → Q .none { s with heap := h' }) : wpAny (model prog w) A (call (.ref u) rest) Q E s := by
  obtain ⟨hh, g, d, tk, os⟩ := s
  refine wpAny_call (codeAny_of_tree ?_)
  show wpAny _ A.in1 (callAny (.ref u) ⟨rest, []⟩) _ _ _
  simp only [callAny]
  refine wpAny_bind (wpAny_load hu ?_)
  simp only [kxs_mw, show (Value.type "method-wrapper" == Value.type "method" || Value.type "method-wrapper" == Value.type "builtin_function_or_method" || Value.type "method-wrapper" == Value.type "method-wrapper") = true by decide, if_true]
  refine KFB.if_so (by decide) ?_
  refine wpAny_bind (check_bound_init PySem.F.excBase_ValueError.toExcCallFacts hC he rfl ?_)
  refine wpAny_bind (wpAny_pure (wpAny_pure ?_))
  refine ⟨plainId_quiet PySem.F.excBase_ValueError.init.plain _, codeAny_builtin PySem.F.excBase_ValueError.initEntry ?_⟩
  exact exc_init_tree (cls := .ref C) (t0 := t0) (dv := none) (c2 := .none) (c3 := .none) (b4 := .bool false) he hz fun h' k e' t' => h h' _ k e'
abbrev supStmt (a0 : Expr) (as : List Expr) (q0 q1 q2 q3 q4 : Pos) : Stmt := .Expr (.Call (.Attribute (.Call (.Name "super" q0) [] [] q1) "__init__" q2) (a0 :: as) [] q3) q4
abbrev setStmt (f p : Str) (q5 q6 q7 q8 : Pos) : Stmt := .Assign [.Attribute (.Name "self" q5) f q6] (.Name p q7) q8
/-- how the scope of such an __init__ stands -/
structure ExiS (scope : Scope) (ps : List Str) : Prop where
  fn : scope.kind = .function
  co : scope.isCoroutine = false
  gen : scope.isGenerator = false
  cell : ∀ x ∈ scope.names, x.2 ≠ .cell
  sup : scope.names.lookup ("super" : Str) = some .globalImplicit
  cls : scope.names.lookup ("__class__" : Str) = some .free
  loc : ∀ p ∈ ps, scope.names.lookup p = some .local
theorem exi_head {C f e t0 : Addr} {params : Arguments} {scope : Scope} {a0 : Expr} {as : List Expr} {p1 f1 : Str} {q0 q1 q2 q3 q4 q5 q6 q7 q8 : Pos} {rest : List Stmt} {binds : List (Str × Value)} {args : Args} {us : List Value} {u1 : Value} {mg mb : Str → Option Value} {R : Result → Shared → Prop} {ar : Arg}
    (T : ExiC prog K C f params (supStmt a0 as q0 q1 q2 q3 q4 :: setStmt f1 p1 q5 q6 q7 q8 :: rest) scope) (S : ExiS scope (binds.map (·.1))) (X : K.In s.heap) (lim : s.heap.NoLimit) (hg : s.heap.Ns mainGlobals mg) (hms : mg ("super" : Str) = none) (hb : s.heap.Ns builtinsNs mb) (hbm : mb ("super" : Str) = some (.type "super"))
    (hroom : A.depth < recursionLimit) (he : s.heap.get? e = some (excO C t0))
    (hbind : ∀ qual kV doc pm an cdv ct cc, BindsTo s (ksFn "__init__" qual params (supStmt a0 as q0 q1 q2 q3 q4 :: setStmt f1 p1 q5 q6 q7 q8 :: rest) scope .none kV doc pm an cdv ct cc) args binds)
    (hp : (params.posonlyargs ++ params.args).head? = some ar) (har : ar.arg = ("self" : Str)) (htop : (prog.main.scope.names.lookup ("super" : Str)).isSome = false)
    (hself : binds.reverse.lookup ("self" : Str) = some (.ref e)) (hp1 : binds.reverse.lookup p1 = some u1) (hin1 : ("self" : Str) ∈ binds.map (·.1)) (hin2 : p1 ∈ binds.map (·.1)) (hd1 : (p1 == ("__debug__" : Str)) = false) (hz : us.length ≤ sizeLine)
    (hspl : ∀ (qual : Str) (L : Addr) (cd : Value) (cc : Addr) (A' : Around) (E' : Value → Shared → Prop) (Q : List Value → Shared → Prop) (s' : Shared), s'.heap.Ns L (fun y => binds.reverse.lookup y) → Q us s' → wpAny (model prog w) A' (spliced (backTo q3 (starEach (a0 :: as) (ksEnv qual scope L f cd cc)))) Q E' s')
    (hev : ∀ (qual : Str) (L : Addr) (cd : Value) (cc : Addr), ∃ pl : Sem Bool, eval (.Call (.Attribute (.Call (.Name "super" q0) [] [] q1) "__init__" q2) (a0 :: as) [] q3) (ksEnv qual scope L f cd cc) = (do
      let ov ← attributeBase (.Call (.Name "super" q0) [] [] q1) "__init__" (ksEnv qual scope L f cd cc) (eval (.Call (.Name "super" q0) [] [] q1) (ksEnv qual scope L f cd cc))
      standAt q2.atName
      let (fv, first) ← holding [ov] (getMethod ov "__init__" pl)
      callWith q3 fv first (backTo q3 (starEach (a0 :: as) (ksEnv qual scope L f cd cc))) []))
    (hi : ∀ (qual : Str) (L : Addr) (cd : Value) (cc : Addr), interactive (ksEnv qual scope L f cd cc) = false)
    (hsx : ∀ (qual : Str) (L : Addr) (cd : Value) (cc : Addr), swapsWith (.Call (.Attribute (.Call (.Name "super" q0) [] [] q1) "__init__" q2) (a0 :: as) [] q3) none q4.line (ksEnv qual scope L f cd cc) = pure false)
    (hst : ∀ (qual : Str) (L : Addr) (cd : Value) (cc : Addr), starEach (a0 :: as) (ksEnv qual scope L f cd cc) = (false, eval a0 (ksEnv qual scope L f cd cc)) :: starEach as (ksEnv qual scope L f cd cc))
    (hpl : ∀ env, (backTo q3 (starEach (a0 :: as) env)).any (·.1) = false) (heK : K.lookup e = none) (hno : findIn K (.ref C) f1 = some none)
    (hsw : ∀ (qual : Str) (L : Addr) (cd : Value) (cc : Addr), swapsWith (.Name p1 q7) (some (.Attribute (.Name "self" q5) f1 q6)) q8.line (ksEnv qual scope L f cd cc) = pure false)
    (hq : ∀ (qual : Str) (L dx t1 : Addr) (cd : Value) (cc : Addr) (h' : Heap) (tk : Nat) (E' : Value → Shared → Prop), (∀ b o, b ≠ e → s.heap.get? b = some o → h'.get? b = some o) → s.heap.objs.size ≤ L → s.heap.objs.size ≤ dx → dx ≠ e → h'.Ns L (fun y => binds.reverse.lookup y) →
      h'.get? e = some { cls := .ref C, dict := some dx, data := .fields #[.ref t1, .none, .none, .none, .bool false, .none] } → h'.Ns1 dx (fun y => if y = f1 then some u1 else none) →
      wpAny (model prog w) (A.deeper (ksEnv qual scope L f cd cc)) (execs rest (ksEnv qual scope L f cd cc)) (fun fl s' => R (.ok (.ret (match fl with | .ret v => v | _ => .none))) s') E' { s with heap := h', toks := tk }) :
    codeAny (model prog w) A (.call (.ref f) args) R s := by
  obtain ⟨qual, kV, doc, pm, ct, oc, an, od, osl, cc, cda, lk, hcd, ⟨cl, cld, csl, hcell⟩, ccl, cdd, vs, ccs, file, tf, hcode, hvs, hfile⟩ := T.fn
  obtain ⟨nm, q, N, bs, bm, sn, sub, ab, col, dd, k0, k1, k2, k3, k5, hC, hbmE⟩ := T.oex.cls
  have hcl : clsIn K C = some { name := nm, bases := bs, mro := .ref C :: bm, ns := N, qualname := q, hasDict := true, slotNames := sn, subclasses := sub, abstract := ab, collection := col, hasDel := false } := by unfold clsIn; rw [hC] <;> rfl
  have lself : scope.names.lookup ("self" : Str) = some .local := S.loc _ hin1
  refine ks_codeAny_call_defAt (fd := ksFn "__init__" qual params (supStmt a0 as q0 q1 q2 q3 q4 :: setStmt f1 p1 q5 q6 q7 q8 :: rest) scope .none kV doc pm an (.ref cda) ct cc) (body := supStmt a0 as q0 q1 q2 q3 q4 :: setStmt f1 p1 q5 q6 q7 q8 :: rest) (binds := binds)
    hroom (X _ _ lk) rfl lim (codeRec_of X hcd) rfl (hbind _ _ _ _ _ _ _ _) S.cell (fun x hx => S.loc _ (List.mem_map.mpr ⟨x, hx, rfl⟩)) (fun h₁ hns hk₁ => ?_) S.co S.gen S.fn
  have eL : e ≠ s.heap.objs.size := Nat.ne_of_lt (Heap.lt_size he)
  generalize hE : (fun (e : Value) (s' : Shared) => wpAny (model prog w) (A.deeper (callEnv (ksFn "__init__" qual params (supStmt a0 as q0 q1 q2 q3 q4 :: setStmt f1 p1 q5 q6 q7 q8 :: rest) scope .none kV doc pm an (.ref cda) ct cc) s.heap.objs.size f)) (leaving (callEnv (ksFn "__init__" qual params (supStmt a0 as q0 q1 q2 q3 q4 :: setStmt f1 p1 q5 q6 q7 q8 :: rest) scope .none kV doc pm an (.ref cda) ct cc) s.heap.objs.size f) e) (fun _ s'' => R (.error e) s'') (fun e' s'' => R (.error e') s'') s') = E1
  have X1 : K.In h₁ := X.keeps hk₁
  show _root_.PySem.wpAt (model prog w) (A.deeper (ksEnv qual scope s.heap.objs.size f (.ref cda) cc)) (.func _ (ksEnv qual scope s.heap.objs.size f (.ref cda) cc)) (execs _ (ksEnv qual scope s.heap.objs.size f (.ref cda) cc)) _ _ _
  obtain ⟨pl, hev⟩ := hev qual s.heap.objs.size (.ref cda) cc
  refine ks_wpAt_execs_cons (ks_wpAt_Expr_any (ks_wpAt_MethodCall (pl := pl) (ks_wpAt_super_base S.sup S.cls (by decide) rfl (X1 _ _ lk) rfl hp rfl (X1 _ _ hcode) rfl hvs hfile htop ?_) hev) (hi _ _ _ _) (hsx _ _ _ _))
  refine ks_loadName_global S.fn S.sup (loadGlobal_builtin (hg.keeps hk₁) hms (hb.keeps hk₁) hbm ⟨rfl, ?_⟩)
  refine wpAny_loadName_free S.fn S.cls rfl ⟨_, X1 _ _ hcell, rfl⟩ ?_
  rw [har]
  refine wpAny_loadName_local S.fn lself hns hself ?_
  have hC1 : h₁.get? C = some (excClassObj nm q C N bs bm true sn sub ab col dd k0 k1 k2 k3 k5 "ValueError.__new__") := X1 _ _ hC
  refine ks_wpAny_isType_cls hC1 rfl ⟨rfl, ?_⟩
  have he1 := hk₁ _ _ he
  refine ks_wpAny_call_super hC1 rfl he1 rfl (fun c z => by cases z) (looks_mroIn X1 T.selfC) (fun h2 e2 k2' => ?_)
  have X2 : K.In h2 := X1.keeps k2'
  have I2 : InstAt h2 e (excO C t0) C none := ⟨k2' _ _ he1, rfl, rfl, trivial⟩
  have hal : alongIn K "__init__" (((Value.ref C :: bm).dropWhile (· != .ref C)).drop 1) = some (some (.builtin "ValueError.__init__")) := by
    have := T.sup
    unfold ks_superIn at this
    rw [hcl] at this
    exact this
  refine kxs_getMethod kxs_ValueError e2 (looks_opaque X2 T.opq) (l₀ := .ref C :: bm) (fun A Q E s k q => wpAny_bind ((looks_clsIn X2 hcl) A _ E s k (wpAny_pure q))) rfl X2 hal (I2.type.andThen (looks_subIn X2 T.subV)) (ks_ne X2 I2 hcl) (by decide) ?_
  have k01 : ∀ b o, s.heap.get? b = some o → h2.get? b = some o := fun b o z => k2' _ _ (hk₁ _ _ z)
  have hns2 : (h2.push (kxs_mw "ValueError.__init__" e)).Ns s.heap.objs.size (fun y => binds.reverse.lookup y) := hns.keeps fun b o z => Heap.get?_push_of_some _ (k2' _ _ z)
  refine kxs_callWith (i := "ValueError.__init__") (x := e) (hpl _) ?_
  have hs1 := hspl qual s.heap.objs.size (.ref cda) cc
  rw [hst] at hs1 ⊢
  refine evalArgs_plain (hs1 _ _ _ _ hns2 ⟨Heap.get?_push_at rfl rfl, ?_⟩)
  refine call_mw (C := C) (e := e) (t0 := t0) (Heap.get?_push_of_some _ (k01 _ _ (X _ _ hC))) (Heap.get?_push_of_some _ (k01 _ _ he)) (Heap.get?_push_at rfl rfl) hz fun h3 t1 k3' e3 => ?_
  have k03 : ∀ b o, b ≠ e → s.heap.get? b = some o → h3.get? b = some o := fun b o hb z => k3' _ _ hb (Heap.get?_push_of_some _ (k01 _ _ z))
  have nK : ∀ b o, K.lookup b = some o → b ≠ e := fun b o z y => by rw [y, heK] at z; cases z
  have X3 : K.In h3 := fun b o z => k03 b o (nK b o z) (X _ _ z)
  have hns3 : h3.Ns s.heap.objs.size (fun y => binds.reverse.lookup y) := by
    obtain ⟨oL, es, ep, hL, r⟩ := hns2
    exact ⟨oL, es, ep, k3' _ _ (fun z => eL z.symm) hL, r⟩
  refine wpAt_of_wpAny (wpAny_execs_cons (plainObj_wpAny_Assign_Attribute ?_ (hsw _ _ _ _)))
  refine wpAny_Name (wpAny_loadName_local S.fn (S.loc _ hin2) hns3 hp1 ?_) hd1
  refine wpAny_Name (wpAny_loadName_local S.fn lself hns3 hself ?_) (by decide)
  refine set_plain X3 (ox := { cls := .ref C, dict := none, data := .fields #[.ref t1, .none, .none, .none, .bool false, .none] }) (od := none) ⟨e3, rfl, rfl, trivial⟩ T.oex.sa ?_
  refine exc_osa X3 e3 hcl (show refsVE (.ref C :: bm) = true from hbmE) rfl hno (fun h4 tk4 dx k4 d1 d2 e4 n4 => ?_)
  have szL : s.heap.objs.size < h3.objs.size := by
    obtain ⟨oL, es, ep, hL, r⟩ := hns3
    exact Heap.lt_size hL
  refine hq qual s.heap.objs.size dx t1 (.ref cda) cc h4 tk4 E1 (fun b o hb z => k4 b o hb (k03 b o hb z)) (Nat.le_refl _) (Nat.le_trans (Nat.le_of_lt szL) d1) d2 ?_ e4 n4
  obtain ⟨oL, es, ep, hL, r⟩ := hns3
  exact ⟨oL, es, ep, k4 _ _ (fun z => eL z.symm) hL, r⟩
end TwX
end

section
set_option Elab.async false
set_option linter.all false
set_option maxRecDepth 100000
set_option maxHeartbeats 4000000
/-! Tw, part Xb: such an __init__ with one field, with two; the class called. -/
namespace TwX
open PySem PySem.W PySem.Calls PyProof.Rows PySem.HandSPX PySem.Spec
variable {prog : Program} {w : World} {A : Around} {E : Value → Shared → Prop} {s : Shared} {K : Frag}
abbrev arg0 (p : Str) (q : Pos) : Expr := .Name p q
/-- positions of such a def's texts -/
structure Qs where
  q0 : Pos
  q1 : Pos
  q2 : Pos
  q3 : Pos
  q4 : Pos
  q5 : Pos
  q6 : Pos
  q7 : Pos
  q8 : Pos
/-- what of the def's texts is looked at by rfl -/
structure ExiP (scope : Scope) (f : Addr) (a0 : Expr) (as : List Expr) (f1 p1 : Str) (q : Qs) : Prop where
  ev : ∀ (qual : Str) (L : Addr) (cd : Value) (cc : Addr), ∃ pl : Sem Bool, eval (.Call (.Attribute (.Call (.Name "super" q.q0) [] [] q.q1) "__init__" q.q2) (a0 :: as) [] q.q3) (ksEnv qual scope L f cd cc) = (do
      let ov ← attributeBase (.Call (.Name "super" q.q0) [] [] q.q1) "__init__" (ksEnv qual scope L f cd cc) (eval (.Call (.Name "super" q.q0) [] [] q.q1) (ksEnv qual scope L f cd cc))
      standAt q.q2.atName
      let (fv, first) ← holding [ov] (getMethod ov "__init__" pl)
      callWith q.q3 fv first (backTo q.q3 (starEach (a0 :: as) (ksEnv qual scope L f cd cc))) [])
  i : ∀ (qual : Str) (L : Addr) (cd : Value) (cc : Addr), interactive (ksEnv qual scope L f cd cc) = false
  sx : ∀ (qual : Str) (L : Addr) (cd : Value) (cc : Addr), swapsWith (.Call (.Attribute (.Call (.Name "super" q.q0) [] [] q.q1) "__init__" q.q2) (a0 :: as) [] q.q3) none q.q4.line (ksEnv qual scope L f cd cc) = pure false
  st : ∀ (qual : Str) (L : Addr) (cd : Value) (cc : Addr), starEach (a0 :: as) (ksEnv qual scope L f cd cc) = (false, eval a0 (ksEnv qual scope L f cd cc)) :: starEach as (ksEnv qual scope L f cd cc)
  pl : ∀ env, (backTo q.q3 (starEach (a0 :: as) env)).any (·.1) = false
  sw : ∀ (qual : Str) (L : Addr) (cd : Value) (cc : Addr), swapsWith (.Name p1 q.q7) (some (.Attribute (.Name "self" q.q5) f1 q.q6)) q.q8.line (ksEnv qual scope L f cd cc) = pure false
abbrev body1 (f1 p1 : Str) (q : Qs) (qa : Pos) : List Stmt := [supStmt (.Name p1 qa) [] q.q0 q.q1 q.q2 q.q3 q.q4, setStmt f1 p1 q.q5 q.q6 q.q7 q.q8]
theorem look1 {p1 : Str} {e u1 : Value} (hne : (p1 == ("self" : Str)) = false) : ([(("self" : Str), e), (p1, u1)] : List (Str × Value)).reverse.lookup ("self" : Str) = some e ∧ ([(("self" : Str), e), (p1, u1)] : List (Str × Value)).reverse.lookup p1 = some u1 := by
  have h2 : ((("self" : Str)) == p1) = false := by
    rw [beq_eq_false_iff_ne] at hne ⊢
    exact fun z => hne z.symm
  show (([(p1, u1), (("self" : Str), e)] : List (Str × Value)).lookup ("self" : Str) = some e) ∧ (([(p1, u1), (("self" : Str), e)] : List (Str × Value)).lookup p1 = some u1)
  constructor
  · simp only [List.lookup, h2]
    simp
  · simp only [List.lookup, beq_self_eq_true]
theorem exi1 {C f e t0 : Addr} {params : Arguments} {scope : Scope} {p1 f1 : Str} {q : Qs} {qa : Pos} {args : Args} {u1 : Value} {mg mb : Str → Option Value} {R : Result → Shared → Prop} {ar : Arg}
    (T : ExiC prog K C f params (body1 f1 p1 q qa) scope) (S : ExiS scope ["self", p1]) (P : ExiP scope f (.Name p1 qa) [] f1 p1 q) (X : K.In s.heap) (lim : s.heap.NoLimit) (hg : s.heap.Ns mainGlobals mg) (hms : mg ("super" : Str) = none) (hb : s.heap.Ns builtinsNs mb) (hbm : mb ("super" : Str) = some (.type "super"))
    (hroom : A.depth < recursionLimit) (he : s.heap.get? e = some (excO C t0))
    (hbind : ∀ qual kV doc pm an cdv ct cc, BindsTo s (ksFn "__init__" qual params (body1 f1 p1 q qa) scope .none kV doc pm an cdv ct cc) args [("self", .ref e), (p1, u1)])
    (hp : (params.posonlyargs ++ params.args).head? = some ar) (har : ar.arg = ("self" : Str)) (htop : (prog.main.scope.names.lookup ("super" : Str)).isSome = false) (hne : (p1 == ("self" : Str)) = false) (hd1 : (p1 == ("__debug__" : Str)) = false)
    (heK : K.lookup e = none) (hno : findIn K (.ref C) f1 = some none)
    (hq : ∀ (h' : Heap) (dx t1 : Addr) (tk : Nat), (∀ b o, b ≠ e → s.heap.get? b = some o → h'.get? b = some o) → s.heap.objs.size ≤ dx → dx ≠ e →
      h'.get? e = some { cls := .ref C, dict := some dx, data := .fields #[.ref t1, .none, .none, .none, .bool false, .none] } → h'.Ns1 dx (fun y => if y = f1 then some u1 else none) → R (.ok (.ret .none)) { s with heap := h', toks := tk }) :
    codeAny (model prog w) A (.call (.ref f) args) R s := by
  obtain ⟨l1, l2⟩ := look1 (e := .ref e) (u1 := u1) hne
  have loc1 : scope.names.lookup p1 = some .local := S.loc p1 (by simp)
  refine exi_head (us := [u1]) (u1 := u1) (binds := [("self", .ref e), (p1, u1)]) T ⟨S.fn, S.co, S.gen, S.cell, S.sup, S.cls, S.loc⟩ X lim hg hms hb hbm hroom he hbind hp har htop l1 l2 (by simp) (by simp) hd1 (by show 1 ≤ sizeLine; decide)
    (fun qual L cd cc A' E' Q s' hn hQ => ?_) P.ev P.i P.sx P.st P.pl heK hno P.sw fun qual L dx t1 cd cc h' tk E' k hL hdx hde hns e' hn1 => ?_
  · rw [P.st]
    refine spliced_cons ?_
    refine wpAny_Name (wpAny_loadName_local S.fn loc1 hn l2 ?_) hd1
    exact spliced_nil hQ
  · exact wpAny_execs_nil (hq h' dx t1 tk k hdx hde e' hn1)
abbrev body2 (f1 p1 f2 p2 : Str) (q : Qs) (qa qb r5 r6 r7 r8 : Pos) : List Stmt := [supStmt (.Name p1 qa) [.Name p2 qb] q.q0 q.q1 q.q2 q.q3 q.q4, setStmt f1 p1 q.q5 q.q6 q.q7 q.q8, setStmt f2 p2 r5 r6 r7 r8]
theorem look2 {p1 p2 : Str} {e u1 u2 : Value} (hne : (p1 == ("self" : Str)) = false) (hne2 : (p2 == ("self" : Str)) = false) (hnn : (p1 == p2) = false) : ([(("self" : Str), e), (p1, u1), (p2, u2)] : List (Str × Value)).reverse.lookup ("self" : Str) = some e ∧ ([(("self" : Str), e), (p1, u1), (p2, u2)] : List (Str × Value)).reverse.lookup p1 = some u1 ∧ ([(("self" : Str), e), (p1, u1), (p2, u2)] : List (Str × Value)).reverse.lookup p2 = some u2 := by
  have h2 : ((("self" : Str)) == p1) = false := by
    rw [beq_eq_false_iff_ne] at hne ⊢
    exact fun z => hne z.symm
  have h3 : ((("self" : Str)) == p2) = false := by
    rw [beq_eq_false_iff_ne] at hne2 ⊢
    exact fun z => hne2 z.symm
  show (([(p2, u2), (p1, u1), (("self" : Str), e)] : List (Str × Value)).lookup ("self" : Str) = some e) ∧ (([(p2, u2), (p1, u1), (("self" : Str), e)] : List (Str × Value)).lookup p1 = some u1) ∧ (([(p2, u2), (p1, u1), (("self" : Str), e)] : List (Str × Value)).lookup p2 = some u2)
  refine ⟨?_, ?_, ?_⟩
  · simp only [List.lookup, h2, h3]
    simp
  · simp only [List.lookup, hnn, beq_self_eq_true]
  · simp only [List.lookup, beq_self_eq_true]
theorem exi2 {C f e t0 : Addr} {params : Arguments} {scope : Scope} {p1 f1 p2 f2 : Str} {q : Qs} {qa qb r5 r6 r7 r8 : Pos} {args : Args} {u1 u2 : Value} {mg mb : Str → Option Value} {R : Result → Shared → Prop} {ar : Arg}
    (T : ExiC prog K C f params (body2 f1 p1 f2 p2 q qa qb r5 r6 r7 r8) scope) (S : ExiS scope ["self", p1, p2]) (P : ExiP scope f (.Name p1 qa) [.Name p2 qb] f1 p1 q) (X : K.In s.heap) (lim : s.heap.NoLimit) (hg : s.heap.Ns mainGlobals mg) (hms : mg ("super" : Str) = none) (hb : s.heap.Ns builtinsNs mb) (hbm : mb ("super" : Str) = some (.type "super"))
    (hroom : A.depth < recursionLimit) (he : s.heap.get? e = some (excO C t0))
    (hbind : ∀ qual kV doc pm an cdv ct cc, BindsTo s (ksFn "__init__" qual params (body2 f1 p1 f2 p2 q qa qb r5 r6 r7 r8) scope .none kV doc pm an cdv ct cc) args [("self", .ref e), (p1, u1), (p2, u2)])
    (hp : (params.posonlyargs ++ params.args).head? = some ar) (har : ar.arg = ("self" : Str)) (htop : (prog.main.scope.names.lookup ("super" : Str)).isSome = false) (hne : (p1 == ("self" : Str)) = false) (hne2 : (p2 == ("self" : Str)) = false) (hnn : (p1 == p2) = false) (hd1 : (p1 == ("__debug__" : Str)) = false) (hd2 : (p2 == ("__debug__" : Str)) = false)
    (heK : K.lookup e = none) (hno : findIn K (.ref C) f1 = some none) (hno2 : findIn K (.ref C) f2 = some none)
    (hst2 : ∀ (qual : Str) (L : Addr) (cd : Value) (cc : Addr), starEach [.Name p2 qb] (ksEnv qual scope L f cd cc) = [(false, eval (.Name p2 qb) (ksEnv qual scope L f cd cc))])
    (hsw2 : ∀ (qual : Str) (L : Addr) (cd : Value) (cc : Addr), swapsWith (.Name p2 r7) (some (.Attribute (.Name "self" r5) f2 r6)) r8.line (ksEnv qual scope L f cd cc) = pure false)
    (hq : ∀ (h' : Heap) (dx t1 : Addr) (tk : Nat), (∀ b o, b ≠ e → s.heap.get? b = some o → h'.get? b = some o) → s.heap.objs.size ≤ dx → dx ≠ e →
      h'.get? e = some { cls := .ref C, dict := some dx, data := .fields #[.ref t1, .none, .none, .none, .bool false, .none] } → h'.Ns1 dx (fun y => if y = f2 then some u2 else if y = f1 then some u1 else none) → R (.ok (.ret .none)) { s with heap := h', toks := tk }) :
    codeAny (model prog w) A (.call (.ref f) args) R s := by
  obtain ⟨l1, l2, l3⟩ := look2 (e := .ref e) (u1 := u1) (u2 := u2) hne hne2 hnn
  have loc1 : scope.names.lookup p1 = some .local := S.loc p1 (by simp)
  have loc2 : scope.names.lookup p2 = some .local := S.loc p2 (by simp)
  have locS : scope.names.lookup ("self" : Str) = some .local := S.loc _ (by simp)
  obtain ⟨nm, q', N, bs, bm, sn, sub, ab, col, dd, k0, k1, k2, k3, k5, hC, hbmE⟩ := T.oex.cls
  have hcl : clsIn K C = some { name := nm, bases := bs, mro := .ref C :: bm, ns := N, qualname := q', hasDict := true, slotNames := sn, subclasses := sub, abstract := ab, collection := col, hasDel := false } := by unfold clsIn; rw [hC] <;> rfl
  refine exi_head (us := [u1, u2]) (u1 := u1) (binds := [("self", .ref e), (p1, u1), (p2, u2)]) T ⟨S.fn, S.co, S.gen, S.cell, S.sup, S.cls, S.loc⟩ X lim hg hms hb hbm hroom he hbind hp har htop l1 l2 (by simp) (by simp) hd1 (by show 2 ≤ sizeLine; decide)
    (fun qual L cd cc A' E' Q s' hn hQ => ?_) P.ev P.i P.sx P.st P.pl heK hno P.sw fun qual L dx t1 cd cc h' tk E' k hL hdx hde hns e' hn1 => ?_
  · rw [P.st, hst2]
    refine spliced_cons ?_
    refine wpAny_Name (wpAny_loadName_local S.fn loc1 hn l2 ?_) hd1
    refine spliced_cons ?_
    refine wpAny_Name (wpAny_loadName_local S.fn loc2 hn l3 ?_) hd2
    exact spliced_nil hQ
  · have nK : ∀ b o, K.lookup b = some o → b ≠ e := fun b o z y => by rw [y, heK] at z; cases z
    have X3 : K.In h' := fun b o z => k b o (nK b o z) (X _ _ z)
    have hw : Within (fun y => if y = f1 then some u1 else none) [f1] := fun y hy => by
      by_cases hyf : y = f1
      · rw [hyf]; exact List.mem_cons_self
      · exact absurd (if_neg hyf) hy
    obtain ⟨oD, _, _, hoD, _, _⟩ := hn1.count hw
    refine wpAny_execs_cons (plainObj_wpAny_Assign_Attribute ?_ (hsw2 _ _ _ _))
    refine wpAny_Name (wpAny_loadName_local S.fn loc2 hns l3 ?_) hd2
    refine wpAny_Name (wpAny_loadName_local S.fn locS hns l1 ?_) (by decide)
    refine set_plain X3 (ox := { cls := .ref C, dict := some dx, data := .fields #[.ref t1, .none, .none, .none, .bool false, .none] }) (od := some oD) ⟨e', rfl, rfl, hoD⟩ T.oex.sa ?_
    refine PySem.OEX.osa_old X3 e' hn1 hw (by show 1 ≤ 1000; decide) hcl (show refsVE (.ref C :: bm) = true from hbmE) rfl hno2 (fun h4 tk4 k4 n4 => ?_)
    exact wpAny_execs_nil (hq h4 dx t1 tk4 (fun b o hb z => k4 b o (fun y => absurd (Heap.lt_size z) (by rw [y]; exact Nat.not_lt.mpr hdx)) (k b o hb z)) hdx hde (k4 _ _ (fun z => hde z.symm) e') n4)
end TwX
end

section
set_option Elab.async false
set_option linter.all false
set_option maxRecDepth 100000
set_option maxHeartbeats 4000000
/-! Tw, part Xc: raise of an own exception: without fields, with one, with two. -/
namespace Tw
open PySem PySem.Spec PyProof.Rows L2
variable {g : Gx} {ρ ρ' : List Addr} {H H' : Hp} {X : Cx} {W : WX} {L : List O} {cm : Nat → Addr} {fx : Hp}
/-- all that is told of a class with one field -/
structure Exc1 (prog : Program) (K : PySem.W.Frag) (C : Addr) (f1 : Str) : Prop where
  ex : ∃ (f : Addr) (params : Arguments) (scope : Scope) (p1 : Str) (q : TwX.Qs) (qa : Pos) (ar : Arg), TwX.ExiC prog K C f params (TwX.body1 f1 p1 q qa) scope ∧ TwX.ExiS scope ["self", p1] ∧ TwX.ExiP scope f (.Name p1 qa) [] f1 p1 q ∧
    (∀ (s : Shared) (e : Addr) (u : Value) qual kV doc pm an cdv ct cc, BindsTo s (PySem.W.ksFn "__init__" qual params (TwX.body1 f1 p1 q qa) scope .none kV doc pm an cdv ct cc) ⟨[.ref e, u], []⟩ [("self", .ref e), (p1, u)]) ∧
    (params.posonlyargs ++ params.args).head? = some ar ∧ ar.arg = ("self" : Str) ∧ (p1 == ("self" : Str)) = false ∧ (p1 == ("__debug__" : Str)) = false
  top : (prog.main.scope.names.lookup ("super" : Str)).isSome = false
  no : PySem.W.findIn K (.ref C) f1 = some none
structure Exc2 (prog : Program) (K : PySem.W.Frag) (C : Addr) (f1 f2 : Str) : Prop where
  ex : ∃ (f : Addr) (params : Arguments) (scope : Scope) (p1 p2 : Str) (q : TwX.Qs) (qa qb r5 r6 r7 r8 : Pos) (ar : Arg), TwX.ExiC prog K C f params (TwX.body2 f1 p1 f2 p2 q qa qb r5 r6 r7 r8) scope ∧ TwX.ExiS scope ["self", p1, p2] ∧ TwX.ExiP scope f (.Name p1 qa) [.Name p2 qb] f1 p1 q ∧
    (∀ (s : Shared) (e : Addr) (u v : Value) qual kV doc pm an cdv ct cc, BindsTo s (PySem.W.ksFn "__init__" qual params (TwX.body2 f1 p1 f2 p2 q qa qb r5 r6 r7 r8) scope .none kV doc pm an cdv ct cc) ⟨[.ref e, u, v], []⟩ [("self", .ref e), (p1, u), (p2, v)]) ∧
    (params.posonlyargs ++ params.args).head? = some ar ∧ ar.arg = ("self" : Str) ∧ (p1 == ("self" : Str)) = false ∧ (p2 == ("self" : Str)) = false ∧ (p1 == p2) = false ∧ (p1 == ("__debug__" : Str)) = false ∧ (p2 == ("__debug__" : Str)) = false ∧
    (∀ (qual : Str) (L : Addr) (cd : Value) (cc : Addr), starEach [.Name p2 qb] (PySem.W.ksEnv qual scope L f cd cc) = [(false, eval (.Name p2 qb) (PySem.W.ksEnv qual scope L f cd cc))]) ∧
    (∀ (qual : Str) (L : Addr) (cd : Value) (cc : Addr), swapsWith (.Name p2 r7) (some (.Attribute (.Name "self" r5) f2 r6)) r8.line (PySem.W.ksEnv qual scope L f cd cc) = pure false)
  top : (prog.main.scope.names.lookup ("super" : Str)).isSome = false
  no : PySem.W.findIn K (.ref C) f1 = some none
  no2 : PySem.W.findIn K (.ref C) f2 = some none
section
variable {pins : List (Addr × Obj)} {σ : L2.St} {s : Shared}
/-- what is laid by the making: the exception, its dict -/
theorem made_end {C a dx t1 : Addr} {fs : List (Str × V)} {mA : Str → Option Value} {Q : XK} {h' : Heap} {tk : Nat} (T : OexC X.K C) (I : Inv X pins σ H s) (ha : s.heap.get? a = none) (k : ∀ b o, b ≠ a → s.heap.get? b = some o → h'.get? b = some o) (hd : s.heap.get? dx = none) (hda : dx ≠ a)
    (e : h'.get? a = some { cls := .ref C, dict := some dx, data := .fields #[.ref t1, .none, .none, .none, .bool false, .none] }) (n : h'.Ns1 dx mA) (r : ∀ f, RelO (fs.lookup f) (mA f)) (q : H dx = none → Q (.ref C) (some dx) (upd H dx (.xd fs))) : L2N.MkP X pins σ Q (.ref a) { s with heap := h', toks := tk } := by
  have hn : H a = none := I.hok.gone ha
  have hnd : H dx = none := I.hok.gone hd
  obtain ⟨G, g1, g2⟩ := restrict h' fun b => decide (b ≠ a)
  have gk : ∀ b, b ≠ a → G.get? b = h'.get? b := fun b hb => g1 b (decide_eq_true hb)
  have ge : G.get? a = none := g2 a (by simp)
  have na : ∀ b o, s.heap.get? b = some o → b ≠ a := fun b o z y => by rw [y, ha] at z; cases z
  have J : Inv X pins σ (upd H dx (.xd fs)) { s with heap := G, toks := tk } := I.laidN (fun b o z => (gk b (na b o z)).trans (k b o (na b o z) z)) hd hnd ⟨mA, n.at fun o z => (gk dx hda).trans z, r⟩
  refine ⟨a, _, _, { s with heap := G, toks := tk }, upd H dx (.xd fs), .ref C, some dx, rfl, J, fun b o z => ?_, ge, e, ⟨rfl, rfl, fun vs e => by cases e; rfl⟩, rfl, rfl, ?_, rfl, I.bare, raises_own T.exC T.tyC, q hnd⟩
  · by_cases hb : b = a
    · rw [hb, ge] at z; cases z
    · exact (gk b hb).symm.trans z
  · rw [upd_ne (fun z => hda z.symm)]; exact hn
end
/-- C(e) -/
theorem pmk_exc1 {x : Str} {C : Addr} {f1 : Str} {e : Expr} {ta : TA} {p pos : Pos} (T : Exc1 X.prog X.K C f1) (hr : Room 2 X.A) (hms : X.mg ("super" : Str) = none) (hg : Gl X x) (hm : X.mg x = some (.ref C)) (ha : PA X [e] ta)
    (hdb : (x == ("__debug__" : Str)) = false := by decide) (he : starEach [e] X.env = (false, eval e X.env) :: starEach [] X.env := by rfl) (hpl : (backTo pos (starEach [] X.env)).any (·.1) = false := by rfl) :
    L2N.PMk X (.Call (.Name x p) [e] [] pos) (fun σ H Q => ta σ H fun vs H1 => ∃ v, vs = [v] ∧ ∀ d, H1 d = none → Q (.ref C) (some d) (upd H1 d (.xd [(f1, v)]))) := by
  intro pins s σ H Q I h
  obtain ⟨f, params, scope, p1, q, qa, ar, TC, TS, TP, hb, hp, har, hne, hd1⟩ := T.ex
  obtain ⟨nm, qq, N, bs, bm, sn, sub, ab, col, dd, k0, k1, k2, k3, k5, hC, hbm⟩ := TC.oex.cls
  refine wpAny_Call_Name_kw (ld_glob I hg hm ?_ hdb)
  refine PySem.W.callWith_K (h₀ := X.base) I.ok.mod.kin TC.oex.kC (thn (ha.run pos pins s σ H _ I h) fun us s1 ⟨vs, H1, I1, r1, v, ev, q1⟩ => ⟨I1.kIn, ?_⟩) he hpl
  subst ev
  obtain ⟨u, rfl, ru⟩ := r1.one
  show wpAny _ _ (call (.ref C) [u]) _ _ _
  obtain ⟨mb, hmb, hmb2⟩ := I1.mod.blt
  have hmg := I1.mod.glob.keeps I1.bk
  have hbl := hmb.keeps I1.bk
  have lim := I1.nolimit
  have kin := I1.kIn
  obtain ⟨hp', g, dr, tk, os⟩ := s1
  have kk : ∀ b o, hp'.get? b = some o → ((hp'.push (PySem.W.kdv_tup [u])).push (PySem.HandSPX.excO C hp'.objs.size)).get? b = some o := fun b o z => Heap.get?_push_of_some _ (Heap.get?_push_of_some _ z)
  have hget : ((hp'.push (PySem.W.kdv_tup [u])).push (PySem.HandSPX.excO C hp'.objs.size)).get? (hp'.objs.size + 1) = some (PySem.HandSPX.excO C hp'.objs.size) := by heap_get
  have sz : ((hp'.push (PySem.W.kdv_tup [u])).push (PySem.HandSPX.excO C hp'.objs.size)).objs.size = hp'.objs.size + 2 := by rw [Heap.size_push, Heap.size_push]
  have none_ : hp'.get? (hp'.objs.size + 1) = none := by
    cases z : hp'.get? (hp'.objs.size + 1) with
    | none => rfl
    | some o => exact absurd (Heap.lt_size z) (Nat.not_lt.mpr (Nat.le_succ _))
  have heK : X.K.lookup (hp'.objs.size + 1) = none := by
    cases z : X.K.lookup (hp'.objs.size + 1) with
    | none => rfl
    | some o => rw [kin _ _ z] at none_; cases none_
  refine wpAny_call (PySem.HandSPX.call_own PySem.F.excBase_ValueError (fun Y => PySem.HandSPX.refsVE_contains Y bm hbm) (kin _ _ hC) (PySem.W.looks_findIn kin TC.ini) (fun self => PySem.W.bind_fn kin self TC.tyf) (by show 1 ≤ sizeLine; decide) ?_)
  refine TwX.exi1 TC TS TP (kin.keeps kk) (lim.keeps kk) (hmg.keeps kk) hms (hbl.keeps kk) ((hmb2 _ (by decide)).trans PyProof.Rows.Boot.«super») (hr.make C [u] []).depth hget (fun qual kV doc pm an cdv ct cc => hb _ _ _ qual kV doc pm an cdv ct cc) hp har T.top hne hd1 heK T.no fun h' dx t1 tk' k hdx hde e' n => ?_
  have dxn : hp'.get? dx = none := by
    cases z : hp'.get? dx with
    | none => rfl
    | some o =>
      have hdx' : hp'.objs.size + 2 ≤ dx := by rw [← sz]; exact hdx
      exact absurd (Heap.lt_size z) (Nat.not_lt.mpr (Nat.le_trans (Nat.le_add_right _ _) hdx'))
  refine ⟨rfl, ?_⟩
  exact made_end (s := ⟨hp', g, dr, tk, os⟩) (a := hp'.objs.size + 1) (fs := [(f1, v)]) TC.oex I1 none_ (fun b o hb' z => k b o hb' (kk b o z)) dxn hde e' n (fun y => by
    by_cases hy : y = f1
    · subst hy
      simp only [List.lookup, beq_self_eq_true, if_true]
      exact ru
    · have : (y == f1) = false := beq_eq_false_iff_ne.mpr hy
      simp only [List.lookup, this, if_neg hy]
      exact True.intro) (fun hnd => q1 dx hnd)
/-- C(e, e2) -/
theorem pmk_exc2 {x : Str} {C : Addr} {f1 f2 : Str} {e e2 : Expr} {ta : TA} {p pos : Pos} (T : Exc2 X.prog X.K C f1 f2) (hff : f1 ≠ f2) (hr : Room 2 X.A) (hms : X.mg ("super" : Str) = none) (hg : Gl X x) (hm : X.mg x = some (.ref C)) (ha : PA X [e, e2] ta)
    (hdb : (x == ("__debug__" : Str)) = false := by decide) (he : starEach [e, e2] X.env = (false, eval e X.env) :: starEach [e2] X.env := by rfl) (hpl : (backTo pos (starEach [e2] X.env)).any (·.1) = false := by rfl) :
    L2N.PMk X (.Call (.Name x p) [e, e2] [] pos) (fun σ H Q => ta σ H fun vs H1 => ∃ v v2, vs = [v, v2] ∧ ∀ d, H1 d = none → Q (.ref C) (some d) (upd H1 d (.xd [(f1, v), (f2, v2)]))) := by
  intro pins s σ H Q I h
  obtain ⟨f, params, scope, p1, p2, q, qa, qb, r5, r6, r7, r8, ar, TC, TS, TP, hb, hp, har, hne, hne2, hnn, hd1, hd2, hst2, hsw2⟩ := T.ex
  obtain ⟨nm, qq, N, bs, bm, sn, sub, ab, col, dd, k0, k1, k2, k3, k5, hC, hbm⟩ := TC.oex.cls
  refine wpAny_Call_Name_kw (ld_glob I hg hm ?_ hdb)
  refine PySem.W.callWith_K (h₀ := X.base) I.ok.mod.kin TC.oex.kC (thn (ha.run pos pins s σ H _ I h) fun us s1 ⟨vs, H1, I1, r1, v, v2, ev, q1⟩ => ⟨I1.kIn, ?_⟩) he hpl
  subst ev
  obtain ⟨u, u2, rfl, ru, ru2⟩ := r1.two
  show wpAny _ _ (call (.ref C) [u, u2]) _ _ _
  obtain ⟨mb, hmb, hmb2⟩ := I1.mod.blt
  have hmg := I1.mod.glob.keeps I1.bk
  have hbl := hmb.keeps I1.bk
  have lim := I1.nolimit
  have kin := I1.kIn
  obtain ⟨hp', g, dr, tk, os⟩ := s1
  have kk : ∀ b o, hp'.get? b = some o → ((hp'.push (PySem.W.kdv_tup [u, u2])).push (PySem.HandSPX.excO C hp'.objs.size)).get? b = some o := fun b o z => Heap.get?_push_of_some _ (Heap.get?_push_of_some _ z)
  have hget : ((hp'.push (PySem.W.kdv_tup [u, u2])).push (PySem.HandSPX.excO C hp'.objs.size)).get? (hp'.objs.size + 1) = some (PySem.HandSPX.excO C hp'.objs.size) := by heap_get
  have sz : ((hp'.push (PySem.W.kdv_tup [u, u2])).push (PySem.HandSPX.excO C hp'.objs.size)).objs.size = hp'.objs.size + 2 := by rw [Heap.size_push, Heap.size_push]
  have none_ : hp'.get? (hp'.objs.size + 1) = none := by
    cases z : hp'.get? (hp'.objs.size + 1) with
    | none => rfl
    | some o => exact absurd (Heap.lt_size z) (Nat.not_lt.mpr (Nat.le_succ _))
  have heK : X.K.lookup (hp'.objs.size + 1) = none := by
    cases z : X.K.lookup (hp'.objs.size + 1) with
    | none => rfl
    | some o => rw [kin _ _ z] at none_; cases none_
  refine wpAny_call (PySem.HandSPX.call_own PySem.F.excBase_ValueError (fun Y => PySem.HandSPX.refsVE_contains Y bm hbm) (kin _ _ hC) (PySem.W.looks_findIn kin TC.ini) (fun self => PySem.W.bind_fn kin self TC.tyf) (by show 2 ≤ sizeLine; decide) ?_)
  refine TwX.exi2 TC TS TP (kin.keeps kk) (lim.keeps kk) (hmg.keeps kk) hms (hbl.keeps kk) ((hmb2 _ (by decide)).trans PyProof.Rows.Boot.«super») (hr.make C [u, u2] []).depth hget (fun qual kV doc pm an cdv ct cc => hb _ _ _ _ qual kV doc pm an cdv ct cc) hp har T.top hne hne2 hnn hd1 hd2 heK T.no T.no2 hst2 hsw2 fun h' dx t1 tk' k hdx hde e' n => ?_
  have dxn : hp'.get? dx = none := by
    cases z : hp'.get? dx with
    | none => rfl
    | some o =>
      have hdx' : hp'.objs.size + 2 ≤ dx := by rw [← sz]; exact hdx
      exact absurd (Heap.lt_size z) (Nat.not_lt.mpr (Nat.le_trans (Nat.le_add_right _ _) hdx'))
  refine ⟨rfl, ?_⟩
  exact made_end (s := ⟨hp', g, dr, tk, os⟩) (a := hp'.objs.size + 1) (fs := [(f1, v), (f2, v2)]) TC.oex I1 none_ (fun b o hb' z => k b o hb' (kk b o z)) dxn hde e' n (fun y => by
    by_cases hy2 : y = f2
    · subst hy2
      have h12 : (y == f1) = false := beq_eq_false_iff_ne.mpr fun z => hff z.symm
      simp only [List.lookup, h12, beq_self_eq_true, if_true]
      exact ru2
    · have h2 : (y == f2) = false := beq_eq_false_iff_ne.mpr hy2
      by_cases hy : y = f1
      · subst hy
        simp only [List.lookup, beq_self_eq_true, if_true, if_neg hy2]
        exact ru
      · have h1 : (y == f1) = false := beq_eq_false_iff_ne.mpr hy
        simp only [List.lookup, h1, h2, if_neg hy, if_neg hy2]
        exact True.intro) (fun hnd => q1 dx hnd)
def mRaise (c : Nat) (fn : List Str) (args : MA) : MS := fun ε L => (args ε L).bindS ε fun ds L1 => if ds.length = fn.length then .ex c (fn.zip ds) ε L1 else .bad
theorem ss_raise1 {x : Str} {c : Nat} {f1 : Str} {e : Expr} {args : MA} {p cpos pos : Pos} (hc : X.calm = true) (tk : Takes X W) (T : Exc1 X.prog X.K (cm c) f1) (hr : Room 2 X.A) (hms : X.mg ("super" : Str) = none) (hm : X.mg x = some (.ref (cm c))) (ha : PA X [e] (tMA ⟨X.K, cm, fx, X.w⟩ W args)) (hg : Gl X x := by rfl)
    (hdb : (x == ("__debug__" : Str)) = false := by decide) (he : starEach [e] X.env = (false, eval e X.env) :: starEach [] X.env := by rfl) (hpl : (backTo cpos (starEach [] X.env)).any (·.1) = false := by rfl) :
    PS X (.Raise (some (.Call (.Name x p) [e] [] cpos)) none pos) (tMS ⟨X.K, cm, fx, X.w⟩ W (mRaise c [f1] args)) :=
  (L2N.ps_raise hc tk (pmk_exc1 T hr hms hg hm ha hdb he hpl)).imp fun D σ H q => by
    obtain ⟨ε, ρ, L, he, hh, q⟩ := q
    refine ⟨ε, ρ, L, he, hh, LfS.bind he q fun ds L1 vs ρ1 H1 _ p1 t1 h1 r1 q1 => ?_⟩
    split at q1
    · rename_i hl
      match ds, hl, r1 with
      | [y], _, r1 =>
        obtain ⟨v, rfl, rv⟩ := r1.one
        refine ⟨v, rfl, fun d hd => ?_⟩
        have tt : TP H1 (upd H1 d (.xd [(f1, v)])) := TP.new hd
        exact q1 σ ρ1 _ (some d) (List.prefix_refl _) tt (h1.fresh hd _) (((he.mono p1 t1)).mono (List.prefix_refl _) tt) (.inr ⟨d, [(f1, v)], rfl, upd_same, .cons (rv.mono (List.prefix_refl _) tt) .nil⟩)
    · exact q1.elim
theorem ss_raise2 {x : Str} {c : Nat} {f1 f2 : Str} {e e2 : Expr} {args : MA} {p cpos pos : Pos} (hc : X.calm = true) (tk : Takes X W) (T : Exc2 X.prog X.K (cm c) f1 f2) (hff : f1 ≠ f2) (hr : Room 2 X.A) (hms : X.mg ("super" : Str) = none) (hm : X.mg x = some (.ref (cm c))) (ha : PA X [e, e2] (tMA ⟨X.K, cm, fx, X.w⟩ W args)) (hg : Gl X x := by rfl)
    (hdb : (x == ("__debug__" : Str)) = false := by decide) (he : starEach [e, e2] X.env = (false, eval e X.env) :: starEach [e2] X.env := by rfl) (hpl : (backTo cpos (starEach [e2] X.env)).any (·.1) = false := by rfl) :
    PS X (.Raise (some (.Call (.Name x p) [e, e2] [] cpos)) none pos) (tMS ⟨X.K, cm, fx, X.w⟩ W (mRaise c [f1, f2] args)) :=
  (L2N.ps_raise hc tk (pmk_exc2 T hff hr hms hg hm ha hdb he hpl)).imp fun D σ H q => by
    obtain ⟨ε, ρ, L, he, hh, q⟩ := q
    refine ⟨ε, ρ, L, he, hh, LfS.bind he q fun ds L1 vs ρ1 H1 _ p1 t1 h1 r1 q1 => ?_⟩
    split at q1
    · rename_i hl
      match ds, hl, r1 with
      | [y, y2], _, r1 =>
        obtain ⟨v, v2, rfl, rv, rv2⟩ := r1.two
        refine ⟨v, v2, rfl, fun d hd => ?_⟩
        have tt : TP H1 (upd H1 d (.xd [(f1, v), (f2, v2)])) := TP.new hd
        exact q1 σ ρ1 _ (some d) (List.prefix_refl _) tt (h1.fresh hd _) (((he.mono p1 t1)).mono (List.prefix_refl _) tt) (.inr ⟨d, [(f1, v), (f2, v2)], rfl, upd_same, .cons (rv.mono (List.prefix_refl _) tt) (.cons (rv2.mono (List.prefix_refl _) tt) .nil)⟩)
    · exact q1.elim
/-- C() of a class without an own __init__ -/
theorem pmk_exc0 {x : Str} {C : Addr} {bmB : List Value} {B newId initId : String} {p pos : Pos} (F : ExcBaseFacts B newId initId bmB) (q : PySem.W.excIn X.K C bmB newId = true) (gC : X.mg x = some (.ref C)) (kC : PySem.W.keepIn X.K (.ref C) = true) (r : Raises X (.ref C)) (hg : Gl X x)
    (hdb : (x == ("__debug__" : Str)) = false := by decide) : L2N.PMk X (.Call (.Name x p) [] [] pos) (fun _ H Q => Q (.ref C) none H) := by
  intro pins s σ H Q I h
  refine wpAny_Call_Name_kw (ld_glob I hg gC ?_ hdb)
  refine PySem.W.callWith_K0 I.kIn kC ?_
  show wpAny _ _ (call (.ref C) []) _ _ _
  obtain ⟨bm, N, nm, qn, bs, hdct, sn, sub, ab, col, dd, k0, k1, k2, k3, k5, mN, hC, hN, hni, T⟩ := exc_obj I.kIn q
  exact wpAny_call_exc_subT F T hC hN hni (fun h' e hm => L2N.mk_of I hm r h (I.hok.gone hm.new)) (Nat.zero_le _)
theorem ss_raise0 {x : Str} {c : Nat} {bmB : List Value} {B newId initId : String} {p cpos pos : Pos} (hc : X.calm = true) (tk : Takes X W) (F : ExcBaseFacts B newId initId bmB) (q : PySem.W.excIn X.K (cm c) bmB newId = true) (gC : X.mg x = some (.ref (cm c))) (kC : PySem.W.keepIn X.K (.ref (cm c)) = true)
    (h1 : PySem.W.subIn X.K (.ref (cm c)) (.type "BaseException") = some true) (h2 : PySem.W.typeIn X.K (.ref (cm c)) = some (.type "type")) (hg : Gl X x := by rfl) (hdb : (x == ("__debug__" : Str)) = false := by decide) :
    PS X (.Raise (some (.Call (.Name x p) [] [] cpos)) none pos) (tMS ⟨X.K, cm, fx, X.w⟩ W (mRaise c [] mNil)) :=
  (L2N.ps_raise hc tk (pmk_exc0 F q gC kC (raises_own h1 h2) hg hdb)).imp fun D σ H q => by
    obtain ⟨ε, ρ, L, he, hh, q⟩ := q
    exact q σ ρ H none (List.prefix_refl _) (TP.refl H) hh he (.inl ⟨rfl, rfl⟩)
end Tw
end

section
set_option Elab.async false
set_option linter.all false
set_option maxRecDepth 100000
set_option maxHeartbeats 4000000
/-! Tw, part Xd: try: .. except C as n: return e. -/
namespace Tw
open PySem PySem.Spec PyProof.Rows L2
section
variable {K : PySem.W.Frag} {cm : Nat → Addr} {fx fx' : Hp} {w : World} {ρ : List Addr} {H : Hp} {L : List O}
mutual
theorem VR.cg : ∀ {d : D} {v : V}, VR ⟨K, cm, fx, w⟩ ρ H d v → VR ⟨K, cm, fx', w⟩ ρ H d v
  | _, _, .non => .non
  | _, _, .bl b => .bl b
  | _, _, .int i => .int i
  | _, _, .str x => .str x
  | _, _, .ref e => .ref e
  | _, _, .cls c => .cls (g := ⟨K, cm, fx', w⟩) c
  | _, _, .ty c => .ty c
  | _, _, .tup s r => .tup s (VRs.cg r)
  | _, _, .rol s r => .rol s (VRs.cg r)
theorem VRs.cg : ∀ {ds : List D} {vs : List V}, VRs ⟨K, cm, fx, w⟩ ρ H ds vs → VRs ⟨K, cm, fx', w⟩ ρ H ds vs
  | _, _, .nil => .nil
  | _, _, .cons r t => .cons (VR.cg r) (VRs.cg t)
end
theorem FR.cg : ∀ {fs : List (Str × D)} {vs : List (Str × V)}, FR ⟨K, cm, fx, w⟩ ρ H fs vs → FR ⟨K, cm, fx', w⟩ ρ H fs vs
  | _, _, .nil => .nil
  | _, _, .cons r t => .cons r.cg (FR.cg t)
theorem KR.cg : ∀ {fs : List (Key × D)} {vs : List (Key × V)}, KR ⟨K, cm, fx, w⟩ ρ H fs vs → KR ⟨K, cm, fx', w⟩ ρ H fs vs
  | _, _, .nil => .nil
  | _, _, .cons r t => .cons r.cg (KR.cg t)
theorem NR.cg : ∀ {ks : List (D × D)} {xs : List (NestedKey × Addr × V)}, NR ⟨K, cm, fx, w⟩ ρ H ks xs → NR ⟨K, cm, fx', w⟩ ρ H ks xs
  | _, _, .nil => .nil
  | _, _, .cons a b r q t => .cons a b r.cg q.cg (NR.cg t)
theorem OR.cg {a : Addr} {o : O} (h : OR ⟨K, cm, fx, w⟩ ρ H a o) : OR ⟨K, cm, fx', w⟩ ρ H a o := by
  cases o with
  | lst ds => obtain ⟨vs, e, r⟩ := h; exact ⟨vs, e, r.cg⟩
  | ins c fs => obtain ⟨dx, vs, e, r⟩ := h; exact ⟨dx, vs, e, r.cg⟩
  | dic lk ks =>
    cases lk with
    | false => obtain ⟨vs, e, r⟩ := h; exact ⟨vs, e, r.cg⟩
    | true => obtain ⟨vs, o, e, r⟩ := h; exact ⟨vs, o, e, r.cg⟩
  | nd lk ks =>
    cases lk with
    | false => obtain ⟨vs, e, r⟩ := h; exact ⟨vs, e, r.cg⟩
    | true => obtain ⟨vs, o, e, r⟩ := h; exact ⟨vs, o, e, r.cg⟩
theorem ER.cg {σ : L2.St} {ε : En} (h : ER ⟨K, cm, fx, w⟩ ρ H σ ε) : ER ⟨K, cm, fx', w⟩ ρ H σ ε := ⟨h.1, fun i d q => let ⟨v, a, b⟩ := h.2 i d q; ⟨v, a, b.cg⟩⟩
theorem HR.cg (h : HR ⟨K, cm, fx, w⟩ ρ L H) (h1 : ∀ (n : Nat) (a : Addr), ρ[n]? = some a → fx' a = none) (h2 : ∀ (a : Addr) (u : HO), fx' a = some u → H a = some u) : HR ⟨K, cm, fx', w⟩ ρ L H :=
  ⟨h.len, h.nd, fun n o a e ea => (h.ob n o a e ea).cg, h1, h2⟩
end
abbrev SM := Nat → List (Str × D) → ME
abbrev SMB := Nat → List (Str × D) → MB
abbrev SMA := Nat → List (Str × D) → MA
/-- the fields of the exception at hand, its dict in the frame -/
def XF (g : Gx) (ρ : List Addr) (H : Hp) (fs : List (Str × D)) (d : Option Addr) : Prop := (fs = [] ∧ d = none) ∨ ∃ dd vs, d = some dd ∧ g.fx dd = some (.xd vs) ∧ FR g ρ H fs vs
theorem XF.mono {g : Gx} {ρ ρ' : List Addr} {H H' : Hp} {fs : List (Str × D)} {d : Option Addr} (hp : ρ <+: ρ') (ht : TP H H') (h : XF g ρ H fs d) : XF g ρ' H' fs d := by
  rcases h with h | ⟨dd, vs, e, f, r⟩
  · exact .inl h
  · exact .inr ⟨dd, vs, e, f, r.monoV hp ht.tv⟩
structure Hold1 (g : Gx) (i : Nat) (a : Addr) (cls : Value) (d : Option Addr) (c : Nat) (fs : List (Str × D)) (ε : En) (ρ : List Addr) (L : List O) (σ : L2.St) (H : Hp) : Prop where
  cl : cls = .ref (g.cm c)
  sl : σ[i]? = some (some (.ref a))
  xf : XF g ρ H fs d
  er : ER g ρ H σ ε
  hr : HR g ρ L H
theorem Hold1.mono {g : Gx} {i : Nat} {a : Addr} {cls : Value} {d : Option Addr} {c : Nat} {fs : List (Str × D)} {ε : En} {ρ ρ' : List Addr} {L L' : List O} {σ : L2.St} {H H' : Hp} (h : Hold1 g i a cls d c fs ε ρ L σ H) (p : ρ <+: ρ') (t : TP H H') (hh : HR g ρ' L' H') : Hold1 g i a cls d c fs ε ρ' L' σ H' :=
  ⟨h.cl, h.sl, h.xf.mono p t, h.er.mono p t, hh⟩
def tX (g : Gx) (i : Nat) (a : Addr) (cls : Value) (d : Option Addr) (m : SM) : TE := fun σ H Q => ∃ c fs ε ρ L, Hold1 g i a cls d c fs ε ρ L σ H ∧ LfD g ρ H σ W0 (m c fs ε L) Q
def tXB (g : Gx) (i : Nat) (a : Addr) (cls : Value) (d : Option Addr) (m : SMB) : TT := fun σ H Q => ∃ c fs ε ρ L, Hold1 g i a cls d c fs ε ρ L σ H ∧ LfB g ρ H σ W0 (m c fs ε L) Q
def tXA (g : Gx) (i : Nat) (a : Addr) (cls : Value) (d : Option Addr) (m : SMA) : TA := fun σ H Q => ∃ c fs ε ρ L, Hold1 g i a cls d c fs ε ρ L σ H ∧ LfA g ρ H σ W0 (m c fs ε L) Q
structure SuE (X : Cx) (cm : Nat → Addr) (i : Nat) (e : Expr) (m : SM) : Prop where
  run : ∀ (fx : Hp) (a : Addr) (oe : Obj) (cls : Value) (d : Option Addr) (pn : List (Addr × Obj)), L2N.Zn cls d oe → (∃ vs, oe.data = .fields vs) → PE (X.suite a ((a, oe) :: pn)) e (tX ⟨X.K, cm, fx, X.w⟩ i a cls d m)
structure SuB (X : Cx) (cm : Nat → Addr) (i : Nat) (e : Expr) (m : SMB) : Prop where
  run : ∀ (fx : Hp) (a : Addr) (oe : Obj) (cls : Value) (d : Option Addr) (pn : List (Addr × Obj)), L2N.Zn cls d oe → (∃ vs, oe.data = .fields vs) → PT (X.suite a ((a, oe) :: pn)) e (tXB ⟨X.K, cm, fx, X.w⟩ i a cls d m)
structure SuW (X : Cx) (cm : Nat → Addr) (i : Nat) (e : Expr) (m : SMB) : Prop where
  run : ∀ (fx : Hp) (a : Addr) (oe : Obj) (cls : Value) (d : Option Addr) (pn : List (Addr × Obj)), L2N.Zn cls d oe → (∃ vs, oe.data = .fields vs) → PW (X.suite a ((a, oe) :: pn)) e (tXB ⟨X.K, cm, fx, X.w⟩ i a cls d m)
structure SuA (X : Cx) (cm : Nat → Addr) (i : Nat) (es : List Expr) (m : SMA) : Prop where
  run : ∀ (fx : Hp) (a : Addr) (oe : Obj) (cls : Value) (d : Option Addr) (pn : List (Addr × Obj)), L2N.Zn cls d oe → (∃ vs, oe.data = .fields vs) → PA (X.suite a ((a, oe) :: pn)) es (tXA ⟨X.K, cm, fx, X.w⟩ i a cls d m)
variable {X : Cx} {cm : Nat → Addr} {i : Nat}
/-- what looks not at the exception -/
theorem su_pure {e : Expr} {m : ME} (h : ∀ (fx : Hp) (a : Addr) (oe : Obj) (pn : List (Addr × Obj)), PE (X.suite a ((a, oe) :: pn)) e (tM ⟨X.K, cm, fx, X.w⟩ W0 m)) : SuE X cm i e (fun _ _ => m) :=
  ⟨fun fx a oe cls d pn _ _ => (h fx a oe pn).imp fun σ H Q ⟨c, fs, ε, ρ, L, h1, q⟩ => ⟨ε, ρ, L, h1.er, h1.hr, q⟩⟩
theorem su_nil : SuA X cm i [] (fun _ _ => mNil) := ⟨fun fx a oe cls d pn _ _ => pa_nil.imp fun σ H Q ⟨c, fs, ε, ρ, L, h1, q⟩ => q [] ρ H (List.prefix_refl _) (TP.refl H) h1.hr .nil⟩
theorem su_cons {e : Expr} {es : List Expr} {a : SM} {r : SMA} (ha : SuE X cm i e a) (hr : SuA X cm i es r) (hs : starEach (e :: es) X.env = (false, eval e X.env) :: starEach es X.env := by rfl) : SuA X cm i (e :: es) (fun c fs => mCons (a c fs) (r c fs)) :=
  ⟨fun fx ad oe cls d pn hz hf => (pa_cons (ha.run fx ad oe cls d pn hz hf) (hr.run fx ad oe cls d pn hz hf) hs).imp fun σ H Q ⟨c, fs, ε, ρ, L, h1, q⟩ =>
    ⟨c, fs, ε, ρ, L, h1, Lf.bind q fun x L1 v ρ1 H1 _ p1 t1 hh1 r1 q1 => ⟨c, fs, ε, ρ1, L1, h1.mono p1 t1 hh1, Lf.bind q1 fun xs L2 vs ρ2 H2 _ p2 t2 h2 r2 q2 => q2 _ ρ2 H2 (List.prefix_refl _) (TP.refl H2) h2 (.cons (r1.mono p2 t2) r2)⟩⟩⟩
theorem su_lst {es : List Expr} {r : SMA} {pos : Pos} (h : SuA X cm i es r) : SuE X cm i (.List es pos) (fun c fs => mLst (r c fs)) :=
  ⟨fun fx a oe cls d pn hz hf => (pe_lst (h.run fx a oe cls d pn hz hf)).imp fun σ H Q ⟨c, fs, ε, ρ, L, h1, q⟩ => ⟨c, fs, ε, ρ, L, h1, Lf.bind q fun xs L1 vs ρ1 H1 _ p1 t1 hh1 r1 q1 => by
    by_cases hz : xs.length ≤ most
    · rw [if_pos hz] at q1
      exact ⟨by rw [← r1.length]; exact most_le hz, fun p hp => LfO.newL q1 hh1 r1 hp⟩
    · rw [if_neg hz] at q1; exact q1.elim⟩⟩
theorem su_tup {es : List Expr} {r : SMA} {k : Nat} {pos : Pos} (h : SuA X cm i es r) : SuE X cm i (.Tuple es k pos) (fun c fs => mTup (r c fs)) :=
  ⟨fun fx a oe cls d pn hz hf => (pe_tup (h.run fx a oe cls d pn hz hf)).imp fun σ H Q ⟨c, fs, ε, ρ, L, h1, q⟩ => ⟨c, fs, ε, ρ, L, h1, Lf.bind q fun xs L1 vs ρ1 H1 _ p1 t1 hh1 r1 q1 => by
    by_cases hz : xs.length ≤ most
    · rw [if_pos hz] at q1
      exact ⟨by rw [← r1.length]; exact most_le hz, fun p hp => LfO.newT q1 hh1 r1 hp⟩
    · rw [if_neg hz] at q1; exact q1.elim⟩⟩
theorem su_ifE {ec ea eb : Expr} {t : SMB} {a b : SM} {pos : Pos} (ht : SuB X cm i ec t) (ha : SuE X cm i ea a) (hb : SuE X cm i eb b) : SuE X cm i (.IfExp ec ea eb pos) (fun c fs => mIfE (t c fs) (a c fs) (b c fs)) :=
  ⟨fun fx ad oe cls d pn hz hf => (pe_ifExp (ht.run fx ad oe cls d pn hz hf) (ha.run fx ad oe cls d pn hz hf) (hb.run fx ad oe cls d pn hz hf)).imp fun σ H Q ⟨c, fs, ε, ρ, L, h1, q⟩ => ⟨c, fs, ε, ρ, L, h1, Lf.bind q fun k L1 v ρ1 H1 _ p1 t1 hh1 r1 q1 => by
    cases r1
    cases k with
    | true => rw [if_pos rfl] at q1 ⊢; exact ⟨c, fs, ε, ρ1, L1, h1.mono p1 t1 hh1, q1⟩
    | false => rw [if_neg (by decide)] at q1 ⊢; exact ⟨c, fs, ε, ρ1, L1, h1.mono p1 t1 hh1, q1⟩⟩⟩
theorem su_not {e : Expr} {t : SMB} {pos : Pos} (h : SuB X cm i e t) : SuB X cm i (.UnaryOp .Not e pos) (fun c fs => mNotB (t c fs)) :=
  ⟨fun fx a oe cls d pn hz hf => (pt_not (h.run fx a oe cls d pn hz hf)).imp fun σ H Q ⟨c, fs, ε, ρ, L, h1, q⟩ => ⟨c, fs, ε, ρ, L, h1, Lf.bind q fun b L1 v ρ1 H1 _ p1 t1 hh1 r1 q1 => by
    cases r1
    exact q1 _ ρ1 H1 (List.prefix_refl _) (TP.refl H1) hh1 rfl⟩⟩
theorem su_and1 {e : Expr} {t : SMB} {pos : Pos} (h : SuB X cm i e t) : SuW X cm i (.BoolOp .And [e] pos) t := ⟨fun fx a oe cls d pn hz hf => pw_and1 (h.run fx a oe cls d pn hz hf)⟩
theorem su_and {ea eb : Expr} {rest : List Expr} {a b : SMB} {pos : Pos} (ha : SuB X cm i ea a) (hb : SuW X cm i (.BoolOp .And (eb :: rest) pos) b) : SuW X cm i (.BoolOp .And (ea :: eb :: rest) pos) (fun c fs => mAndB (a c fs) (b c fs)) :=
  ⟨fun fx ad oe cls d pn hz hf => (pw_and (ha.run fx ad oe cls d pn hz hf) (hb.run fx ad oe cls d pn hz hf)).imp fun σ H Q ⟨c, fs, ε, ρ, L, h1, q⟩ => ⟨c, fs, ε, ρ, L, h1, Lf.bind q fun k L1 v ρ1 H1 _ p1 t1 hh1 r1 q1 => by
    cases r1
    cases k with
    | true => exact ⟨c, fs, ε, ρ1, L1, h1.mono p1 t1 hh1, q1⟩
    | false => exact q1 _ ρ1 H1 (List.prefix_refl _) (TP.refl H1) hh1 rfl⟩⟩
theorem SuW.sb {e : Expr} {t : SMB} (h : SuW X cm i e t) : SuB X cm i e t := ⟨fun fx a oe cls d pn hz hf => (h.run fx a oe cls d pn hz hf).pt⟩
theorem su_val {e : Expr} {m : SM} (h : SuE X cm i e m) (he : ∀ whole, isTrue e X.env whole = (do let v ← whole; standAt e.pos; holding [v] (truthy v)) := by exact fun _ => rfl) : SuB X cm i e (fun c fs => mTru (m c fs)) :=
  ⟨fun fx a oe cls d pn hz hf => (pt_truth (h.run fx a oe cls d pn hz hf) he).imp fun σ H Q ⟨c, fs, ε, ρ, L, h1, q⟩ => ⟨c, fs, ε, ρ, L, h1, Lf.bind q fun x L1 v ρ1 H1 _ p1 t1 hh1 r1 q1 => by
    cases ht : truth L1 x with
    | none => rw [ht] at q1; exact q1.elim
    | some b =>
      rw [ht] at q1
      exact ⟨b, truth_ok hh1 r1 ht, q1 b ρ1 H1 (List.prefix_refl _) (TP.refl H1) hh1 rfl⟩⟩⟩
end Tw
end

section
set_option Elab.async false
set_option linter.all false
set_option maxRecDepth 100000
set_option maxHeartbeats 4000000
/-! Tw, part Xe: the exception's fields, isinstance of it; the try statement. -/
namespace Tw
open PySem PySem.Spec PyProof.Rows L2
variable {X : Cx} {cm : Nat → Addr} {i : Nat} {W : WX}
/-- e.f, e of the class cF -/
def xFld (cF : Nat) (f : Str) : SM := fun c fs _ L => if c = cF then match fs.lookup f with
  | some d => .ok d L
  | none => .bad else .bad
theorem su_fld {cF : Nat} {f : Str} {n : Str} {p pos : Pos} (T : XfC X.K (cm cF)) (hno : PySem.W.findIn X.K (.ref (cm cF)) f = some none) (hv : ∀ (a : Addr) (pn : List (Addr × Obj)), PE (X.suite a pn) (.Name n p) (tVar i))
    (hb : attributeBase (.Name n p) f X.env (eval (.Name n p) X.env) = eval (.Name n p) X.env := by rfl) : SuE X cm i (.Attribute (.Name n p) f pos) (xFld cF f) :=
  ⟨fun fx a oe cls d pn hz hf => (pe_xf (C := cm cF) T hno hz.zc hf (hv a _) hb).imp fun σ H Q ⟨c, fs, ε, ρ, L, h1, q⟩ => by
    unfold xFld at q
    split at q
    · rename_i hc
      subst hc
      split at q
      · rename_i y hy
        refine ⟨_, h1.sl, rfl, h1.cl, ?_⟩
        rcases h1.xf with ⟨e, _⟩ | ⟨dd, vs, e, ef, fr⟩
        · rw [e] at hy; cases hy
        · rcases fr.look f with ⟨y', v, e1, e2, rv⟩ | ⟨e1, _⟩
          · rw [hy] at e1
            cases e1
            exact ⟨dd, vs, v, e, h1.hr.fxs dd _ ef, e2, q v ρ H (List.prefix_refl _) (TP.refl H) h1.hr rv⟩
          · rw [hy] at e1; cases e1
      · exact q.elim
    · exact q.elim⟩
/-- what an own exception class must say, so that isinstance asks its instances rightly -/
structure ExcQ (K : PySem.W.Frag) (C : Addr) : Prop where
  hcl : (PySem.W.clsIn K C).isSome = true
  hga : PySem.W.findIn K (.ref C) "__getattribute__" = some (some (.builtin "BaseException.__getattribute__"))
  hgt : PySem.W.findIn K (.ref C) "__getattr__" = some none
  hsub : PySem.W.subIn K (.ref C) (.type "BaseException") = some true
  ha : PySem.W.findIn K (.ref C) "__class__" = some (some (.builtin "object.__class__"))
  hn : PySem.W.specialIn K (.builtin "object.__class__") "__get__" = some (some (.builtin "getset_descriptor.__get__"))
  htk : PySem.W.takesIn K (.builtin "object.__class__") = some true
  hm : PySem.W.mroIn K C (.type "object") = some true
/-- the dict of an exception: none, or a tracked one -/
def XdOk (H : Hp) (d : Option Addr) : Prop := d = none ∨ ∃ dd vs, d = some dd ∧ H dd = some (.xd vs)
theorem inst_at {pins : List (Addr × Obj)} {σ : L2.St} {H : Hp} {s : Shared} {a C : Addr} {oe : Obj} {cls : Value} {d : Option Addr} (I : Inv X pins σ H s) (hp : (a, oe) ∈ X.pn) (hz : Zc cls d oe) (hf : ∃ vs, oe.data = .fields vs) (hcl : cls = .ref C) (hd : XdOk H d) : ∃ od, PySem.W.InstAt s.heap a oe C od := by
  obtain ⟨hget, _⟩ := I.pin (a, oe) (List.mem_append.mpr (.inl hp))
  obtain ⟨vs, hv⟩ := hf
  have nc : PySem.W.notCls oe = true := by unfold PySem.W.notCls; rw [hv] <;> rfl
  rcases hd with hd | ⟨dd, ws, hd, hH⟩
  · refine ⟨none, hget, hz.1.trans hcl, nc, ?_⟩
    rw [hz.2, hd]
    trivial
  · obtain ⟨mA, ⟨o, es, ep, ho, r⟩, _⟩ := (show ObjOk X.prog X.w H s.heap dd (.xd ws) from I.hok dd _ hH)
    refine ⟨some o, hget, hz.1.trans hcl, nc, ?_⟩
    rw [hz.2, hd]
    exact ho
def rIsX (K : PySem.W.Frag) (a : Addr) (cls : Value) (d : Option Addr) : List V → Hp → VK → Prop := fun xs H Q => ∃ (C : Addr) (c : V) (u : Value) (b : Bool), xs = [.ref a, c] ∧ cls = .ref C ∧ ExcQ K C ∧ XdOk H d ∧ ClsV c u ∧ PySem.W.kitOne K (.ref C) u = some b ∧ Q (.bl b) H
def rIsXT (K : PySem.W.Frag) (a : Addr) (cls : Value) (d : Option Addr) : List V → Hp → VK → Prop := fun xs H Q => ∃ (C tp : Addr) (cs : List V) (us : List Value) (b : Bool), xs = [.ref a, .ref tp] ∧ cls = .ref C ∧ ExcQ K C ∧ XdOk H d ∧ H tp = some (.tup cs) ∧ Paired ClsV cs us ∧ PySem.W.kitAny K (.ref C) us = some b ∧ Q (.bl b) H
theorem call_isX {a : Addr} {oe : Obj} {cls : Value} {d : Option Addr} (hp : (a, oe) ∈ X.pn) (hz : Zc cls d oe) (hf : ∃ vs, oe.data = .fields vs) : CallR X (.builtin "isinstance") (rIsX X.K a cls d) := by
  intro pins s σ H xs us Q I r h
  obtain ⟨C, c, u, b, rfl, hcl, T, hd, k, e, q⟩ := h
  obtain ⟨u1, u2, rfl, r1, r2⟩ := r.two
  obtain rfl : u1 = Value.ref a := r1
  have e2 := k.eq r2
  subst e2
  obtain ⟨od, J⟩ := inst_at I hp hz hf hcl hd
  exact PySem.W.kia_one (PySem.W.kitx_exc (od := od) T.hcl T.hga T.hgt T.hsub T.ha T.hn T.htk T.hm) I.kIn J e (fun z => nomatch z) fun tk => ⟨.bl b, H, I.tok tk, rfl, q⟩
theorem call_isXT {a : Addr} {oe : Obj} {cls : Value} {d : Option Addr} (hp : (a, oe) ∈ X.pn) (hz : Zc cls d oe) (hf : ∃ vs, oe.data = .fields vs) : CallR X (.builtin "isinstance") (rIsXT X.K a cls d) := by
  intro pins s σ H xs us Q I r h
  obtain ⟨C, tp, cs, ws, b, rfl, hcl, T, hd, hT, k, e, q⟩ := h
  obtain ⟨u1, u2, rfl, r1, r2⟩ := r.two
  obtain rfl : u1 = Value.ref a := r1
  cases (show u2 = Value.ref tp from r2)
  obtain ⟨od, J⟩ := inst_at I hp hz hf hcl hd
  obtain ⟨_, its, rv, o, h1, h2, n, h3⟩ := (show ObjOk X.prog X.w H s.heap tp (.tup cs) from I.hok tp _ hT)
  have e3 := ClsV.all k rv
  subst e3
  obtain ⟨oc, odx, dt, sl⟩ := o
  simp only at h2 h3
  subst h2 h3
  exact PySem.W.kia_tup (PySem.W.kitx_exc (od := od) T.hcl T.hga T.hgt T.hsub T.ha T.hn T.htk T.hm) I.kIn J h1 e (fun z => nomatch z) fun tk => ⟨.bl b, H, I.tok tk, rfl, q⟩
/-- isinstance(e, ..): answered by the class's number -/
def xIs (t : Nat → Option Bool) : SM := fun c _ _ L => match t c with
  | some b => .ok (.bl b) L
  | none => .bad
theorem Hold1.xd {g : Gx} {i : Nat} {a : Addr} {cls : Value} {d : Option Addr} {c : Nat} {fs : List (Str × D)} {ε : En} {ρ : List Addr} {L : List O} {σ : L2.St} {H : Hp} (h : Hold1 g i a cls d c fs ε ρ L σ H) : XdOk H d := by
  rcases h.xf with ⟨_, e⟩ | ⟨dd, vs, e, ef, _⟩
  · exact .inl e
  · exact .inr ⟨dd, vs, e, h.hr.fxs dd _ ef⟩
theorem su_is {t : Nat → Option Bool} {n T : Str} {c2 : V} {u2 : Value} {p p2 p3 pos : Pos} (hm : X.mg "isinstance" = none) (hT : ∀ (a : Addr) (pn : List (Addr × Obj)), PE (X.suite a pn) (.Name T p2) (tC c2)) (hc : ClsV c2 u2) (hs : ∀ c b, t c = some b → ExcQ X.K (cm c) ∧ PySem.W.kitOne X.K (.ref (cm c)) u2 = some b)
    (hv : ∀ (a : Addr) (pn : List (Addr × Obj)), PE (X.suite a pn) (.Name n p) (tVar i)) (hg : Gl X "isinstance" := by rfl)
    (he : starEach [.Name n p, .Name T p2] X.env = (false, eval (.Name n p) X.env) :: starEach [.Name T p2] X.env := by rfl) (he2 : starEach [.Name T p2] X.env = (false, eval (.Name T p2) X.env) :: starEach [] X.env := by rfl) (hpl : (backTo pos (starEach [.Name T p2] X.env)).any (·.1) = false := by rfl) :
    SuE X cm i (.Call (.Name "isinstance" p3) [.Name n p, .Name T p2] [] pos) (xIs t) :=
  ⟨fun fx a oe cls d pn hz hf => (pe_callB (X := X.suite a ((a, oe) :: pn)) (call_isX (X := X.suite a ((a, oe) :: pn)) List.mem_cons_self hz.zc hf) hg hm (by decide +kernel) (pa_cons (hv a _) (pa_cons (hT a _) pa_nil he2) he) (by decide) (by decide) he hpl).imp fun σ H Q ⟨c, fs, ε, ρ, L, h1, q⟩ => by
    unfold xIs at q
    split at q
    · rename_i b hb
      obtain ⟨h2, h3⟩ := hs c b hb
      exact ⟨_, h1.sl, cm c, c2, u2, b, rfl, h1.cl, h2, h1.xd, hc, h3, q (.bl b) ρ H (List.prefix_refl _) (TP.refl H) h1.hr (.bl b)⟩
    · exact q.elim⟩
theorem su_isT {t : Nat → Option Bool} {n : Str} {es : List Expr} {cs : List V} {us : List Value} {k : Nat} {p p2 p3 pos : Pos} (hm : X.mg "isinstance" = none) (hT : ∀ (a : Addr) (pn : List (Addr × Obj)), PA (X.suite a pn) es (fun _ H Q => Q cs H)) (hc : Paired ClsV cs us) (hl : cs.length ≤ sizeLine) (hs : ∀ c b, t c = some b → ExcQ X.K (cm c) ∧ PySem.W.kitAny X.K (.ref (cm c)) us = some b)
    (hv : ∀ (a : Addr) (pn : List (Addr × Obj)), PE (X.suite a pn) (.Name n p) (tVar i)) (hg : Gl X "isinstance" := by rfl)
    (he : starEach [.Name n p, .Tuple es k p2] X.env = (false, eval (.Name n p) X.env) :: starEach [.Tuple es k p2] X.env := by rfl) (he2 : starEach [.Tuple es k p2] X.env = (false, eval (.Tuple es k p2) X.env) :: starEach [] X.env := by rfl) (hpl : (backTo pos (starEach [.Tuple es k p2] X.env)).any (·.1) = false := by rfl) :
    SuE X cm i (.Call (.Name "isinstance" p3) [.Name n p, .Tuple es k p2] [] pos) (xIs t) :=
  ⟨fun fx a oe cls d pn hz hf => (pe_callB (X := X.suite a ((a, oe) :: pn)) (call_isXT (X := X.suite a ((a, oe) :: pn)) List.mem_cons_self hz.zc hf) hg hm (by decide +kernel) (pa_cons (hv a _) (pa_cons (pe_tup (hT a _)) pa_nil he2) he) (by decide) (by decide) he hpl).imp fun σ H Q ⟨c, fs, ε, ρ, L, h1, q⟩ => by
    unfold xIs at q
    split at q
    · rename_i b hb
      obtain ⟨h2, h3⟩ := hs c b hb
      refine ⟨_, h1.sl, hl, fun tp htp => ?_⟩
      have tt : TP H (upd H tp (.tup cs)) := TP.new htp
      have hh := h1.hr.fresh htp (.tup cs)
      exact ⟨cm c, tp, cs, us, b, rfl, h1.cl, h2, (h1.mono (List.prefix_refl _) tt hh).xd, upd_same, hc, h3, q (.bl b) ρ _ (List.prefix_refl _) tt hh (.bl b)⟩
    · exact q.elim⟩
theorem ER.unset {g : Gx} {ρ : List Addr} {H : Hp} {σ : L2.St} {ε : En} (e : ER g ρ H σ ε) (i : Nat) (v : Option V) : ER g ρ H (σ.set i v) (ε.set i none) := by
  refine ⟨by simp [e.1], fun j d q => ?_⟩
  by_cases hj : i = j
  · subst hj
    have hi : i < ε.length := by
      obtain ⟨q, _⟩ := List.getElem?_eq_some_iff.mp q
      simpa using q
    rw [List.getElem?_set_self hi] at q
    cases q
  · rw [List.getElem?_set_ne hj] at q
    rw [List.getElem?_set_ne hj]
    exact e.2 j d q
/-- try: body / except C as n: return e -/
def mTry (sub : Nat → Option Bool) (i : Nat) (body : MS) (m : SM) : MS := fun ε L => match body ε L with
  | .ex c fs ε' L' => match sub c with
    | some true => if i < ε'.length then match m c fs (ε'.set i none) L' with
      | .ok d L2 => .rt d L2
      | _ => .bad else .bad
    | some false => .ex c fs ε' L'
    | none => .bad
  | r => r
theorem ss_try {fx : Hp} {x n : Str} {C : Addr} {body : List Stmt} {e0 : Expr} {mb : MS} {m : SM} {sub : Nat → Option Bool} {np rpos pos' pos : Pos} (hs : X.stack = X.env :: X.outer) (hf : X.env.frame = some X.env.locals) (hN : X.N.Nodup) (hi : X.N[i]? = some n) (hln : X.env.kindOf n = some .local) (hc : Names X x (.ref C)) (tk : Takes X W)
    (hb : ∀ (W' : WX) (pn : List (Addr × Obj)) (xe : Value → Shared → Prop), Takes (X.tr pn xe) W' → PassesOwn (model X.prog X.w) X.A X.env xe → PSs (X.tr pn xe) body (tMS ⟨X.K, cm, fx, X.w⟩ W' mb))
    (hsu : SuE X cm i e0 m) (hsub : ∀ c b, sub c = some b → PySem.W.exmOne X.K (.ref (cm c)) (.ref C) = some b) :
    PS X (.Try body [.ExceptHandler (some (.Name x np)) (some n) [.Return (some e0) rpos] pos'] [] [] pos) (tMS ⟨X.K, cm, fx, X.w⟩ W (mTry sub i mb m)) :=
  (L2N.ps_try_as hs hf hN hi hln hc tk (tb := fun W' => tMS ⟨X.K, cm, fx, X.w⟩ W' mb) (ts := fun a cls d D σ H => ∃ fx', tX ⟨X.K, cm, fx', X.w⟩ i a cls d m σ H D.rt) hb
    (fun a oe cls d pn hz hv => pss_one (ps_ret (te := fun σ H Q => ∃ fx', tX ⟨X.K, cm, fx', X.w⟩ i a cls d m σ H Q) ⟨fun pins s σ H Q I ⟨fx', h⟩ => (hsu.run fx' a oe cls d pn hz hv).run pins s σ H Q I h⟩))).imp fun D σ H q => by
    obtain ⟨ε, ρ, L, he, hh, q⟩ := q
    refine ⟨ε, ρ, L, he, hh, ?_⟩
    unfold mTry at q
    cases hbd : mb ε L with
    | ex c fs ε' L' =>
      rw [hbd] at q
      simp only at q
      intro σ' ρ' H' dx p t h2 e2 xr
      cases hsb : sub c with
      | none => rw [hsb] at q; exact q.elim
      | some b =>
        rw [hsb] at q
        refine ⟨b, hsub c b hsb, fun hbt a ha => ?_, fun hbf => ?_⟩
        · subst hbt
          simp only at q
          split at q
          · rename_i hlt
            cases hm : m c fs (ε'.set i none) L' with
            | ok d L2 =>
              rw [hm] at q
              have hsl : (σ'.set i (some (V.ref a)))[i]? = some (some (.ref a)) := List.getElem?_set_self (by rw [← e2.1]; exact hlt)
              rcases xr with ⟨ef, ed⟩ | ⟨dd, vs, ed, hdd, fr⟩
              · refine ⟨fx, c, fs, ε'.set i none, ρ', L', ⟨rfl, hsl, .inl ⟨ef, ed⟩, e2.unset i _, h2⟩, ?_⟩
                rw [hm]
                exact fun v ρ2 H2 p2 t2 h3 r3 => q v ρ2 H2 (p.trans p2) (t.trans t2) h3 r3
              · have key : ∀ u, fx dd = some u → u = .xd vs := fun u hu => by
                  have := h2.fxs dd u hu
                  rw [hdd] at this
                  exact (Option.some.inj this).symm
                refine ⟨upd fx dd (.xd vs), c, fs, ε'.set i none, ρ', L', ⟨rfl, hsl, .inr ⟨dd, vs, ed, upd_same, ?_⟩, (e2.unset i _).cg, h2.cg (fun n b hb => ?_) fun b u hu => ?_⟩, ?_⟩
                · exact FR.cg fr
                · have hne : b ≠ dd := by
                    rintro rfl
                    obtain ⟨o, ho⟩ := h2.there hb
                    have q2 := h2.ob n o b ho hb
                    cases o with
                    | lst ds => obtain ⟨ws, z, _⟩ := q2; rw [hdd] at z; cases z
                    | ins c fs => obtain ⟨dx, ws, z, _⟩ := q2; rw [hdd] at z; cases z
                    | dic lk ks =>
                      cases lk with
                      | false => obtain ⟨ws, z, _⟩ := q2; rw [hdd] at z; cases z
                      | true => obtain ⟨ws, o, z, _⟩ := q2; rw [hdd] at z; cases z
                    | nd lk ks =>
                      cases lk with
                      | false => obtain ⟨ws, z, _⟩ := q2; rw [hdd] at z; cases z
                      | true => obtain ⟨ws, o, z, _⟩ := q2; rw [hdd] at z; cases z
                  rw [upd_ne hne]
                  exact h2.nfx n b hb
                · by_cases hbd2 : b = dd
                  · subst hbd2
                    rw [upd_same] at hu
                    cases hu
                    exact hdd
                  · rw [upd_ne hbd2] at hu
                    exact h2.fxs b u hu
                · rw [hm]
                  intro v ρ2 H2 p2 t2 h3 r3
                  refine q v ρ2 H2 (p.trans p2) (t.trans t2) (h3.cg (fun n b hb => ?_) fun b u hu => ?_) r3.cg
                  · have z : upd fx dd (.xd vs) b = none := h3.nfx n b hb
                    by_cases hbd2 : b = dd
                    · rw [hbd2, upd_same] at z; cases z
                    · rw [upd_ne hbd2] at z; exact z
                  · by_cases hbd2 : b = dd
                    · subst hbd2
                      rw [key u hu]
                      exact h3.fxs b _ (show upd fx b (.xd vs) b = _ from upd_same)
                    · exact h3.fxs b u (show upd fx dd (.xd vs) b = _ by rw [upd_ne hbd2]; exact hu)
            | ex c2 fs2 L2 => rw [hm] at q; exact q.elim
            | bad => rw [hm] at q; exact q.elim
          · exact q.elim
        · subst hbf
          exact q σ' ρ' H' dx p t h2 e2 xr
    | nx ε' L' => rw [hbd] at q; exact q
    | rt d L' => rw [hbd] at q; exact q
    | bk ε' L' => rw [hbd] at q; exact q
    | ct ε' L' => rw [hbd] at q; exact q
    | bad => rw [hbd] at q; exact q
end Tw
end

section
set_option Elab.async false
set_option linter.all false
set_option maxRecDepth 100000
set_option maxHeartbeats 4000000
/-! Tw, part Xf: what a law's head says of own exceptions. -/
namespace Tw
open PySem PySem.Spec PyProof.Rows L2
def subL (l : List (Nat × Bool)) (c : Nat) : Option Bool := (l.find? fun p => p.1 == c).map (·.2)
theorem subL_ok {P : Nat → Bool → Prop} : ∀ {l : List (Nat × Bool)}, (∀ p ∈ l, P p.1 p.2) → ∀ c b, subL l c = some b → P c b
  | [], _, c, b, h => by cases h
  | p :: l, hp, c, b, h => by
    unfold subL at h
    rw [List.find?_cons] at h
    by_cases e : p.1 = c
    · have e' : (p.1 == c) = true := beq_iff_eq.mpr e
      rw [e'] at h
      cases h
      rw [← e]
      exact hp p List.mem_cons_self
    · have e' : (p.1 == c) = false := beq_eq_false_iff_ne.mpr e
      rw [e'] at h
      exact subL_ok (fun q hq => hp q (List.mem_cons_of_mem _ hq)) c b h
theorem all_nil {P : Nat → Bool → Prop} : ∀ p ∈ ([] : List (Nat × Bool)), P p.1 p.2 := fun p h => by cases h
theorem all_cons {P : Nat → Bool → Prop} {c : Nat} {b : Bool} {l : List (Nat × Bool)} (h : P c b) (hl : ∀ p ∈ l, P p.1 p.2) : ∀ p ∈ (c, b) :: l, P p.1 p.2 := fun p hp => by
  rcases List.mem_cons.mp hp with e | hp
  · rw [e]; exact h
  · exact hl p hp
theorem xs_nil {K : PySem.W.Frag} {cm : Nat → Addr} {u : Value} : ∀ p ∈ ([] : List (Nat × Bool)), ExcQ K (cm p.1) ∧ PySem.W.kitOne K (.ref (cm p.1)) u = some p.2 := fun p h => by cases h
theorem xs_cons {K : PySem.W.Frag} {cm : Nat → Addr} {u : Value} {c : Nat} {b : Bool} {l : List (Nat × Bool)} (h1 : ExcQ K (cm c)) (h2 : PySem.W.kitOne K (.ref (cm c)) u = some b) (hl : ∀ p ∈ l, ExcQ K (cm p.1) ∧ PySem.W.kitOne K (.ref (cm p.1)) u = some p.2) : ∀ p ∈ (c, b) :: l, ExcQ K (cm p.1) ∧ PySem.W.kitOne K (.ref (cm p.1)) u = some p.2 := fun p hp => by
  rcases List.mem_cons.mp hp with e | hp
  · rw [e]; exact ⟨h1, h2⟩
  · exact hl p hp
theorem xa_nil {K : PySem.W.Frag} {cm : Nat → Addr} {us : List Value} : ∀ p ∈ ([] : List (Nat × Bool)), ExcQ K (cm p.1) ∧ PySem.W.kitAny K (.ref (cm p.1)) us = some p.2 := fun p h => by cases h
theorem xa_cons {K : PySem.W.Frag} {cm : Nat → Addr} {us : List Value} {c : Nat} {b : Bool} {l : List (Nat × Bool)} (h1 : ExcQ K (cm c)) (h2 : PySem.W.kitAny K (.ref (cm c)) us = some b) (hl : ∀ p ∈ l, ExcQ K (cm p.1) ∧ PySem.W.kitAny K (.ref (cm p.1)) us = some p.2) : ∀ p ∈ (c, b) :: l, ExcQ K (cm p.1) ∧ PySem.W.kitAny K (.ref (cm p.1)) us = some p.2 := fun p hp => by
  rcases List.mem_cons.mp hp with e | hp
  · rw [e]; exact ⟨h1, h2⟩
  · exact hl p hp
theorem xm_nil {K : PySem.W.Frag} {cm : Nat → Addr} {u : Value} : ∀ p ∈ ([] : List (Nat × Bool)), PySem.W.exmOne K (.ref (cm p.1)) u = some p.2 := fun p h => by cases h
theorem xm_cons {K : PySem.W.Frag} {cm : Nat → Addr} {u : Value} {c : Nat} {b : Bool} {l : List (Nat × Bool)} (h2 : PySem.W.exmOne K (.ref (cm c)) u = some b) (hl : ∀ p ∈ l, PySem.W.exmOne K (.ref (cm p.1)) u = some p.2) : ∀ p ∈ (c, b) :: l, PySem.W.exmOne K (.ref (cm p.1)) u = some p.2 := fun p hp => by
  rcases List.mem_cons.mp hp with e | hp
  · rw [e]; exact h2
  · exact hl p hp
section
variable {X : Cx} {cm : Nat → Addr} {i : Nat} {W : WX}
/-- the caught exception's name, read -/
def NmE (X : Cx) (i : Nat) (n : Str) : Prop := X.N[i]? = some n ∧ Vis X.env.scope n ∧ (n == ("__debug__" : Str)) = false ∧ (n == ("__classdict__" : Str)) = false
theorem NmE.pe {n : Str} (h : NmE X i n) (a : Addr) (pn : List (Addr × Obj)) (p : Pos) : PE (X.suite a pn) (.Name n p) (tVar i) := pe_var (X := X.suite a pn) h.1 h.2.1 h.2.2.1 h.2.2.2
theorem su_isC {l : List (Nat × Bool)} {n T : Str} {c2 : Nat} {p p2 p3 pos : Pos} (hm : X.mg "isinstance" = none) (hmT : X.mg T = some (.ref (cm c2))) (hs : ∀ p ∈ l, ExcQ X.K (cm p.1) ∧ PySem.W.kitOne X.K (.ref (cm p.1)) (.ref (cm c2)) = some p.2) (hv : NmE X i n) (hgT : Gl X T := by rfl) (hdT : (T == ("__debug__" : Str)) = false := by decide) (hg : Gl X "isinstance" := by rfl)
    (he : starEach [.Name n p, .Name T p2] X.env = (false, eval (.Name n p) X.env) :: starEach [.Name T p2] X.env := by rfl) (he2 : starEach [.Name T p2] X.env = (false, eval (.Name T p2) X.env) :: starEach [] X.env := by rfl) (hpl : (backTo pos (starEach [.Name T p2] X.env)).any (·.1) = false := by rfl) :
    SuE X cm i (.Call (.Name "isinstance" p3) [.Name n p, .Name T p2] [] pos) (xIs (subL l)) :=
  su_is hm (fun a pn => pe_glob (X := X.suite a pn) hgT hmT (v := .ref (cm c2)) rfl hdT) (.own _) (subL_ok (P := fun c b => ExcQ X.K (cm c) ∧ PySem.W.kitOne X.K (.ref (cm c)) (.ref (cm c2)) = some b) hs) (fun a pn => hv.pe a pn p) hg he he2 hpl
theorem su_isB {l : List (Nat × Bool)} {n T : Str} {T2 : String} {p p2 p3 pos : Pos} (hm : X.mg "isinstance" = none) (hmT : X.mg T = none) (hbT : bootBuiltins T = some (.type T2)) (hs : ∀ p ∈ l, ExcQ X.K (cm p.1) ∧ PySem.W.kitOne X.K (.ref (cm p.1)) (.type T2) = some p.2) (hv : NmE X i n) (hgT : Gl X T := by rfl) (hdT : (T == ("__debug__" : Str)) = false := by decide) (hnT : T ≠ "__name__" := by decide) (hg : Gl X "isinstance" := by rfl)
    (he : starEach [.Name n p, .Name T p2] X.env = (false, eval (.Name n p) X.env) :: starEach [.Name T p2] X.env := by rfl) (he2 : starEach [.Name T p2] X.env = (false, eval (.Name T p2) X.env) :: starEach [] X.env := by rfl) (hpl : (backTo pos (starEach [.Name T p2] X.env)).any (·.1) = false := by rfl) :
    SuE X cm i (.Call (.Name "isinstance" p3) [.Name n p, .Name T p2] [] pos) (xIs (subL l)) :=
  su_is hm (fun a pn => pe_bltn (X := X.suite a pn) hgT hmT hbT (v := .ty T2) rfl hnT hdT) (.ty _) (subL_ok (P := fun c b => ExcQ X.K (cm c) ∧ PySem.W.kitOne X.K (.ref (cm c)) (.type T2) = some b) hs) (fun a pn => hv.pe a pn p) hg he he2 hpl
theorem su_isT3 {l : List (Nat × Bool)} {n T1 T2 T3 : Str} {c1 c2 c3 k : Nat} {p p2 p3 r1 r2 r3 pos : Pos} (hm : X.mg "isinstance" = none) (h1 : X.mg T1 = some (.ref (cm c1))) (h2 : X.mg T2 = some (.ref (cm c2))) (h3 : X.mg T3 = some (.ref (cm c3)))
    (hs : ∀ p ∈ l, ExcQ X.K (cm p.1) ∧ PySem.W.kitAny X.K (.ref (cm p.1)) [.ref (cm c1), .ref (cm c2), .ref (cm c3)] = some p.2) (hv : NmE X i n) (g1 : Gl X T1 := by rfl) (g2 : Gl X T2 := by rfl) (g3 : Gl X T3 := by rfl) (d1 : (T1 == ("__debug__" : Str)) = false := by decide) (d2 : (T2 == ("__debug__" : Str)) = false := by decide) (d3 : (T3 == ("__debug__" : Str)) = false := by decide) (hg : Gl X "isinstance" := by rfl)
    (s1 : starEach [.Name T1 r1, .Name T2 r2, .Name T3 r3] X.env = (false, eval (.Name T1 r1) X.env) :: starEach [.Name T2 r2, .Name T3 r3] X.env := by rfl) (s2 : starEach [.Name T2 r2, .Name T3 r3] X.env = (false, eval (.Name T2 r2) X.env) :: starEach [.Name T3 r3] X.env := by rfl) (s3 : starEach [.Name T3 r3] X.env = (false, eval (.Name T3 r3) X.env) :: starEach [] X.env := by rfl)
    (he : starEach [.Name n p, .Tuple [.Name T1 r1, .Name T2 r2, .Name T3 r3] k p2] X.env = (false, eval (.Name n p) X.env) :: starEach [.Tuple [.Name T1 r1, .Name T2 r2, .Name T3 r3] k p2] X.env := by rfl) (he2 : starEach [.Tuple [.Name T1 r1, .Name T2 r2, .Name T3 r3] k p2] X.env = (false, eval (.Tuple [.Name T1 r1, .Name T2 r2, .Name T3 r3] k p2) X.env) :: starEach [] X.env := by rfl) (hpl : (backTo pos (starEach [.Tuple [.Name T1 r1, .Name T2 r2, .Name T3 r3] k p2] X.env)).any (·.1) = false := by rfl) :
    SuE X cm i (.Call (.Name "isinstance" p3) [.Name n p, .Tuple [.Name T1 r1, .Name T2 r2, .Name T3 r3] k p2] [] pos) (xIs (subL l)) :=
  su_isT (cs := [.ref (cm c1), .ref (cm c2), .ref (cm c3)]) (us := [.ref (cm c1), .ref (cm c2), .ref (cm c3)]) hm
    (fun a pn => pa_cons (X := X.suite a pn) (pe_glob (X := X.suite a pn) g1 h1 (v := .ref (cm c1)) rfl d1) (pa_cons (X := X.suite a pn) (pe_glob (X := X.suite a pn) g2 h2 (v := .ref (cm c2)) rfl d2) (pa_cons (X := X.suite a pn) (pe_glob (X := X.suite a pn) g3 h3 (v := .ref (cm c3)) rfl d3) pa_nil s3) s2) s1)
    (.cons (.own _) (.cons (.own _) (.cons (.own _) .nil))) (show 3 ≤ sizeLine by decide) (subL_ok (P := fun c b => ExcQ X.K (cm c) ∧ PySem.W.kitAny X.K (.ref (cm c)) [.ref (cm c1), .ref (cm c2), .ref (cm c3)] = some b) hs) (fun a pn => hv.pe a pn p) hg he he2 hpl
theorem su_fldN {cF : Nat} {f : Str} {n : Str} {p pos : Pos} (T : XfC X.K (cm cF)) (hno : PySem.W.findIn X.K (.ref (cm cF)) f = some none) (hv : NmE X i n)
    (hb : attributeBase (.Name n p) f X.env (eval (.Name n p) X.env) = eval (.Name n p) X.env := by rfl) : SuE X cm i (.Attribute (.Name n p) f pos) (xFld cF f) := su_fld T hno (fun a pn => hv.pe a pn p) hb
end
/-- SM's words -/
def xPure (m : ME) : SM := fun _ _ => m
def xNil : SMA := fun _ _ => mNil
def xCons (a : SM) (r : SMA) : SMA := fun c fs => mCons (a c fs) (r c fs)
def xLst (r : SMA) : SM := fun c fs => mLst (r c fs)
def xTup (r : SMA) : SM := fun c fs => mTup (r c fs)
def xIfE (t : SMB) (a b : SM) : SM := fun c fs => mIfE (t c fs) (a c fs) (b c fs)
def xNotB (t : SMB) : SMB := fun c fs => mNotB (t c fs)
def xAndB (a b : SMB) : SMB := fun c fs => mAndB (a c fs) (b c fs)
def xTru (m : SM) : SMB := fun c fs => mTru (m c fs)
section
variable {prog : Program} {K : PySem.W.Frag} {C f cc cda : Addr} {qual f1 p1 f2 p2 nm qn : Str} {params : Arguments} {body : List Stmt} {scope : Scope} {dV kV doc pm ct oc cl ccl : Value} {an od cld cdd dd : Option Addr} {osl csl ccs vs0 : Array (Option Value)} {vs : Array Value} {file : Str} {tf : Tok}
  {N : Addr} {bs bm : List Value} {sn : List Str} {sub : List Value} {ab : Bool} {col : Option Bool} {k0 k1 k2 k3 k5 : Option Value} {q0 q1 q2 q3 q4 q5 q6 q7 q8 qa qb r5 r6 r7 r8 : Pos} {ar : Arg}
theorem exiC_mk (lk : K.lookup f = some ⟨oc, od, .func (PySem.W.ksFn "__init__" qual params body scope .none kV doc pm an (.ref cda) ct cc), osl⟩) (hcd : PySem.W.codeIn K (.ref cda) qual = true)
    (hcell : K.lookup cc = some ⟨cl, cld, .cell (some (.ref C)), csl⟩) (hcode : K.lookup cda = some ⟨ccl, cdd, .fields vs, ccs⟩) (hvs : vs[2]? = some (.str file tf)) (hfile : ((prog.main.file : Str) == file) = true)
    (hC : K.lookup C = some (excClassObj nm qn C N bs bm true sn sub ab col dd k0 k1 k2 k3 k5 "ValueError.__new__")) (hbm : PySem.HandSPX.refsVE bm = true) (sa : PySem.W.findIn K (.ref C) "__setattr__" = some (some (.builtin "object.__setattr__")))
    (exC : PySem.W.subIn K (.ref C) (.type "BaseException") = some true) (tyC : PySem.W.typeIn K (.ref C) = some (.type "type")) (kC : PySem.W.keepIn K (.ref C) = true) (ini : PySem.W.findIn K (.ref C) "__init__" = some (some (.ref f))) (tyf : PySem.W.typeIn K (.ref f) = some (.type "function"))
    (sup : PySem.W.ks_superIn K C C "__init__" = some (some (.builtin "ValueError.__init__"))) (subV : PySem.W.subIn K (.ref C) (.type "ValueError") = some true) (selfC : PySem.W.mroIn K C (.ref C) = some true) (opq : PySem.W.nsIn K cStatics "thirdparty.any" = some none) :
    TwX.ExiC prog K C f params body scope :=
  ⟨⟨⟨nm, qn, N, bs, bm, sn, sub, ab, col, dd, k0, k1, k2, k3, k5, hC, hbm⟩, sa, exC, tyC, kC⟩, ini, tyf, ⟨qual, kV, doc, pm, ct, oc, an, od, osl, cc, cda, lk, hcd, ⟨cl, cld, csl, hcell⟩, ccl, cdd, vs, ccs, file, tf, hcode, hvs, hfile⟩, sup, subV, selfC, opq⟩
end
end Tw
end

section
set_option Elab.async false
set_option linter.all false
set_option maxRecDepth 100000
set_option maxHeartbeats 1000000
/-! Tw, part Xg: repr of a list of one empty dict. -/
namespace Tw
open PySem PySem.Spec L2
open PyProof.Rows (envOfC)
variable {g : Gx} {ρ ρ' : List Addr} {H H' : Hp} {X : Cx} {W : WX} {L : List O} {cm : Nat → Addr} {fx : Hp}
/-- a list of one empty dict -/
def oneE (L : List O) : D → Bool
  | .ref k => match L[k]? with
    | some (.lst [.ref j]) => match L[j]? with
      | some (.dic _ []) => true
      | _ => false
    | _ => false
  | _ => false
theorem oneE_of {x : D} (h : oneE L x = true) : ∃ k j lk, x = .ref k ∧ L[k]? = some (.lst [.ref j]) ∧ L[j]? = some (.dic lk []) := by
  unfold oneE at h
  split at h
  · split at h
    · split at h
      · rename_i k _ j h1 _ lk h2
        exact ⟨_, _, _, rfl, h1, h2⟩
      · cases h
    · cases h
  · cases h
def emptyT : Str := (PyData.list [.dict []]).shown
theorem emptyT_len : emptyT.length = 4 := by decide +kernel
/-- repr, of a list of one empty dict, too -/
def cReprE : OC := fun ds L => match ds with
  | [x] => if oneE L x = true then some (.str emptyT, L) else cRepr [x] L
  | _ => none
theorem reads_emp {h : Heap} {b : Addr} {o : Obj} {ep : Nat} (ho : h.get? b = some o) (hc : o.cls = .type "dict") (hd : o.data = .dict #[] ep) : Reads h (.ref b) (.dict []) [b] :=
  Reads.dict (as := []) (bs := []) ho hc hd .nil .nil
theorem c_reprE (hg : X.A.guards = some []) (hu : X.A.units + 65 < cLine) : CallR X (.builtin "repr") (rC ⟨X.K, cm, fx, X.w⟩ cReprE) := by
  intro pins s σ H xs us Q I r q
  obtain ⟨ρ, L, ds, hh, rr, q⟩ := q
  unfold cReprE at q
  split at q
  · rename_i x
    split at q
    · rename_i hz
      obtain ⟨k, j, lk, rfl, e1, e2⟩ := oneE_of hz
      obtain ⟨v, rfl, rv⟩ := rr.one
      obtain ⟨u, rfl, ru⟩ := r.one
      cases rv with
      | ref ea =>
      rename_i a
      obtain ⟨vs, hv, hvs⟩ := hh.lst e1 ea
      obtain ⟨w1, rfl, rw1⟩ := hvs.one
      cases rw1 with
      | ref eb =>
      rename_i b
      obtain ⟨ws, hr, kr⟩ := hh.dic e2 eb
      cases kr
      obtain ⟨_, hne, ks, kv, dd⟩ := dk_rd I.hok hr
      cases kv
      obtain ⟨its, rv2, ⟨o, n, ho, hc, _, hd⟩, _⟩ := I.list (.inl (.inl hv))
      obtain ⟨u2, rfl, ru2⟩ := rv2.one
      cases ru
      cases ru2
      obtain ⟨o2, es, ep, ho2, ⟨hc2, _, _⟩, hd2, _, hps, _⟩ := dd
      have hes : es = #[] := by
        have : es.toList = [] := by
          generalize es.toList = l at hps
          cases hps
          rfl
        exact Array.toList_eq_nil_iff.mp this
      subst hes
      have rd := reads_emp ho2 hc2 hd2
      have hbn : b ≠ sysModules := fun z => by rw [z] at hne; cases hne
      have hz4 : emptyT.length ≤ sizeLine := by rw [emptyT_len]; decide
      obtain ⟨bs, hbs, hk⟩ := ReprAllK.of_readsAll (prog := X.prog) (w := X.w) (vs := [.ref b]) (ds := [.dict []]) (ReadsAll.cons rd .nil) (by decide) (fun _ hm => by
        rcases List.mem_append.mp hm with hm | hm
        · exact hbn (List.mem_singleton.mp hm).symm
        · cases hm) (fun t ht => Nat.le_trans (listText_mem_le ht) hz4)
      have rl : Reads s.heap (.ref a) (.list [.dict []]) _ := Reads.list ho hc hd (ReadsAll.cons rd .nil)
      have hna : a ∉ bs := not_mem_of_deeper rl (by decide) hbs
      have hQ : Q (.str emptyT) H := q.same hh (.str _)
      refine call_repr_slot (by omega) ⟨o, ho, hc⟩ F.slot_list_repr.toG ?_
      have hdp : PyData.depthAll [.dict []] ≤ 2 := by decide
      exact call_list_reprK (l := []) (na := n) ho hc hd hna (by simpa using hk.length_eq) (fun i y e => hk.item i y (by simpa using e)) hg (fun b _ => Clear.nil b) (by show X.A.units + 1 + _ < cLine; omega) (fun _ _ e => e)
        (fun h' u tk hk => ⟨_, _, rfl, .str emptyT, H, I.kept (t' := tk) hk, ⟨_, rfl⟩, hQ⟩) hz4
    · exact c_repr (cm := cm) (fx := fx) hg hu pins s σ H xs us Q I r ⟨ρ, L, _, hh, rr, q⟩
  · exact q.elim
end Tw
end

section
set_option Elab.async false
set_option linter.all false
set_option maxRecDepth 100000
set_option maxHeartbeats 4000000
/-! Tw, part Xh: a list comprehension while an exception is handled. -/
namespace L2
open PySem PySem.Spec PyProof.Rows L2H
/-- the block's context, the handled exception held -/
abbrev Cx.blkP (X : Cx) (s : Shared) (H : Hp) (scope : Scope) (cenv : Env) (fp : List Addr) (p : Addr × Obj) : Cx := { X with s_0 := s, H_0 := H, env := cenv, outer := X.stack, ex := fp, fn := fun x => scope.names.lookup x == some .cell, pn := [p], xe := fun _ _ => False }
section
variable {X : Cx} {pins : List (Addr × Obj)} {σ : L2.St} {H : Hp} {s : Shared}
theorem Inv.toP {scope : Scope} {cenv : Env} {fp : List Addr} {p : Addr × Obj} {s0 : Shared} {H0 : Hp} (I : Inv (X.blk s0 H0 scope cenv fp) [] σ H s) (hp : s.heap.get? p.1 = some p.2 ∧ H p.1 = none ∧ p.1 ≠ cenv.locals ∧ p.1 ∉ frs X.stack ∧ ∀ v, p.2.data ≠ .cell v) : Inv (X.blkP s0 H0 scope cenv fp p) [] σ H s :=
  ⟨⟨I.ok.mod, I.ok.kind, I.ok.glob, I.ok.blt, I.ok.above, I.ok.inj, I.ok.has, I.ok.cab, I.ok.hd, I.ok.frames, I.ok.stk, I.ok.exf, I.ok.bs, I.ok.bsz, I.ok.noex, I.ok.exfs, I.ok.funs, I.ok.frf⟩, I.os, I.bare, I.base, I.loc, I.cell, I.free, I.freeC, fun q hq => by
    have e : q = p := by simpa using (show q ∈ [p] ++ ([] : List (Addr × Obj)) from hq)
    rw [e]
    exact hp, I.hok, I.len⟩
theorem lc_coreH {Q : VK} {elt tg iter : Expr} {ifs : List Expr} {scope : Scope} {own : List (Str × Nat)} {pos pos' : Pos} {wi : TI} {g : TG} {tt : TT} {te : TE} {use : Option (Value → Sem Unit)} {Qf : Value → Shared → Prop}
    (hot : HotC X) (hN : X.N.Nodup) (I : Inv X pins σ H s) (hi : PIH X tg iter wi) (ok : BlkOk X.N X.env.scope scope own)
    (hg : ∀ (s : Shared) (H : Hp) (C : Addr) (cl : List (Str × Addr)) (fp : List Addr) (p : Addr × Obj), PG (X.blkP s H scope (compEnvC scope cl C X.env) fp p) tg g) (ht : ∀ (s : Shared) (H : Hp) (C : Addr) (cl : List (Str × Addr)) (fp : List Addr) (p : Addr × Obj), PTs (X.blkP s H scope (compEnvC scope cl C X.env) fp p) ifs tt)
    (he : ∀ (s : Shared) (H : Hp) (C : Addr) (cl : List (Str × Addr)) (fp : List Addr) (p : Addr × Obj), PE (X.blkP s H scope (compEnvC scope cl C X.env) fp p) elt te) (hs : ∀ x, foldedSetIterable iter X.env x = pure x)
    (h : tLc wi g tt te (own.map (·.2)) σ H Q)
    (hRR : ∀ D C s' m H', Inv X pins σ H' s' → Q (.ref D) H' → s'.heap.Ns C m → FpOk X pins H' C → compPost (model X.prog X.w) X.A X.xe use Qf (.ref D) C (.ok .next) s') :
    wpAny (model X.prog X.w) X.A (comprehension (.ListComp elt [⟨tg, iter, ifs, 0⟩] scope pos) scope X.env pos' (newList []) false (eval iter X.env) use) Qf X.xe s := by
  obtain ⟨p, hot1, hpn⟩ := hot
  have hfree : ∀ y ∈ scope.names, y.2 = .free → ∃ c, X.env.cells.lookup y.1 = some c := fun y hy e => by
    rcases ok.free y hy e with k | k
    · exact I.ok.has _ (.inl k)
    · exact I.ok.has _ (.inr k)
  refine wpAny_comprehension_free (use := use) rfl hs (closure_ok hfree) ok.kind (fun y hy e => by rw [ok.uniq y hy, e])
    (thn (hi.run pins s σ H _ I h) fun xv s1 hx => thn hx fun itv s2 h2 => ?_)
  obtain ⟨it, fp, tn, J, H2, e, I2, T, st2, f2, q⟩ := h2
  subst e
  refine wpAny_newObj_type (newEnv_comp ?_) (by show 0 ≤ sizeLine; decide)
  generalize hD : s2.heap.objs.size = D
  have hDn : H2 D = none := I2.hok.fresh (Nat.le_of_eq hD)
  obtain ⟨W, ⟨m0, w0⟩, turn⟩ := q D hDn
  -- the new list
  generalize hs3 : ({ s2 with heap := s2.heap.push { cls := .type "list", data := .seq ([] : List Value).toArray } } : Shared) = s3
  have I3 : Inv X pins σ (upd H2 D (.lst [])) s3 := by
    rw [← hs3]
    refine I2.laid (t' := s2.toks) (fun b o e => Heap.get?_push_of_some _ e) (Nat.le_of_eq hD) ⟨Nat.zero_le _, [], 0, .nil, ?_⟩
    rw [← hD]
    exact Heap.get?_push_size _ rfl
  have h3 : s3.heap = s2.heap.push { cls := .type "list", data := .seq ([] : List Value).toArray } := by rw [← hs3]
  have sz : ∀ b ∈ fp, b < s2.heap.objs.size := fun b hb => by
    obtain ⟨o, e, _⟩ := T.obj _ _ st2 b hb
    exact Heap.lt_size e
  have f3 : ∀ b ∈ fp, FpOk X pins (upd H2 D (.lst [])) b ∧ b < s3.heap.objs.size := fun b hb => by
    have hlt := sz b hb
    refine ⟨⟨?_, (f2 b hb).2⟩, by rw [h3, Heap.size_push]; exact Nat.lt_succ_of_lt hlt⟩
    rw [upd_ne (by rw [← hD]; exact Nat.ne_of_lt hlt)]
    exact (f2 b hb).1
  have st3 : tn 0 s3.heap := T.keep _ _ _ st2 fun b _ o e => by rw [h3]; exact Heap.get?_push_of_some _ e
  have P3 := I3.pin p (List.mem_append_left _ hpn)
  have I40 := block_start I3 ok hN f3
  have kp : ∀ b o, s3.heap.get? b = some o → (pushCells (s3.heap.push { cls := .type "dict", data := .dict #[] }) scope.names).get? b = some o := fun b o e => pushCells_keeps _ _ _ _ (Heap.get?_push_of_some _ e)
  have I4 := I40.toP (p := p) ⟨kp _ _ P3.1, P3.2.1, Nat.ne_of_lt (Heap.lt_size P3.1), fun hm => (List.mem_cons.mp (I3.stkSub p.1 hm)).elim P3.2.2.1 P3.2.2.2.1, P3.2.2.2.2⟩
  have pg := hg s3 (upd H2 D (.lst [])) s3.heap.objs.size (cellsFrom (s3.heap.objs.size + 1) scope.names (cloFrom X.env.cells scope.names [])) fp p
  have pt := ht s3 (upd H2 D (.lst [])) s3.heap.objs.size (cellsFrom (s3.heap.objs.size + 1) scope.names (cloFrom X.env.cells scope.names [])) fp p
  have pe := he s3 (upd H2 D (.lst [])) s3.heap.objs.size (cellsFrom (s3.heap.objs.size + 1) scope.names (cloFrom X.env.cells scope.names [])) fp p
  show codeAny _ _ (.compStart (.ListComp elt [⟨tg, iter, ifs, 0⟩] scope pos) 0 (.ref it) (.ref D) (compEnvC scope (cellsFrom (s3.heap.objs.size + 1) scope.names (cloFrom X.env.cells scope.names [])) s3.heap.objs.size X.env)) (compPost (model X.prog X.w) X.A X.xe use Qf (.ref D) s3.heap.objs.size) { s3 with heap := pushCells (s3.heap.push { cls := .type "dict", data := .dict #[] }) scope.names }
  have nfp : ∀ b ∈ fp, (upd H2 D (.lst [])) b = none := fun b hb => (f3 b hb).1.1
  have npf : ∀ b ∈ fp, p.1 ≠ b := fun b hb => (f3 b hb).1.2.2.2.2.2 p (List.mem_append_left _ hpn)
  generalize hce : compEnvC scope (cellsFrom (s3.heap.objs.size + 1) scope.names (cloFrom X.env.cells scope.names [])) s3.heap.objs.size X.env = ce at I4 pg pt pe ⊢
  have cL : ce.locals = s3.heap.objs.size := by subst hce; rfl
  generalize hH3 : upd H2 D (.lst []) = H3 at I3 I4 pg pt pe w0 nfp f3
  generalize hs4 : ({ s3 with heap := pushCells (s3.heap.push { cls := .type "dict", data := .dict #[] }) scope.names } : Shared) = s4 at I4 ⊢
  have st4 : tn 0 s4.heap := T.keep _ _ _ st3 fun b _ o e => by rw [← hs4]; exact pushCells_keeps _ _ _ _ (Heap.get?_push_of_some _ e)
  have hotB : HotC (X.blkP s3 H3 scope ce fp p) := ⟨p, hot1, List.mem_cons_self⟩
  have stat : ∀ {σ' : L2.St} {H' : Hp} {s' : Shared}, Inv (X.blkP s3 H3 scope ce fp p) [] σ' H' s' → (∀ b ∈ fp, H' b = none) → ∀ b ∈ fp, FpOk (X.blkP s3 H3 scope ce fp p) [] H' b := fun {σ' H' s'} I' hn b hb =>
    ⟨hn b hb, (I'.ok.exf b hb).1, I'.ok.exfs b hb, .inl hb, fun x c e => (I'.ok.exf b hb).2 x c e, fun q hq => by
      have e : q = p := by simpa using (show q ∈ [p] ++ ([] : List (Addr × Obj)) from hq)
      rw [e]
      exact npf b hb⟩
  have loop : codeAny (model X.prog X.w) X.A (.compLoop (.ListComp elt [⟨tg, iter, ifs, 0⟩] scope pos) 0 (.ref it) (.ref D) ce) (compPost (model X.prog X.w) X.A X.xe use Qf (.ref D) s3.heap.objs.size) s4 := by
    refine compLoop_any (fun n s' => ∃ i H', Inv (X.blkP s3 H3 scope ce fp p) [] (wipe σ (own.map (·.2))) H' s' ∧ tn i s'.heap ∧ (∀ b ∈ fp, H' b = none) ∧ W i n H') ?_ m0 ⟨0, H3, I4, st4, nfp, w0⟩
    rintro n s5 ⟨i, H5, I5, st5, n5, w5⟩
    rcases turn i n H5 w5 with ⟨stop, qq⟩ | ⟨go, Nx, hNx, step⟩
    · have td := T.done (X.blkP s3 H3 scope ce fp p) rfl rfl rfl hotB i [] s5 _ H5 (fun _ _ => False) I5 (stat I5 n5) st5 stop
      refine thnF td fun r s6 ⟨hr, I6⟩ => ?_
      subst hr
      -- back in the def's context
      have I7 : Inv X pins σ H5 s6 := I3.call' (ch := fp) I6.os I6.base I6.hok I6.bare fun b hb => ⟨(f3 b hb).1.2.2.2.1, (f3 b hb).1.2.1, (f3 b hb).1.2.2.2.2.1, (f3 b hb).1.2.2.2.2.2⟩
      have nC : H5 s3.heap.objs.size = none := by
        have z : H5 ce.locals = none := I6.free
        rw [cL] at z
        exact z
      obtain ⟨m, hn, _⟩ := I6.loc
      have hn : s6.heap.Ns ce.locals m := hn
      rw [cL] at hn
      exact hRR D s3.heap.objs.size s6 m H5 I7 qq hn (I3.fpOk (Nat.le_refl _) nC)
    · have ti := T.item (X.blkP s3 H3 scope ce fp p) rfl rfl rfl hotB i [] s5 _ H5 (fun _ _ => False) I5 (stat I5 n5) st5 go
      refine thnF ti fun r s6 ⟨u, hr, h6⟩ => ?_
      subst hr
      refine thnF h6 fun _ s7 ⟨x, H7, I7, r7, y7, st7, n7⟩ => ?_
      have I7' := I7.pinned (stat I7 n7) (T.obj _ _ st7)
      refine thnF (pg.run _ s7 _ H7 x u _ I7' r7 (step x H7 y7)) fun _ s8 ⟨σ8, H8, I8, hw8, q8⟩ => ?_
      refine thnF (pt.run _ s8 σ8 H8 _ I8 q8) fun b s9 ⟨H9, I9, q9⟩ => ?_
      -- the turn's end
      have fin : ∀ {s' : Shared} {H' : Hp}, Inv (X.blkP s3 H3 scope ce fp p) ([] ++ pinsAt fp s7.heap) σ8 H' s' → Nx H' → ∃ m, m < n ∧ ∃ i H', Inv (X.blkP s3 H3 scope ce fp p) [] (wipe σ (own.map (·.2))) H' s' ∧ tn i s'.heap ∧ (∀ b ∈ fp, H' b = none) ∧ W i m H' := fun {s' H'} I' nx => by
        obtain ⟨m', hm, w'⟩ := hNx H' nx
        have pin' : ∀ b ∈ fp, ∀ o, s7.heap.get? b = some o → s'.heap.get? b = some o ∧ H' b = none := fun b hb o e =>
          let z := I'.pin (b, o) (List.mem_append_right _ (List.mem_append_right _ (mem_pinsAt hb e)))
          ⟨z.1, z.2.1⟩
        have hl : (wipe σ (own.map (·.2))).length = σ8.length := by rw [← hw8, wipe_length]
        refine ⟨m', hm, i + 1, H', (I'.unpinned (pins := [])).weak hl (fun j v e => ?_), T.keep _ _ _ st7 fun b hb o e => (pin' b hb o e).1, fun b hb => ?_, w'⟩
        · rw [← hw8] at e
          exact (wipe_some e).1
        · obtain ⟨o, e, _⟩ := T.obj _ _ st7 b hb
          exact (pin' b hb o e).2
      cases b with
      | false =>
        simp only [Bool.false_eq_true, if_false] at q9 ⊢
        exact fin I9 q9
      | true =>
        simp only [if_true] at q9 ⊢
        refine thnF (pe.run _ s9 σ8 H9 _ I9 q9) fun z s10 ⟨yv, H10, I10, r10, acc, hD10, hz10, nx⟩ => ?_
        exact app_ok (X := X.blkP s3 H3 scope ce fp p) I10 hD10 hz10 r10 fun s11 I11 => fin I11 nx
  exact codeAny_compStart_list loop (T.self X.A 0 _ _ _ st4 loop)
theorem pe_lcH {elt tg iter : Expr} {ifs : List Expr} {scope : Scope} {own : List (Str × Nat)} {pos : Pos} {wi : TI} {g : TG} {tt : TT} {te : TE} (hot : HotC X) (hN : X.N.Nodup) (hi : PIH X tg iter wi) (ok : BlkOk X.N X.env.scope scope own)
    (hg : ∀ (s : Shared) (H : Hp) (C : Addr) (cl : List (Str × Addr)) (fp : List Addr) (p : Addr × Obj), PG (X.blkP s H scope (compEnvC scope cl C X.env) fp p) tg g) (ht : ∀ (s : Shared) (H : Hp) (C : Addr) (cl : List (Str × Addr)) (fp : List Addr) (p : Addr × Obj), PTs (X.blkP s H scope (compEnvC scope cl C X.env) fp p) ifs tt)
    (he : ∀ (s : Shared) (H : Hp) (C : Addr) (cl : List (Str × Addr)) (fp : List Addr) (p : Addr × Obj), PE (X.blkP s H scope (compEnvC scope cl C X.env) fp p) elt te) (hs : ∀ x, foldedSetIterable iter X.env x = pure x := by intro _; rfl) :
    PE X (.ListComp elt [⟨tg, iter, ifs, 0⟩] scope pos) (tLc wi g tt te (own.map (·.2))) := by
  refine ⟨fun pins s σ H Q I h => ?_⟩
  rw [eval_ListComp]
  refine lc_coreH hot hN I hi ok hg ht he hs h fun D C s' m H' I' q hn f => ⟨m, hn, fun h'' sb => ?_⟩
  obtain ⟨f0, f1, f2, f3, f4, f5⟩ := f
  exact ⟨.ref D, H', I'.turned (t' := s'.toks) (fun b o hb e => (sb.2 b hb).trans e) f0 f1 f3 f4 f5, rfl, q⟩
end
end L2
end

section
set_option Elab.async false
set_option linter.all false
set_option maxRecDepth 100000
set_option maxHeartbeats 4000000
/-! Tw, part Xi: a def that is called with the handled exception. -/
namespace Tw
open PySem PySem.Spec PyProof.Rows L2 L2H
/-- the exception at hand as a value of the def: the class value of this number -/
def hotN : Nat := 1000
def cmU (cm : Nat → Addr) (a : Addr) : Nat → Addr := fun n => if n = hotN then a else cm n
/-- p: an exception of the class c, its dict tracked -/
structure HotX (cm : Nat → Addr) (fx : Hp) (p : Addr × Obj) (c : Nat) : Prop where
  zn : ∃ d, Zc (.ref (cm c)) d p.2 ∧ (d = none ∨ ∃ dd vs, d = some dd ∧ fx dd = some (.xd vs))
  fl : ∃ vs, p.2.data = .fields vs
section
variable {P : Program} {w : World} {K : PySem.W.Frag} {mg : Str → Option Value} {base : Heap} {cm : Nat → Addr}
abbrev cxX (P : Program) (w : World) (K : PySem.W.Frag) (mg : Str → Option Value) (base : Heap) (N : List Str) (qual : Str) (sc : Scope) (f : Addr) (cdv : Value) (A : Around) (outer : List Env) (s : Shared) (H : Hp) (E : XK) (p : Addr × Obj) : Cx := cxH (L2N.CX P w) P w K mg base N qual sc f cdv A outer s H E p
def BodyOkX (P : Program) (w : World) (K : PySem.W.Frag) (mg : Str → Option Value) (base : Heap) (cm : Nat → Addr) (N : List Str) (qual : Str) (sc : Scope) (f : Addr) (body : List Stmt) (k : Nat) (m : Nat → MS) : Prop :=
  ∀ (c : Nat) (p : Addr × Obj) (fx : Hp) (cdv : Value) (A : Around) (outer : List Env) (s : Shared) (H : Hp) (E : XK), HotX cm fx p c → HotC (cxX P w K mg base N qual sc f cdv A outer s H E p) → RoomH k (A.deeper (envOfC qual sc s.heap.objs.size f cdv)) →
    PSs (cxX P w K mg base N qual sc f cdv A outer s H E p) body (tMS ⟨K, cmU cm p.1, fx, w⟩ (WF E) (m c))
def spX (w : World) (K : PySem.W.Frag) (cm : Nat → Addr) (n : Nat) (F : Nat → FS) (p : Addr × Obj) : Sp := fun vs H Q E => vs.length = n ∧ ∃ c fx ρ L ds, HotX cm fx p c ∧ HR ⟨K, cmU cm p.1, fx, w⟩ ρ L H ∧ VRs ⟨K, cmU cm p.1, fx, w⟩ ρ H ds vs ∧ LfF ⟨K, cmU cm p.1, fx, w⟩ ρ H (F c ds L) Q E
structure FnX (P : Program) (w : World) (K : PySem.W.Frag) (mg : Str → Option Value) (base : Heap) (cm : Nat → Addr) (k : Nat) (f : Addr) (fd : FuncData) (ps : List Str) (F : Nat → FS) : Prop where
  run : ∀ (A : Around) (outer : List Env) (s : Shared) (H : Hp) (args : Args) (us : List Value) (vs : List V) (Q : VK) (E : XK) (p : Addr × Obj), RoomH k A → Hot1 A p → PinOk outer H s p → Env0 P w K mg base A outer s H → BindsTo s fd args (ps.zip us) → Vals vs us → spX w K cm ps.length F p vs H Q E →
    codeAny (model P w) A (.call (.ref f) args) (CR (L2N.CX P w) outer P w H s Q E) s
theorem bodyX_run {N ps : List Str} {qual : Str} {sc : Scope} {f : Addr} {body : List Stmt} {k : Nat} {m : Nat → MS} (h : BodyOkX P w K mg base cm N qual sc f body k m) (hN : ps.length ≤ N.length) (cdv : Value) (A : Around) (outer : List Env) (s : Shared) (H : Hp) (vs : List V) (Q : VK) (E : XK) (p : Addr × Obj)
    (hot : Hot1 A p) (hr : RoomH k (A.deeper (envOfC qual sc s.heap.objs.size f cdv))) (hsp : spX w K cm ps.length (fun c => runF ps.length N.length (m c)) p vs H Q E) :
      ∃ t, PSs (cxX P w K mg base N qual sc f cdv A outer s H E p) body t ∧ t { nx := fun _ H' => Q .non H', rt := Q } (L2.start N vs) H := by
  obtain ⟨hl, c, fx, ρ, L, ds, hx, hh, r, q⟩ := hsp
  refine ⟨_, h c p fx cdv A outer s H E hx ⟨p, hot, List.mem_cons_self⟩ hr, ?_⟩
  have q : LfF ⟨K, cmU cm p.1, fx, w⟩ ρ H (runF ps.length N.length (m c) ds L) Q E := q
  unfold runF at q
  have hd : ds.length = ps.length := r.length.trans hl
  rw [if_pos hd] at q
  have he := ER.begin r N
  rw [hd] at he
  refine ⟨_, ρ, L, he, hh, ?_⟩
  cases hm : m c (ds.map some ++ List.replicate (N.length - ps.length) none) L with
  | nx ε' L' => rw [hm] at q; exact fun σ' ρ' H' p t a b => q .non ρ' H' p t a .non
  | rt d L' => rw [hm] at q; exact q
  | bk ε' L' => rw [hm] at q; exact q.elim
  | ct ε' L' => rw [hm] at q; exact q.elim
  | ex c fs ε' L' => rw [hm] at q; exact fun σ' ρ' H' dx p t a b x => q ρ' H' dx p t a x
  | bad => rw [hm] at q; exact q.elim
theorem fnX_ok {x qual : Str} {st : Stmt} {f : Addr} {fd : FuncData} {N ps : List Str} {k : Nat} {m : Nat → MS} (F : Fun K x qual st f fd) (S : FnScope N ps (defScope st)) (h : BodyOkX P w K mg base cm N qual (defScope st) f (defBody st) k m) (hN : ps.length ≤ N.length := by decide) :
    FnX P w K mg base cm (k + 1) f fd ps (fun c => runF ps.length N.length (m c)) := by
  obtain ⟨oc, od, kV, doc, pm, an, cdv, ct, osl, rfl, lk, hcd⟩ := F.ex
  refine ⟨fun A outer s H args us vs Q E p hr hot hpin e0 hb r hsp => ?_⟩
  have hl : vs.length = ps.length := hsp.1
  have KX : K.In s.heap := e0.mod.kin.keeps fun b o e => (e0.bs b o e).1
  have lim : s.heap.NoLimit := e0.mod.nolimit.keeps fun b o e => (e0.bs b o e).1
  have hkind : ∀ y ∈ ps.zip us, (defScope st).names.lookup y.1 = some .local ∨ ((defScope st).names.lookup y.1 = some .cell ∧ ((cellsFrom (s.heap.objs.size + 1) (defScope st).names []).lookup y.1).isSome = true) := fun ⟨n, v⟩ hy => by
    rcases S.par n (List.of_mem_zip hy).1 with q | q
    · exact .inl q
    · exact .inr ⟨q, PySem.W.cellsFrom_some _ _ _ (.inl q)⟩
  refine codeAny_call_function hr.depth (KX _ _ lk) rfl S.co S.gen rfl (PySem.W.codeRec_of KX hcd) (hb _ _ _ _ ?_)
  refine wpAny_newFunctionEnv_cells S.kind hkind fun env he s1 x => ?_
  subst he
  refine ⟨lim.keeps x.toInCall.keep, codeAny_func ?_⟩
  obtain ⟨t, ht, hq⟩ := bodyX_run h hN cdv A outer s H vs Q E p hot (hr.deeper _) hsp
  have I : Inv (cxX P w K mg base N qual (defScope st) f cdv A outer s H E p) [] (L2.start N vs) H s1 := inv_startH S hpin e0 hl r x
  refine wpAny_mono (ht.run [] s1 (L2.start N vs) H _ I hq) (fun fl s' hs => ?_) fun e s' hs => hs
  have fin : ∀ {σ' : L2.St} {H' : Hp} {v : V} {u : Value}, Inv (cxX P w K mg base N qual (defScope st) f cdv A outer s H E p) [] σ' H' s' → RelV v u → Q v H' → CE outer P w H s Q u s' :=
    fun {σ' H' v u} J rv q => ⟨v, H', J.os, J.bare, J.base, J.hok, rv, q⟩
  cases fl with
  | ret u =>
    obtain ⟨v, σ', H', J, rv, q⟩ := hs
    exact fin J rv q
  | next =>
    obtain ⟨σ', H', J, q⟩ := hs
    exact fin (v := V.non) (u := Value.none) J rfl q
  | brk =>
    obtain ⟨_, _, _, q⟩ := hs
    exact False.elim q
  | cont =>
    obtain ⟨_, _, _, q⟩ := hs
    exact False.elim q
/-- such a def by its global name -/
structure FXI (P : Program) (w : World) (K : PySem.W.Frag) (mg : Str → Option Value) (base : Heap) (cm : Nat → Addr) (x : Str) (k n : Nat) (F : Nat → FS) : Prop where
  ex : ∃ (f : Addr) (fd : FuncData) (ps : List Str), mg x = some (.ref f) ∧ PySem.W.keepIn K (.ref f) = true ∧ Binds K fd ps [] ∧ ps.length = n ∧ FnX P w K mg base cm k f fd ps F
end
/-! ### its call in an except suite -/
mutual
/-- data that speak of no place and no class -/
def plainD : D → Bool
  | .non => true
  | .bl _ => true
  | .int _ => true
  | .str _ => true
  | .tup ds => plainDs ds
  | .rol _ => false
  | .ref _ => false
  | .cls _ => false
  | .ty _ => false
def plainDs : List D → Bool
  | [] => true
  | d :: ds => plainD d && plainDs ds
end
section
variable {K : PySem.W.Frag} {cm cm' : Nat → Addr} {fx fx' : Hp} {w : World} {ρ ρ' : List Addr} {H : Hp}
mutual
theorem VR.plain' : ∀ (d : D) (v : V), plainD d = true → VR ⟨K, cm, fx, w⟩ ρ H d v → VR ⟨K, cm', fx', w⟩ ρ' H d v
  | .non, _, _, r => by cases r; exact .non
  | .bl b, _, _, r => by cases r; exact .bl b
  | .int i, _, _, r => by cases r; exact .int i
  | .str x, _, _, r => by cases r; exact .str x
  | .ref _, _, h, _ => by cases h
  | .cls _, _, h, _ => by cases h
  | .ty _, _, h, _ => by cases h
  | .rol _, _, h, _ => by cases h
  | .tup ds, _, h, r => by
    cases r with
    | tup s r => exact .tup s (VRs.plain' ds _ (by simpa [plainD] using h) r)
theorem VRs.plain' : ∀ (ds : List D) (vs : List V), plainDs ds = true → VRs ⟨K, cm, fx, w⟩ ρ H ds vs → VRs ⟨K, cm', fx', w⟩ ρ' H ds vs
  | [], _, _, r => by cases r; exact .nil
  | d :: ds, _, h, r => by
    simp only [plainDs, Bool.and_eq_true] at h
    cases r with
    | cons r t => exact .cons (VR.plain' d _ h.1 r) (VRs.plain' ds _ h.2 t)
end
end
section
variable {K : PySem.W.Frag} {cm cm' : Nat → Addr} {fx fx' : Hp} {w : World} {ρ ρ' : List Addr} {H : Hp}
theorem VR.plain {d : D} {v : V} (h : plainD d = true) (r : VR ⟨K, cm, fx, w⟩ ρ H d v) : VR ⟨K, cm', fx', w⟩ ρ' H d v := VR.plain' d v h r
theorem VRs.plain {ds : List D} {vs : List V} (h : plainDs ds = true) (r : VRs ⟨K, cm, fx, w⟩ ρ H ds vs) : VRs ⟨K, cm', fx', w⟩ ρ' H ds vs := VRs.plain' ds vs h r
end
variable {X : Cx} {cm : Nat → Addr} {i : Nat}
theorem run_fnX {pins : List (Addr × Obj)} {σ : L2.St} {H : Hp} {s : Shared} {Q : VK} {us : List Value} {vs : List V} {k : Nat} {f : Addr} {fd : FuncData} {ps : List Str} {F : Nat → FS} {p : Addr × Obj} (G : FnX X.prog X.w X.K X.mg X.base cm k f fd ps F) (hr : RoomH k X.A) (hot : Hot1 X.A p) (hp : p ∈ X.pn) (hb : Binds X.K fd ps [])
    (I : Inv X pins σ H s) (r : Vals vs us) (h : spX X.w X.K cm ps.length F p vs H Q E0) : wpAny (model X.prog X.w) X.A (call (.ref f) us) (EP X pins σ Q) X.xe s := by
  have hl : us.length = ps.length := by rw [← r.length]; exact h.1
  have b := hb s us I.kIn (by rw [List.append_nil]; exact hl)
  rw [List.append_nil] at b
  have P1 := I.pin p (List.mem_append_left _ hp)
  have hpin : PinOk X.stack H s p := ⟨P1.1, P1.2.1, fun hm => (List.mem_cons.mp (I.stkSub p.1 hm)).elim P1.2.2.1 P1.2.2.2.1, P1.2.2.2.2⟩
  refine wpAny_call (codeAny_mono (G.run X.A X.stack s H ⟨us, []⟩ us vs Q E0 p hr hot hpin I.env0 b r h) fun r s' hq => ?_)
  cases r with
  | error e =>
    obtain ⟨_, _, _, _, _, _, _, _, _, _, _, _, z⟩ := hq
    exact z.elim
  | ok fl =>
    cases fl with
    | ret u => exact I.after hq
    | next => exact False.elim hq
    | brk => exact False.elim hq
    | cont => exact False.elim hq
def tCallX (K : PySem.W.Frag) (w : World) (cm : Nat → Addr) (n : Nat) (F : Nat → FS) (p : Addr × Obj) (t : TA) : TE := fun σ H Q => t σ H fun vs H1 => spX w K cm n F p vs H1 Q E0
theorem pe_callX {x : Str} {k : Nat} {f : Addr} {fd : FuncData} {ps : List Str} {F : Nat → FS} {p : Addr × Obj} {e : Expr} {es : List Expr} {t : TA} {q pos : Pos} (G : FnX X.prog X.w X.K X.mg X.base cm k f fd ps F) (hr : RoomH k X.A) (hot : Hot1 X.A p) (hp : p ∈ X.pn) (hg : Gl X x) (hm : X.mg x = some (.ref f)) (hk : PySem.W.keepIn X.K (.ref f) = true) (hb : Binds X.K fd ps [])
    (ha : PA X (e :: es) t) (hdb : (x == ("__debug__" : Str)) = false := by decide) (he : starEach (e :: es) X.env = (false, eval e X.env) :: starEach es X.env := by rfl) (hpl : (backTo pos (starEach es X.env)).any (·.1) = false := by rfl) :
    PE X (.Call (.Name x q) (e :: es) [] pos) (tCallX X.K X.w cm ps.length F p t) := by
  refine ⟨fun pins s σ H Q I h => ?_⟩
  refine wpAny_Call_Name_kw (ld_glob I hg hm ?_ hdb)
  refine PySem.W.callWith_K (h₀ := X.base) I.ok.mod.kin hk (thn (ha.run pos pins s σ H _ I h) fun us s1 ⟨vs, H1, I1, r, q⟩ => ⟨I1.kIn, ?_⟩) he hpl
  exact run_fnX G hr hot hp hb I1 r q
/-- f(e, ..), e the exception: run in a heap of its own; plain data, or a list of plain data comes back -/
def giveX (r : Rs D) (L : List O) : Rs D := match r with
  | .ok (.ref j) L' => match L'[j]? with
    | some (.lst xs) => if plainDs xs = true then .ok (.ref L.length) (L ++ [.lst xs]) else .bad
    | _ => .bad
  | .ok d _ => if plainD d = true then .ok d L else .bad
  | _ => .bad
def xCallX (n : Nat) (F : Nat → FS) (r : SMA) : SM := fun c fs ε L => (r c fs ε L).bind fun ds L1 => if plainDs ds = true ∧ ds.length + 1 = n then giveX (F c (.cls hotN :: ds) []) L1 else .bad
theorem su_callX {x n : Str} {k m : Nat} {F : Nat → FS} {es : List Expr} {r : SMA} {p q pos : Pos} (hG : FXI X.prog X.w X.K X.mg X.base cm x k m F) (hr : Room k X.A) (hv : ∀ (a : Addr) (pn : List (Addr × Obj)), PE (X.suite a pn) (.Name n p) (tVar i)) (ha : SuA X cm i es r) (hn : hotN = 1000 := by rfl)
    (hg : Gl X x := by rfl) (hdb : (x == ("__debug__" : Str)) = false := by decide) (he : starEach (.Name n p :: es) X.env = (false, eval (.Name n p) X.env) :: starEach es X.env := by rfl) (hpl : (backTo pos (starEach es X.env)).any (·.1) = false := by rfl) :
    SuE X cm i (.Call (.Name x q) (.Name n p :: es) [] pos) (xCallX m F r) := by
  obtain ⟨f, fd, ps, hm, hk, hb, hps, G⟩ := hG.ex
  subst hps
  refine ⟨fun fx a oe cls d pn hz hf => ?_⟩
  obtain ⟨vs0, hf0⟩ := id hf
  refine (pe_callX (X := X.suite a ((a, oe) :: pn)) (p := (a, oe)) G ⟨hr.dp, hr.un⟩ ⟨rfl, vs0, hf0, hz.2.2 vs0 hf0⟩ List.mem_cons_self hg hm hk hb (pa_cons (hv a _) (ha.run fx a oe cls d pn hz hf) he) hdb he hpl).imp fun σ H Q ⟨c, fs, ε, ρ, L, h1, q⟩ => ?_
  refine ⟨_, h1.sl, c, fs, ε, ρ, L, h1, Lf.bind q fun ds L1 vs ρ1 H1 _ p1 t1 hh1 r1 q1 => ?_⟩
  split at q1
  · rename_i hpd
    have hx : HotX cm H1 (a, oe) c := ⟨⟨d, by rw [← h1.cl]; exact hz.zc, (h1.mono p1 t1 hh1).xd⟩, hf⟩
    have hcl : VR ⟨X.K, cmU cm a, H1, X.w⟩ [] H1 (.cls hotN) (.ref a) := by
      have : VR ⟨X.K, cmU cm a, H1, X.w⟩ [] H1 (.cls hotN) (.ref (cmU cm a hotN)) := .cls hotN
      unfold cmU at this
      rw [if_pos rfl] at this
      exact this
    refine ⟨?_, c, H1, [], [], .cls hotN :: ds, hx, ⟨rfl, List.nodup_nil, fun n o b e => by simp at e, fun n b e => by simp at e, fun b u e => e⟩, .cons hcl (VRs.plain hpd.1 r1), ?_⟩
    · show (_ :: vs).length = _
      rw [List.length_cons, ← r1.length]
      exact hpd.2
    · cases hF : F c (.cls hotN :: ds) [] with
      | bad => rw [hF] at q1; exact q1.elim
      | ex c2 fs2 L2 => rw [hF] at q1; exact q1.elim
      | ok e L2 =>
        rw [hF] at q1
        intro v ρ2 H2 p2 t2 h2 r2
        have keep : ∀ b u, H1 b = some u → H2 b = some u := h2.fxs
        have hh2 : HR ⟨X.K, cm, fx, X.w⟩ ρ1 L1 H2 := by
          refine ⟨hh1.len, hh1.nd, fun n o b e eb => ?_, hh1.nfx, fun b u e => keep _ _ (hh1.fxs b u e)⟩
          have ob := hh1.ob n o b e eb
          obtain ⟨u, eu⟩ := ob.some
          exact ob.mono (List.prefix_refl _) t2 ((keep _ _ eu).trans eu.symm)
        by_cases hre : ∃ j, e = .ref j
        · obtain ⟨j, rfl⟩ := hre
          unfold giveX at q1
          simp only at q1
          split at q1
          · rename_i xs hj
            split at q1
            · rename_i hxs
              cases r2 with
              | @ref _ b eb =>
              obtain ⟨ws, e1, e2⟩ := h2.lst hj eb
              have hbn : H1 b = none := h2.nfx j b eb
              refine q1 _ (ρ1 ++ [b]) H2 (pre_snoc _ _) t2 ⟨by simp [hh2.len], ?_, fun n o a' e3 e4 => ?_, fun n a' e4 => ?_, hh2.fxs⟩ (.ref (by rw [← hh1.len]; simp))
              · rw [List.nodup_append]
                refine ⟨hh2.nd, by simp, fun a1 ha1 b1 hb1 z => ?_⟩
                rw [List.mem_singleton.mp hb1] at z
                obtain ⟨n, hn⟩ := List.getElem?_of_mem ha1
                obtain ⟨o, eo⟩ := hh1.there hn
                obtain ⟨u, eu⟩ := (hh1.ob n o a1 eo hn).some
                rw [z, hbn] at eu
                cases eu
              · by_cases hlt : n < ρ1.length
                · rw [List.getElem?_append_left hlt] at e4
                  rw [List.getElem?_append_left (by rw [← hh1.len]; exact hlt)] at e3
                  exact (hh2.ob n o a' e3 e4).mono (pre_snoc _ _) (TP.refl H2) rfl
                · rw [List.getElem?_append_right (by omega)] at e4
                  rw [List.getElem?_append_right (by rw [← hh1.len]; omega)] at e3
                  rw [← hh1.len] at e3
                  have hz0 : n - ρ1.length = 0 := by
                    cases hq : n - ρ1.length with
                    | zero => rfl
                    | succ m => rw [hq] at e4; simp at e4
                  rw [hz0] at e3 e4
                  simp only [List.getElem?_cons_zero, Option.some.injEq] at e3 e4
                  subst e3 e4
                  exact ⟨ws, e1, VRs.plain hxs e2⟩
              · by_cases hlt : n < ρ1.length
                · rw [List.getElem?_append_left hlt] at e4
                  exact hh2.nfx n a' e4
                · rw [List.getElem?_append_right (by omega)] at e4
                  have : a' = b := by
                    cases hq : n - ρ1.length with
                    | zero => rw [hq] at e4; simpa using e4.symm
                    | succ m => rw [hq] at e4; simp at e4
                  rw [this]
                  show fx b = none
                  cases hfb : fx b with
                  | none => rfl
                  | some u => rw [hh1.fxs b u hfb] at hbn; cases hbn
            · exact q1.elim
          · exact q1.elim
        · have q2 : LfD ⟨X.K, cm, fx, X.w⟩ ρ1 H1 σ W0 (if plainD e = true then .ok e L1 else .bad) Q := by
            unfold giveX at q1
            cases e with
            | ref j => exact absurd ⟨j, rfl⟩ hre
            | _ => exact q1
          split at q2
          · rename_i hpl
            exact q2 v ρ1 H2 (List.prefix_refl _) t2 hh2 (VR.plain hpl r2)
          · exact q2.elim
  · exact q1.elim
end Tw
end

section
set_option Elab.async false
set_option linter.all false
set_option maxRecDepth 100000
set_option maxHeartbeats 4000000
/-! Tw, part Xj: within a def that is called with the handled exception: isinstance of it, comprehensions over range. -/
namespace Tw
open PySem PySem.Spec PyProof.Rows L2 L2H
variable {g : Gx} {ρ : List Addr} {H : Hp} {X : Cx} {W : WX} {L : List O} {cm : Nat → Addr} {fx : Hp} {c i : Nat} {p : Addr × Obj}
theorem u64H {k : Nat} {A : Around} (hr : RoomH k A) : A.units + 64 < cLine := by have := hr.un; omega
theorem u65H {k : Nat} {A : Around} (hr : RoomH k A) : A.units + 65 < cLine := by have := hr.un; omega
/-- isinstance(e, ..) of the exception -/
def ofB (b? : Option Bool) (L : List O) : Rs D := match b? with
  | some b => .ok (.bl b) L
  | none => .bad
def mIsH (b? : Option Bool) (a : ME) : ME := fun ε L => (a ε L).bind fun x L1 => match x with
  | .cls n => if n = hotN then ofB b? L1 else .bad
  | _ => .bad
theorem se_isH {b? : Option Bool} {e : Expr} {T : Str} {a : ME} {c2 : V} {u2 : Value} {p2 p3 pos : Pos} (hx : HotX cm fx p c) (hp : p ∈ X.pn) (hm : X.mg "isinstance" = none) (ha : PE X e (tM ⟨X.K, cmU cm p.1, fx, X.w⟩ W a)) (hT : PE X (.Name T p2) (tC c2)) (hc : ClsV c2 u2) (hs : ∀ b, b? = some b → ExcQ X.K (cm c) ∧ PySem.W.kitOne X.K (.ref (cm c)) u2 = some b) (hg : Gl X "isinstance" := by rfl)
    (he : starEach [e, .Name T p2] X.env = (false, eval e X.env) :: starEach [.Name T p2] X.env := by rfl) (he2 : starEach [.Name T p2] X.env = (false, eval (.Name T p2) X.env) :: starEach [] X.env := by rfl) (hpl : (backTo pos (starEach [.Name T p2] X.env)).any (·.1) = false := by rfl) :
    PE X (.Call (.Name "isinstance" p3) [e, .Name T p2] [] pos) (tM ⟨X.K, cmU cm p.1, fx, X.w⟩ W (mIsH b? a)) := by
  obtain ⟨d, hz, hd⟩ := hx.zn
  refine (pe_callB (call_isX (a := p.1) (oe := p.2) hp hz hx.fl) hg hm (by decide +kernel) (pa_cons ha (pa_cons hT pa_nil he2) he) (by decide) (by decide) he hpl).imp fun σ H Q q => ?_
  obtain ⟨ε, ρ, L, he, hh, q⟩ := q
  refine ⟨ε, ρ, L, he, hh, Lf.bind q fun x L1 v ρ1 H1 e1 p1 t1 h1 r1 q1 => ?_⟩
  cases x with
  | cls n =>
    cases r1
    have q2 : LfD ⟨X.K, cmU cm p.1, fx, X.w⟩ ρ1 H1 σ W (if n = hotN then ofB b? L1 else .bad) Q := q1
    split at q2
    · rename_i hn
      cases hb : b? with
      | none => rw [hb] at q2; exact q2.elim
      | some b =>
        rw [hb] at q2
        obtain ⟨h2, h3⟩ := hs b hb
        have hv2 : cmU cm p.1 n = p.1 := by
          rw [hn]
          unfold cmU
          rw [if_pos rfl]
        have q3 : LfD ⟨X.K, cmU cm p.1, fx, X.w⟩ ρ1 H1 σ W (.ok (.bl b) L1) Q := q2
        refine ⟨cm c, c2, u2, b, by show [V.ref (cmU cm p.1 n), c2] = _; rw [hv2], rfl, h2, ?_, hc, h3, q3 (.bl b) ρ1 H1 (List.prefix_refl _) (TP.refl H1) h1 (.bl b)⟩
        rcases hd with hd | ⟨dd, vs, e, ef⟩
        · exact .inl hd
        · exact .inr ⟨dd, vs, e, h1.fxs dd _ ef⟩
    · exact q2.elim
  | _ => exact q1.elim
theorem se_isHC {l : List (Nat × Bool)} {e : Expr} {T : Str} {a : ME} {c2 : Nat} {p2 p3 pos : Pos} (hx : HotX cm fx p c) (hp : p ∈ X.pn) (hm : X.mg "isinstance" = none) (hmT : X.mg T = some (.ref (cm c2))) (hs : ∀ p ∈ l, ExcQ X.K (cm p.1) ∧ PySem.W.kitOne X.K (.ref (cm p.1)) (.ref (cm c2)) = some p.2) (ha : PE X e (tM ⟨X.K, cmU cm p.1, fx, X.w⟩ W a)) (hgT : Gl X T := by rfl) (hdT : (T == ("__debug__" : Str)) = false := by decide) (hg : Gl X "isinstance" := by rfl)
    (he : starEach [e, .Name T p2] X.env = (false, eval e X.env) :: starEach [.Name T p2] X.env := by rfl) (he2 : starEach [.Name T p2] X.env = (false, eval (.Name T p2) X.env) :: starEach [] X.env := by rfl) (hpl : (backTo pos (starEach [.Name T p2] X.env)).any (·.1) = false := by rfl) :
    PE X (.Call (.Name "isinstance" p3) [e, .Name T p2] [] pos) (tM ⟨X.K, cmU cm p.1, fx, X.w⟩ W (mIsH (subL l c) a)) :=
  se_isH hx hp hm ha (pe_glob hgT hmT (v := .ref (cm c2)) rfl hdT) (.own _) (subL_ok (P := fun c b => ExcQ X.K (cm c) ∧ PySem.W.kitOne X.K (.ref (cm c)) (.ref (cm c2)) = some b) hs c) hg he he2 hpl
theorem se_isHB {l : List (Nat × Bool)} {e : Expr} {T : Str} {T2 : String} {a : ME} {p2 p3 pos : Pos} (hx : HotX cm fx p c) (hp : p ∈ X.pn) (hm : X.mg "isinstance" = none) (hmT : X.mg T = none) (hbT : bootBuiltins T = some (.type T2)) (hs : ∀ p ∈ l, ExcQ X.K (cm p.1) ∧ PySem.W.kitOne X.K (.ref (cm p.1)) (.type T2) = some p.2) (ha : PE X e (tM ⟨X.K, cmU cm p.1, fx, X.w⟩ W a)) (hgT : Gl X T := by rfl) (hdT : (T == ("__debug__" : Str)) = false := by decide) (hnT : T ≠ "__name__" := by decide) (hg : Gl X "isinstance" := by rfl)
    (he : starEach [e, .Name T p2] X.env = (false, eval e X.env) :: starEach [.Name T p2] X.env := by rfl) (he2 : starEach [.Name T p2] X.env = (false, eval (.Name T p2) X.env) :: starEach [] X.env := by rfl) (hpl : (backTo pos (starEach [.Name T p2] X.env)).any (·.1) = false := by rfl) :
    PE X (.Call (.Name "isinstance" p3) [e, .Name T p2] [] pos) (tM ⟨X.K, cmU cm p.1, fx, X.w⟩ W (mIsH (subL l c) a)) :=
  se_isH hx hp hm ha (pe_bltn hgT hmT hbT (v := .ty T2) rfl hnT hdT) (.ty _) (subL_ok (P := fun c b => ExcQ X.K (cm c) ∧ PySem.W.kitOne X.K (.ref (cm c)) (.type T2) = some b) hs c) hg he he2 hpl
/-! ### comprehensions over range there -/
theorem PIH.imp {tg iter : Expr} {wi wi' : TI} (h : PIH X tg iter wi) (hi : ∀ σ H R, wi' σ H R → wi σ H R) : PIH X tg iter wi' := ⟨fun pins s σ H R I q => h.run pins s σ H R I (hi σ H R q)⟩
theorem si_rng1H {tg e : Expr} {a : ME} {p pos} (hg : Gl X "range") (hm : X.mg "range" = none) (h : PA X [e] (tCons (tM g W a) tNil)) (hs : starEach [e] X.env = [(false, eval e X.env)] := by rfl) : PIH X tg (.Call (.Name "range" p) [e] [] pos) (tMI g W (mRng1 a)) :=
  PIH.imp (pi_range1H hg hm h hs) fun σ H R q => by
    obtain ⟨ε, ρ, L, he, hh, q⟩ := q
    refine ⟨ε, ρ, L, he, hh, Lf.bind q fun x L1 v ρ1 H1 e1 p1 t1 h1 r1 q1 => ?_⟩
    cases r1 with
    | int n =>
      simp only at q1
      split at q1
      · rename_i hz
        refine ⟨n, rfl, by omega, by omega, q1 _ ρ1 H1 (List.prefix_refl _) (TP.refl H1) h1 wk_rng⟩
      · exact q1.elim
    | _ => exact q1.elim
abbrev InBlkP (X : Cx) (scope : Scope) (q : Cx → Prop) : Prop := ∀ (s : Shared) (H : Hp) (C : Addr) (cl : List (Str × Addr)) (fp : List Addr) (p : Addr × Obj), q (X.blkP s H scope (compEnvC scope cl C X.env) fp p)
theorem se_lcH {elt tg iter : Expr} {ifs : List Expr} {scope : Scope} {own : List (Str × Nat)} {pos : Pos} {mi : MI} {t : MG} {tt : MB} {te : ME} (hot : HotC X) (hN : X.N.Nodup) (hi : PIH X tg iter (tMI g W mi)) (ok : BlkOk X.N X.env.scope scope own)
    (hg : InBlkP X scope fun Y => PG Y tg (tMG g t)) (ht : InBlkP X scope fun Y => STs g Y ifs tt) (he : InBlkP X scope fun Y => PE Y elt (tM g W0 te)) (hsub : ∀ i ∈ t.is, i ∈ own.map (·.2) := by decide) (hs : ∀ x, foldedSetIterable iter X.env x = pure x := by intro _; rfl) :
    PE X (.ListComp elt [⟨tg, iter, ifs, 0⟩] scope pos) (tM g W (mComp (own.map (·.2)) mi t tt te)) :=
  (pe_lcH hot hN hi ok hg (fun s H C cl fp p => (ht s H C cl fp p).h) he hs).imp fun σ H Q q => tLc_ok hsub q
theorem su_callXN {x n : Str} {k m : Nat} {F : Nat → FS} {es : List Expr} {r : SMA} {p q pos : Pos} (hG : FXI X.prog X.w X.K X.mg X.base cm x k m F) (hr : Room k X.A) (ha : SuA X cm i es r) (hv : NmE X i n)
    (hg : Gl X x := by rfl) (hdb : (x == ("__debug__" : Str)) = false := by decide) (he : starEach (.Name n p :: es) X.env = (false, eval (.Name n p) X.env) :: starEach es X.env := by rfl) (hpl : (backTo pos (starEach es X.env)).any (·.1) = false := by rfl) :
    SuE X cm i (.Call (.Name x q) (.Name n p :: es) [] pos) (xCallX m F r) := su_callX hG hr (fun a pn => hv.pe a pn p) ha rfl hg hdb he hpl
end Tw
end

section
set_option Elab.async false
set_option linter.all false
set_option maxRecDepth 100000
set_option maxHeartbeats 4000000
/-! Tw, part Xk: repr of lists and tuples that hold dicts, too; {k: v}. -/
namespace Tw
open PySem PySem.Spec L2
variable {g : Gx} {ρ ρ' : List Addr} {H H' : Hp} {X : Cx} {W : WX} {L : List O} {cm : Nat → Addr} {fx : Hp}
mutual
/-- as Reads; a dict is not that of the modules -/
inductive ReadsS (h : Heap) : Value → PyData → Prop
  | none : ReadsS h .none .none
  | bool (b : Bool) : ReadsS h (.bool b) (.bool b)
  | int (i : Int) (t : Tok) : ReadsS h (.int i t) (.int i)
  | str (x : Str) (t : Tok) : ReadsS h (.str x t) (.str x)
  | list {a : Addr} {o : Obj} {vs : Array Value} {n : Nat} {xs : List PyData} : h.get? a = some o → o.cls = .type "list" → o.data = .seq vs n → ReadsSA h vs.toList xs → ReadsS h (.ref a) (.list xs)
  | tuple {a : Addr} {o : Obj} {vs : Array Value} {n : Nat} {xs : List PyData} : h.get? a = some o → o.cls = .type "tuple" → o.data = .seq vs n → ReadsSA h vs.toList xs → ReadsS h (.ref a) (.tuple xs)
  | dict {a : Addr} {o : Obj} {es : Array DictEntry} {n : Nat} {kvs : List (PyData × PyData)} : (a == sysModules) = false → h.get? a = some o → o.cls = .type "dict" → o.data = .dict es n → ReadsSA h (es.toList.map (·.key)) (kvs.map (·.1)) → ReadsSA h (es.toList.map (·.val)) (kvs.map (·.2)) → ReadsS h (.ref a) (.dict kvs)
inductive ReadsSA (h : Heap) : List Value → List PyData → Prop
  | nil : ReadsSA h [] []
  | cons {v : Value} {vs : List Value} {d : PyData} {ds : List PyData} : ReadsS h v d → ReadsSA h vs ds → ReadsSA h (v :: vs) (d :: ds)
end
section
variable {h₀ : Heap} {prog : Program} {w : World}
mutual
theorem ReadsS.reads : ∀ {v : Value} {d : PyData}, ReadsS h₀ v d → ∃ as, Reads h₀ v d as
  | _, _, .none => ⟨_, .none⟩
  | _, _, .bool b => ⟨_, .bool b⟩
  | _, _, .int i t => ⟨_, .int i t⟩
  | _, _, .str x t => ⟨_, .str x t⟩
  | _, _, .list h1 h2 h3 h4 => let ⟨_, r⟩ := ReadsSA.reads h4; ⟨_, .list h1 h2 h3 r⟩
  | _, _, .tuple h1 h2 h3 h4 => let ⟨_, r⟩ := ReadsSA.reads h4; ⟨_, .tuple h1 h2 h3 r⟩
  | _, _, .dict _ h1 h2 h3 h4 h5 => let ⟨_, r⟩ := ReadsSA.reads h4; let ⟨_, r5⟩ := ReadsSA.reads h5; ⟨_, .dict h1 h2 h3 r r5⟩
theorem ReadsSA.reads : ∀ {vs : List Value} {ds : List PyData}, ReadsSA h₀ vs ds → ∃ as, ReadsAll h₀ vs ds as
  | _, _, .nil => ⟨_, .nil⟩
  | _, _, .cons r t => let ⟨_, a⟩ := ReadsS.reads r; let ⟨_, b⟩ := ReadsSA.reads t; ⟨_, .cons a b⟩
end
mutual
theorem ReadsS.shows : ∀ {v : Value} {d : PyData}, ReadsS h₀ v d → d.showable = true → d.shown.length ≤ sizeLine → ∃ bs, ReadAtMost h₀ d.depth bs ∧ ReprK prog w bs h₀ d.depth v d.shown
  | _, _, .none, _, _ => ⟨[], (fun _ h => nomatch h), by simp only [PyData.shown]; exact .of_is ReprIs.none _ _ _⟩
  | _, _, .bool b, _, _ => ⟨[], (fun _ h => nomatch h), by simp only [PyData.shown]; exact .of_is (ReprIs.bool b) _ _ _⟩
  | _, _, .int i t, hs, _ => ⟨[], (fun _ h => nomatch h), by simp only [PyData.shown]; exact .of_is (ReprIs.int t (by simpa [PyData.showable] using hs)) _ _ _⟩
  | _, _, .str x t, _, hz => ⟨[], (fun _ h => nomatch h), by simp only [PyData.shown]; exact .of_is (ReprIs.str x t (by simpa only [PyData.shown] using hz)) _ _ _⟩
  | _, _, .list (a := a) (vs := vs) (xs := xs) h1 h2 h3 h4, hs, hz => by
    have hz' : (listText (PyData.shownAll xs)).length ≤ sizeLine := by simpa only [PyData.shown] using hz
    obtain ⟨bs, hb, hk⟩ := ReadsSA.shows h4 (by simpa [PyData.showable] using hs) (fun t ht => Nat.le_trans (listText_mem_le ht) hz')
    obtain ⟨as, r4⟩ := h4.reads
    have r : Reads h₀ (.ref a) (.list xs) _ := .list h1 h2 h3 r4
    have hna : a ∉ bs := not_mem_of_deeper r (by simp only [PyData.depth]; omega) hb
    refine ⟨a :: bs, ReadAtMost.cons r (by simp only [PyData.depth]; omega) hb, ?_⟩
    simp only [PyData.depth, PyData.shown]
    obtain ⟨l⟩ := vs
    cases l with
    | nil =>
      have h4' : ReadsSA h₀ [] xs := h4
      cases h4'
      simp only [PyData.shownAll, listText_nil]
      exact ReprK.listEmpty h1 h2 h3
    | cons x l => exact ReprK.list h1 h2 h3 hna (by simpa using hk.length_eq) (fun i y e => hk.item i y (by simpa using e))
  | _, _, .tuple (a := a) (xs := xs) h1 h2 h3 h4, hs, hz => by
    have hz' : (tupleText (PyData.shownAll xs)).length ≤ sizeLine := by simpa only [PyData.shown] using hz
    obtain ⟨bs, hb, hk⟩ := ReadsSA.shows h4 (by simpa [PyData.showable] using hs) (fun t ht => Nat.le_trans (tupleText_mem_le ht) hz')
    obtain ⟨as, r4⟩ := h4.reads
    have r : Reads h₀ (.ref a) (.tuple xs) _ := .tuple h1 h2 h3 r4
    have hna : a ∉ bs := not_mem_of_deeper r (by simp only [PyData.depth]; omega) hb
    refine ⟨a :: bs, ReadAtMost.cons r (by simp only [PyData.depth]; omega) hb, ?_⟩
    simp only [PyData.depth, PyData.shown]
    exact ReprK.tuple h1 h2 h3 hna hk
  | _, _, .dict (a := a) (es := es) (kvs := kvs) hsys h1 h2 h3 h4 h5, hs, hz => by
    have hz' : (dictText (PyData.shownKv kvs)).length ≤ sizeLine := by simpa only [PyData.shown] using hz
    obtain ⟨hs1, hs2⟩ := PyData.showableKv_split kvs (by simpa [PyData.showable] using hs)
    obtain ⟨b1, hb1, k1⟩ := ReadsSA.shows h4 hs1 (fun t ht => let ⟨p, hp, hl⟩ := PyData.shownKv_key_le kvs t ht; Nat.le_trans hl (Nat.le_trans (dictText_mem_le hp) hz'))
    obtain ⟨b2, hb2, k2⟩ := ReadsSA.shows h5 hs2 (fun t ht => let ⟨p, hp, hl⟩ := PyData.shownKv_val_le kvs t ht; Nat.le_trans hl (Nat.le_trans (dictText_mem_le hp) hz'))
    obtain ⟨as1, r4⟩ := h4.reads
    obtain ⟨as2, r5⟩ := h5.reads
    have r : Reads h₀ (.ref a) (.dict kvs) _ := .dict h1 h2 h3 r4 r5
    have hb : ReadAtMost h₀ (PyData.depthKv kvs) (b1 ++ b2) := (hb1.mono (PyData.depthAll_keys_le kvs)).append (hb2.mono (PyData.depthAll_vals_le kvs))
    have hna : a ∉ b1 ++ b2 := not_mem_of_deeper r (by simp only [PyData.depth]; omega) hb
    refine ⟨a :: (b1 ++ b2), ReadAtMost.cons r (by simp only [PyData.depth]; omega) hb, ?_⟩
    simp only [PyData.depth, PyData.shown, PyData.shownKv_eq]
    exact ReprK.dict h1 h2 h3 hsys hna (ReprEntriesK.of_two es.toList _ _
      (k1.more_le (fun b hb => List.mem_append_left _ hb) (PyData.depthAll_keys_le kvs)) (k2.more_le (fun b hb => List.mem_append_right _ hb) (PyData.depthAll_vals_le kvs)))
theorem ReadsSA.shows : ∀ {vs : List Value} {ds : List PyData}, ReadsSA h₀ vs ds → PyData.showableAll ds = true → (∀ t ∈ PyData.shownAll ds, t.length ≤ sizeLine) →
    ∃ bs, ReadAtMost h₀ (PyData.depthAll ds) bs ∧ ReprAllK prog w bs h₀ (PyData.depthAll ds) vs (PyData.shownAll ds)
  | _, _, .nil, _, _ => ⟨[], (fun _ h => nomatch h), by simp only [PyData.shownAll]; exact .nil⟩
  | _, _, .cons (d := d) (ds := ds) r rs, hs, hz => by
    have hs' : d.showable = true ∧ PyData.showableAll ds = true := by simpa [PyData.showableAll] using hs
    obtain ⟨b1, hb1, k1⟩ := ReadsS.shows r hs'.1 (hz _ (by simp only [PyData.shownAll]; exact List.mem_cons_self ..))
    obtain ⟨b2, hb2, k2⟩ := ReadsSA.shows rs hs'.2 (fun t ht => hz t (by simp only [PyData.shownAll]; exact List.mem_cons_of_mem _ ht))
    refine ⟨b1 ++ b2, ?_, ?_⟩
    · intro b hm
      simp only [PyData.depthAll]
      rcases List.mem_append.mp hm with hm | hm
      · obtain ⟨d', as', r', hd'⟩ := hb1 b hm
        exact ⟨d', as', r', Nat.le_trans hd' (Nat.le_max_left _ _)⟩
      · obtain ⟨d', as', r', hd'⟩ := hb2 b hm
        exact ⟨d', as', r', Nat.le_trans hd' (Nat.le_max_right _ _)⟩
    · simp only [PyData.depthAll, PyData.shownAll]
      exact .cons ((k1.more fun b hb => List.mem_append_left _ hb).level_le (Nat.le_max_left _ _)) (k2.more_le (fun b hb => List.mem_append_right _ hb) (Nat.le_max_right _ _))
end
/-- repr of such a list or tuple -/
theorem repr_of_readsS {A : Around} {E : Value → Shared → Prop} {s : Shared} {Q : Value → Shared → Prop} {a : Addr} {d : PyData} (rs : ReadsS h₀ (.ref a) d) (hq : isSeqP d = true) (hs : d.showable = true) (hg : A.guards = some []) (hu : A.units + (d.depth + 1) < cLine) (hk0 : ∀ b o, h₀.get? b = some o → s.heap.get? b = some o)
    (hQ : ∀ h' u tk, (∀ b o, s.heap.get? b = some o → h'.get? b = some o) → Q (.str d.shown u) { s with heap := h', toks := tk }) (hz : d.shown.length ≤ sizeLine) : wpAny (model prog w) A (call (.builtin "repr") [.ref a]) Q E s := by
  cases rs with
  | list h1 h2 h3 h4 =>
    rename_i o vs n xs
    have hz' : (listText (PyData.shownAll xs)).length ≤ sizeLine := by simpa only [PyData.shown] using hz
    obtain ⟨bs, hb, hk⟩ := ReadsSA.shows (prog := prog) (w := w) h4 (by simpa [PyData.showable] using hs) (fun t ht => Nat.le_trans (listText_mem_le ht) hz')
    obtain ⟨as, r4⟩ := h4.reads
    have hna : a ∉ bs := not_mem_of_deeper (.list h1 h2 h3 r4) (by simp only [PyData.depth]; omega) hb
    simp only [PyData.depth] at hu
    simp only [PyData.shown] at hQ
    refine call_repr_slot (by omega) ⟨o, hk0 _ _ h1, h2⟩ F.slot_list_repr.toG ?_
    obtain ⟨l⟩ := vs
    cases l with
    | nil =>
      have h4' : ReadsSA h₀ [] xs := h4
      cases h4'
      simp only [PyData.shownAll, listText_nil] at hQ
      exact call_list_repr_empty ⟨o, hk0 _ _ h1, h2⟩ (hk0 _ _ h1) h3 ⟨_, _, rfl, hQ s.heap _ _ fun _ _ e => e⟩
    | cons x l =>
      exact call_list_reprK h1 h2 h3 hna (by simpa using hk.length_eq) (fun i y e => hk.item i y (by simpa using e)) hg (fun b _ => Clear.nil b) (by show A.units + 1 + _ < cLine; omega) hk0 (fun h' u tk hk => ⟨_, _, rfl, hQ h' u tk hk⟩) hz'
  | tuple h1 h2 h3 h4 =>
    rename_i o vs n xs
    have hz' : (tupleText (PyData.shownAll xs)).length ≤ sizeLine := by simpa only [PyData.shown] using hz
    obtain ⟨bs, hb, hk⟩ := ReadsSA.shows (prog := prog) (w := w) h4 (by simpa [PyData.showable] using hs) (fun t ht => Nat.le_trans (tupleText_mem_le ht) hz')
    obtain ⟨as, r4⟩ := h4.reads
    have hna : a ∉ bs := not_mem_of_deeper (.tuple h1 h2 h3 r4) (by simp only [PyData.depth]; omega) hb
    simp only [PyData.depth] at hu
    simp only [PyData.shown] at hQ
    refine call_repr_slot (by omega) ⟨o, hk0 _ _ h1, h2⟩ F.slot_tuple_repr ?_
    exact call_tuple_reprK h1 h2 h3 hna hk hg (fun b _ => Clear.nil b) (by show A.units + 1 + _ < cLine; omega) hk0 (fun h' u tk hk => ⟨_, _, rfl, hQ h' u tk hk⟩) hz'
  | dict => cases hq
end
def keyP : Key → PyData
  | .inl i => .int i
  | .inr x => .str x
/-- data with dicts of ints and texts as keys -/
def toPyS (L : List O) : Nat → D → Option PyData
  | 0, _ => none
  | n + 1, d => match d with
    | .non => some .none
    | .bl b => some (.bool b)
    | .int i => some (.int i)
    | .str x => some (.str x)
    | .tup ds => (optAll (toPyS L n) ds).map .tuple
    | .rol ds => (optAll (toPyS L n) ds).map .list
    | .ref k => match L[k]? with
      | some (.lst ds) => (optAll (toPyS L n) ds).map .list
      | some (.dic _ ks) => (optAll (toPyS L n) (ks.map (·.2))).map fun ps => .dict ((ks.map fun kv => keyP kv.1).zip ps)
      | _ => none
    | .cls _ => none
    | .ty _ => none
theorem zip_fst {α β : Type} : ∀ {as : List α} {bs : List β}, as.length = bs.length → (as.zip bs).map (·.1) = as
  | [], [], _ => rfl
  | a :: as, b :: bs, h => by simp only [List.zip_cons_cons, List.map_cons]; rw [zip_fst (by simpa using h)]
theorem zip_snd {α β : Type} : ∀ {as : List α} {bs : List β}, as.length = bs.length → (as.zip bs).map (·.2) = bs
  | [], [], _ => rfl
  | a :: as, b :: bs, h => by simp only [List.zip_cons_cons, List.map_cons]; rw [zip_snd (by simpa using h)]
theorem readsS_of {pins : List (Addr × Obj)} {σ : L2.St} {s : Shared} (I : Inv X pins σ H s) (hh : HR ⟨X.K, cm, fx, X.w⟩ ρ L H) : ∀ (n : Nat) (d : D) (p : PyData) (v : V) (u : Value), toPyS L n d = some p → VR ⟨X.K, cm, fx, X.w⟩ ρ H d v → RelV v u → ReadsS s.heap u p
  | 0, _, _, _, _, e, _, _ => by cases e
  | n + 1, d, p, v, u, e, r, ru => by
    have all : ∀ (ds : List D) (ps : List PyData) (vs : List V) (us : List Value), optAll (toPyS L n) ds = some ps → VRs ⟨X.K, cm, fx, X.w⟩ ρ H ds vs → Vals vs us → ReadsSA s.heap us ps := by
      intro ds
      induction ds with
      | nil => intro ps vs us e r q; cases r; cases e; cases q; exact .nil
      | cons d ds ih =>
        intro ps vs us e r q
        cases r with
        | cons r t =>
          cases q with
          | cons q1 q2 =>
            unfold optAll at e
            split at e
            · rename_i y ys h1 h2
              cases e
              exact .cons (readsS_of I hh n _ _ _ _ h1 r q1) (ih _ _ _ h2 t q2)
            · cases e
    cases d with
    | non => cases r; cases e; cases ru; exact .none
    | bl b => cases r; cases e; cases ru; exact .bool b
    | int i => cases r; cases e; obtain ⟨t, rfl⟩ := ru; exact .int i t
    | str x => cases r; cases e; obtain ⟨t, rfl⟩ := ru; exact .str x t
    | tup ds =>
      cases r with
      | tup sq rs =>
        cases ru
        obtain ⟨ps, h1, rfl⟩ := Option.map_eq_some_iff.mp (show (optAll (toPyS L n) ds).map PyData.tuple = some p from e)
        obtain ⟨its, rv, ⟨o, ho, hc, k, hd⟩, _⟩ := I.tuple sq.sq
        exact .tuple ho hc hd (by simpa using all ds ps _ _ h1 rs rv)
    | rol ds =>
      cases r with
      | rol sq rs =>
        cases ru
        obtain ⟨ps, h1, rfl⟩ := Option.map_eq_some_iff.mp (show (optAll (toPyS L n) ds).map PyData.list = some p from e)
        obtain ⟨its, rv, ⟨o, k, ho, hc, _, hd⟩, _⟩ := I.list sq.seq
        exact .list ho hc hd (by simpa using all ds ps _ _ h1 rs rv)
    | cls c => cases e
    | ty c => cases e
    | ref k =>
      cases r with
      | ref ea =>
        cases ru
        have e : (match L[k]? with
          | some (.lst ds) => (optAll (toPyS L n) ds).map PyData.list
          | some (.dic _ ks) => (optAll (toPyS L n) (ks.map (·.2))).map fun ps => PyData.dict ((ks.map fun kv => keyP kv.1).zip ps)
          | _ => none) = some p := e
        split at e
        · rename_i ds hk
          obtain ⟨ps, h1, rfl⟩ := Option.map_eq_some_iff.mp e
          obtain ⟨vs, hv, rs⟩ := hh.lst hk ea
          obtain ⟨its, rv, ⟨o, j, ho, hc, _, hd⟩, _⟩ := I.list (.inl (.inl hv))
          exact .list ho hc hd (by simpa using all ds ps _ _ h1 rs rv)
        · rename_i lk ks hk
          obtain ⟨ps, h1, rfl⟩ := Option.map_eq_some_iff.mp e
          obtain ⟨ws, hr, kr⟩ := hh.dic hk ea
          obtain ⟨_, hne, rs, kv, o, es, ep, ho, ⟨hc, _, _⟩, hd, _, hps, _⟩ := dk_rd I.hok hr
          have hl : ps.length = ks.length := by rw [← optAll_len h1]; simp
          have key : ∀ (ks : List (Key × D)) (ws : List (Key × V)) (rs : List (Key × Value)) (es : List DictEntry), KR ⟨X.K, cm, fx, X.w⟩ ρ H ks ws → KV ws rs → Pairs (mixKind X.prog X.w) es rs → ReadsSA s.heap (es.map (·.key)) (ks.map fun kv => keyP kv.1) := by
            intro ks
            induction ks with
            | nil => intro ws rs es kr kv hp; cases kr; cases kv; cases hp; exact .nil
            | cons kd ks ih =>
              intro ws rs es kr kv hp
              cases kr with
              | cons r1 t1 =>
                cases kv with
                | cons q1 q2 =>
                  cases hp with
                  | cons b1 b2 b3 =>
                    refine .cons ?_ (ih _ _ _ t1 q2 b3)
                    rw [← q1.1] at b1
                    rcases keyIs_shape b1 with ⟨i, t, e1, e2⟩ | ⟨x, t, e1, e2⟩
                    · simp only [e2]
                      simp only at e1
                      rw [e1]
                      exact .int i t
                    · simp only [e2]
                      simp only at e1
                      rw [e1]
                      exact .str x t
          have val : ∀ (ks : List (Key × D)) (ws : List (Key × V)) (rs : List (Key × Value)) (es : List DictEntry), KR ⟨X.K, cm, fx, X.w⟩ ρ H ks ws → KV ws rs → Pairs (mixKind X.prog X.w) es rs → ∃ vs, VRs ⟨X.K, cm, fx, X.w⟩ ρ H (ks.map (·.2)) vs ∧ Vals vs (es.map (·.val)) := by
            intro ks
            induction ks with
            | nil => intro ws rs es kr kv hp; cases kr; cases kv; cases hp; exact ⟨[], .nil, .nil⟩
            | cons kd ks ih =>
              intro ws rs es kr kv hp
              cases kr with
              | cons r1 t1 =>
                cases kv with
                | cons q1 q2 =>
                  cases hp with
                  | cons b1 b2 b3 =>
                    obtain ⟨vs, z1, z2⟩ := ih _ _ _ t1 q2 b3
                    exact ⟨_ :: vs, .cons r1 z1, .cons (by show RelV _ (DictEntry.val _); rw [b2]; exact q1.2) z2⟩
          obtain ⟨vs, z1, z2⟩ := val ks ws rs es.toList kr kv hps
          refine .dict hne ho hc hd ?_ ?_
          · rw [zip_fst (by simp [hl])]
            exact key ks ws rs es.toList kr kv hps
          · rw [zip_snd (by simp [hl])]
            exact all _ _ _ _ h1 z1 z2
        · cases e
/-- repr of a list or a tuple, dicts in it -/
def cReprD : OC := fun ds L => match ds with
  | [x] => match toPyS L pyDeep x with
    | some p => if isSeqP p = true ∧ p.showable = true ∧ p.depth ≤ 16 ∧ p.shown.length ≤ most then some (.str p.shown, L) else none
    | none => none
  | _ => none
theorem c_reprD (hg : X.A.guards = some []) (hu : X.A.units + 65 < cLine) : CallR X (.builtin "repr") (rC ⟨X.K, cm, fx, X.w⟩ cReprD) := by
  intro pins s σ H xs us Q I r q
  obtain ⟨ρ, L, ds, hh, rr, q⟩ := q
  unfold cReprD at q
  split at q
  · rename_i x
    obtain ⟨v, rfl, rv⟩ := rr.one
    obtain ⟨u, rfl, ru⟩ := r.one
    split at q
    · rename_i p hp
      split at q
      · rename_i hz
        obtain ⟨z1, z2, z4, z5⟩ := hz
        have rd := readsS_of I hh _ _ _ _ _ hp rv ru
        have hq : Q (.str p.shown) H := q.same hh (.str _)
        have hre : ∃ a, u = .ref a := by
          cases rd with
          | list => exact ⟨_, rfl⟩
          | tuple => exact ⟨_, rfl⟩
          | _ => cases z1
        obtain ⟨a, rfl⟩ := hre
        exact repr_of_readsS rd z1 z2 hg (by omega) (fun _ _ e => e) (fun h' u tk hk => ⟨.str p.shown, H, I.kept (t' := tk) hk, ⟨_, rfl⟩, hq⟩) (most_le z5)
      · exact q.elim
    · exact q.elim
  · exact q.elim
end Tw
end

section
set_option Elab.async false
set_option linter.all false
set_option maxRecDepth 100000
set_option maxHeartbeats 4000000
/-! Tw, part Xl: {k: v}; str(i). -/
namespace Tw
open PySem PySem.Spec L2
variable {g : Gx} {ρ ρ' : List Addr} {H H' : Hp} {X : Cx} {W : WX} {L : List O} {cm : Nat → Addr} {fx : Hp}
def mDic1 (k v : ME) : ME := fun ε L => (k ε (L ++ [.dic false []])).bind fun x L1 => (v ε L1).bind fun y L2 => match keyD x with
  | some kk => match L2[L.length]? with
    | some (.dic false []) => .ok (.ref L.length) (L2.set L.length (.dic false [(kk, y)]))
    | _ => .bad
  | none => .bad
theorem se_dic1 {ek ev : Expr} {k v : ME} {pos : Pos} (hk : PE X ek (tM ⟨X.K, cm, fx, X.w⟩ W k)) (hv : PE X ev (tM ⟨X.K, cm, fx, X.w⟩ W v)) : PE X (.Dict [some ek] [ev] pos) (tM ⟨X.K, cm, fx, X.w⟩ W (mDic1 k v)) :=
  (pe_disp (pps_cons hk hv pps_nil) rfl rfl (by simp) (show 1 ≤ 15 by decide)).imp fun σ H Q q => by
    obtain ⟨ε, ρ, L, he, hh, q⟩ := q
    intro p hp
    have t0 : TP H (upd H p (.dK [])) := TP.new hp
    have h0 : HR ⟨X.K, cm, fx, X.w⟩ (ρ ++ [p]) (L ++ [.dic false []]) (upd H p (.dK [])) := hh.new hp (u := .dK []) (o := .dic false []) ⟨[], upd_same, .nil⟩
    have e0 : (ρ ++ [p])[L.length]? = some p := by rw [← hh.len]; simp
    refine ⟨ε, ρ ++ [p], _, (he.mono (pre_snoc _ _) t0), h0, Lf.bind (LfD.mono (pre_snoc _ _) t0 q) fun x L1 xv ρ1 H1 _ p1 t1 h1 r1 q1 => ?_⟩
    refine ⟨ε, ρ1, L1, (he.mono (pre_snoc _ _) t0).mono p1 t1, h1, Lf.bind q1 fun y L2 yv ρ2 H2 _ p2 t2 h2 r2 q2 => ?_⟩
    split at q2
    · rename_i kk hkk
      split at q2
      · rename_i hL
        have e2 : ρ2[L.length]? = some p := pre_get (p1.trans p2) e0
        obtain ⟨ws, w1, w2⟩ := h2.ob _ _ _ hL e2
        cases w2
        have hx : xv = kV kk := keyD_ok r1 hkk
        refine ⟨w1, [(kk, yv)], by rw [hx]; rfl, (show 1 ≤ 15 by decide), ?_⟩
        have t3 : TP H2 (upd H2 p (.dK [(kk, yv)])) := TP.mut w1 rfl
        refine q2 _ ρ2 _ (List.prefix_refl _) t3 (h2.set e2 w1 rfl ⟨_, upd_same, .cons (r2.mono (List.prefix_refl _) t3) .nil⟩) (.ref e2)
      · exact q2.elim
    · exact q2.elim
/-- str(i) -/
def cStrI : OC := fun ds L => match ds with
  | [.int i] => if i.natAbs < 2 ^ 1000 then some (.str (toString i), L) else none
  | _ => none
theorem c_strI : CallR X (.type "str") (rC ⟨X.K, cm, fx, X.w⟩ cStrI) := fun pins s σ H xs us Q I r q => call_str_int pins s σ H xs us Q I r (by
  obtain ⟨ρ, L, ds, hh, rr, q⟩ := q
  unfold cStrI at q
  split at q
  · rename_i i
    obtain ⟨v, rfl, rv⟩ := rr.one
    cases rv
    split at q
    · rename_i hz
      refine ⟨i, rfl, ?_, q.same hh (.str _)⟩
      by_cases h0 : i.natAbs = 0
      · rw [h0]; decide
      · have := (Nat.log2_lt h0 (k := 1000)).mpr hz
        omega
    · exact q.elim
  · exact q.elim)
/-- != of texts of any length; else o -/
def oNeTx (o : O2) : O2 := fun x y L => match x, y with
  | .str a, .str b => some (.bl (!decide (a = b)), L)
  | _, _ => o x y L
theorem op_neTx {o : O2} (h : OpR X (compareOp .NotEq) (rM ⟨X.K, cm, fx, X.w⟩ o)) : OpR X (compareOp .NotEq) (rM ⟨X.K, cm, fx, X.w⟩ (oNeTx o)) := by
  intro pins s σ H x y v u Q I rx ry q
  obtain ⟨ρ, L, d, e, hh, r1, r2, q⟩ := q
  unfold oNeTx at q
  split at q
  · rename_i a b
    cases r1
    cases r2
    refine op_ne pins s σ H _ _ v u Q I rx ry ⟨rfl, ?_⟩
    have : decide (V.str a = V.str b) = decide (a = b) := by simp
    rw [this]
    exact LfO.same q hh (.bl _)
  · exact h pins s σ H x y v u Q I rx ry ⟨ρ, L, d, e, hh, r1, r2, q⟩
end Tw
end

section
set_option Elab.async false
set_option linter.all false
set_option maxRecDepth 100000
set_option maxHeartbeats 4000000
/-! Tw, part Xm: a dict == a tuple. -/
namespace PySem.SeqAt
open PySem
theorem dict_eq_declines_tuple (l b : Addr) (es : Array DictEntry) (items2 : Array Value) (n n2 : Nat) (dd dd2 : Option Addr) (sl sl2 : Array (Option Value)) :
    Meets (Builtin.«dict.__eq__» ⟨[.ref l, .ref b], []⟩) (fun _ R s => s.heap.get? l = some { cls := .type "dict", dict := dd, data := .dict es n, slots := sl } ∧ s.heap.get? b = some { cls := .type "tuple", dict := dd2, data := .seq items2 n2, slots := sl2 } ∧ R (.ok (.ret .notImplemented)) s) :=
  .of_wp fun prog w A R s h => by obtain ⟨hp, g, d, tk, os⟩ := s; obtain ⟨hl, hb, h⟩ := h; have f1 := F.sub_tuple_dict; wp_walk using wpAny_loadPart' hl, wpAny_loadPart' hb; exact ⟨_, rfl, h⟩
theorem tuple_eq_declines_dict (l b : Addr) (items : Array Value) (es : Array DictEntry) (n n2 : Nat) (dd dd2 : Option Addr) (sl sl2 : Array (Option Value)) :
    Meets (Builtin.«tuple.__eq__» ⟨[.ref l, .ref b], []⟩) (fun _ R s => s.heap.get? l = some { cls := .type "tuple", dict := dd, data := .seq items n, slots := sl } ∧ s.heap.get? b = some { cls := .type "dict", dict := dd2, data := .dict es n2, slots := sl2 } ∧ R (.ok (.ret .notImplemented)) s) :=
  .of_wp fun prog w A R s h => by obtain ⟨hp, g, d, tk, os⟩ := s; obtain ⟨hl, hb, h⟩ := h; have f1 := F.sub_dict_tuple; wp_walk using wpAny_loadPart' hl, wpAny_loadPart' hb; exact ⟨_, rfl, h⟩
theorem RcAt.dict_tuple {A : Around} {s : Shared} {l b : Addr} {es : Array DictEntry} {n n2 : Nat} {items2 : Array Value} {o o2 : Obj} (ho : s.heap.get? l = some o) (hc : o.cls = .type "dict") (hd : o.data = .dict es n) (ho2 : s.heap.get? b = some o2) (hc2 : o2.cls = .type "tuple") (hd2 : o2.data = .seq items2 n2) (hu : A.units < cLine) : RcAt A s (.ref l) (.ref b) false := fun prog w E Q h => by
  have hne : l ≠ b := fun e => by
    rw [e, ho2] at ho
    cases ho
    rw [hc2] at hc
    exact absurd hc (by simp)
  obtain ⟨cls, dd, data, sl⟩ := o
  obtain ⟨cls2, dd2, data2, sl2⟩ := o2
  simp only at hc hd hc2 hd2
  subst hc hd hc2 hd2
  exact (rc_eq_decline_or (k := false) ⟨_, ho, rfl⟩ ⟨_, ho2, rfl⟩ (by decide) F.sub_tuple_dict F.slot_dict_eq F.slot_tuple_eq_refl
    (fun _ hq => call_meets F.slot_dict_eq ⟨_, ho, rfl⟩ F.entry_dict_eq (F.args_dict_eq_2 _ _) (dict_eq_declines_tuple l b es items2 n n2 dd dd2 sl sl2) ⟨ho, ho2, hq⟩)
    (fun _ hq => call_meets F.slot_tuple_eq_refl ⟨_, ho2, rfl⟩ F.entry_tuple_eq (F.args_tuple_eq_2 _ _) (tuple_eq_declines_dict b l items2 es n2 n dd2 dd sl2 sl) ⟨ho2, ho, hq⟩)
    (fun _ hq => wpAny_isSame_ref_other hne ho ho2 (by simp) hq) (.inr hu) h)
end PySem.SeqAt
namespace Tw
open PySem PySem.Spec L2
variable {g : Gx} {ρ ρ' : List Addr} {H H' : Hp} {X : Cx} {W : WX} {L : List O} {cm : Nat → Addr} {fx : Hp}
/-- ==, of a dict and a tuple, too -/
def oEqDt : O2 := fun x y L => match x, y with
  | .ref n, .tup ds => match L[n]? with
    | some (.dic _ _) => some (.bl false, L)
    | _ => oEq (.ref n) (.tup ds) L
  | _, _ => oEq x y L
theorem op_oEqDt (hu : X.A.units + 64 < cLine) : OpR X (compareOp .Eq) (rM ⟨X.K, cm, fx, X.w⟩ oEqDt) := by
  intro pins s σ H x y v u Q I rx ry q
  obtain ⟨ρ, L, d, e, hh, r1, r2, q⟩ := q
  unfold oEqDt at q
  split at q
  · rename_i n ds
    split at q
    · rename_i lk ks hn
      cases r1 with
      | ref ea =>
        cases r2 with
        | tup sq rs =>
          obtain rfl : v = Value.ref _ := rx
          obtain rfl : u = Value.ref _ := ry
          obtain ⟨ws, hr, kr⟩ := hh.dic hn ea
          obtain ⟨_, hne, rs2, kv, o, es, ep, ho, ⟨hc, _, _⟩, hd, _, hps, _⟩ := dk_rd I.hok hr
          obtain ⟨its, rv, ⟨o2, ho2, hc2, k, hd2⟩, _⟩ := I.tuple sq.sq
          exact SeqAt.RcAt.dict_tuple ho hc hd ho2 hc2 hd2 (by omega) X.prog X.w X.xe _ ⟨.bl false, H, I, rfl, LfO.same q hh (.bl _)⟩
    · exact op_oEq hu pins s σ H x y v u Q I rx ry ⟨ρ, L, _, _, hh, r1, r2, q⟩
  · exact op_oEq hu pins s σ H x y v u Q I rx ry ⟨ρ, L, _, _, hh, r1, r2, q⟩
/-- ==, != of any tuple and the empty one; else o -/
def oEqT0 (o : O2) : O2 := fun x y L => match x, y with
  | .tup ds, .tup [] => some (.bl ds.isEmpty, L)
  | _, _ => o x y L
def oNeT0 (o : O2) : O2 := fun x y L => match x, y with
  | .tup ds, .tup [] => some (.bl (!ds.isEmpty), L)
  | _, _ => o x y L
theorem op_oEqT0 {o : O2} (hu : X.A.units + 64 < cLine) (h : OpR X (compareOp .Eq) (rM ⟨X.K, cm, fx, X.w⟩ o)) : OpR X (compareOp .Eq) (rM ⟨X.K, cm, fx, X.w⟩ (oEqT0 o)) := by
  intro pins s σ H x y v u Q I rx ry q
  obtain ⟨ρ, L, d, e, hh, r1, r2, q⟩ := q
  unfold oEqT0 at q
  split at q
  · rename_i ds
    cases r1 with
    | tup s1 t1 =>
      cases r2 with
      | tup s2 t2 =>
        cases t2
        obtain rfl : v = Value.ref _ := rx
        obtain rfl : u = Value.ref _ := ry
        obtain ⟨its, rv, ht, _⟩ := I.tuple s1.sq
        obtain ⟨its2, rv2, ht2, _⟩ := I.tuple s2.sq
        cases rv2
        refine SeqAt.RcAt.tuples (e := fun _ => false) ht ht2 (by omega) (fun j h1 h2 => absurd h2 (by simp)) X.prog X.w X.xe _ ⟨.bl ds.isEmpty, H, I, ?_, LfO.same q hh (.bl _)⟩
        show Value.bool _ = Value.bool _
        have hl : its.length = ds.length := by rw [← rv.length, t1.length]
        cases ds with
        | nil =>
          have : its = [] := List.eq_nil_of_length_eq_zero hl
          subst this
          rfl
        | cons a b =>
          have hne : (its.toArray.size == 0) = false := by rw [List.size_toArray, hl]; rfl
          show Value.bool (_ && (its.toArray.size == ([] : List Value).toArray.size)) = Value.bool false
          rw [show (its.toArray.size == ([] : List Value).toArray.size) = false from hne, Bool.and_false]
  · exact h pins s σ H x y v u Q I rx ry ⟨ρ, L, d, e, hh, r1, r2, q⟩
theorem op_oNeT0 {o : O2} (hu : X.A.units + 64 < cLine) (h : OpR X (compareOp .NotEq) (rM ⟨X.K, cm, fx, X.w⟩ o)) : OpR X (compareOp .NotEq) (rM ⟨X.K, cm, fx, X.w⟩ (oNeT0 o)) := by
  intro pins s σ H x y v u Q I rx ry q
  obtain ⟨ρ, L, d, e, hh, r1, r2, q⟩ := q
  unfold oNeT0 at q
  split at q
  · rename_i ds
    cases r1 with
    | tup s1 t1 =>
      cases r2 with
      | tup s2 t2 =>
        cases t2
        obtain rfl : v = Value.ref _ := rx
        obtain rfl : u = Value.ref _ := ry
        obtain ⟨its, rv, ht, _⟩ := I.tuple s1.sq
        obtain ⟨its2, rv2, ht2, _⟩ := I.tuple s2.sq
        cases rv2
        refine SeqAt.RcNeAt.tuples (e := fun _ => false) ht ht2 (by omega) (fun j h1 h2 => absurd h2 (by simp)) X.prog X.w X.xe _ ⟨.bl (!ds.isEmpty), H, I, ?_, LfO.same q hh (.bl _)⟩
        show Value.bool _ = Value.bool _
        have hl : its.length = ds.length := by rw [← rv.length, t1.length]
        cases ds with
        | nil =>
          have : its = [] := List.eq_nil_of_length_eq_zero hl
          subst this
          rfl
        | cons a b =>
          have hne : (its.toArray.size == 0) = false := by rw [List.size_toArray, hl]; rfl
          show Value.bool (!(_ && (its.toArray.size == ([] : List Value).toArray.size))) = Value.bool true
          rw [show (its.toArray.size == ([] : List Value).toArray.size) = false from hne, Bool.and_false]
          rfl
  · exact h pins s σ H x y v u Q I rx ry ⟨ρ, L, d, e, hh, r1, r2, q⟩
end Tw
end

section
set_option Elab.async false
set_option linter.all false
set_option maxRecDepth 100000
set_option maxHeartbeats 1000000
/-! Tw, part Xn: what behind a run holds (plain reasoning, one goal a step). -/
namespace Tw
open PySem PySem.Spec L2
abbrev XQ := Nat → List (Str × D) → List O → Prop
abbrev noX : XQ := fun _ _ _ => False
abbrev noS : En → List O → Prop := fun _ _ => False
abbrev noR : D → List O → Prop := fun _ _ => False
def Wp {α : Type} (r : Rs α) (Q : α → List O → Prop) (E : XQ) : Prop := match r with
  | .ok a L => Q a L
  | .ex c fs L => E c fs L
  | .bad => False
def WpO (r : OD) (Q : D → List O → Prop) : Prop := match r with
  | some (d, L) => Q d L
  | none => False
def WpS (r : RS) (N : En → List O → Prop) (R : D → List O → Prop) (B C : En → List O → Prop) (E : XQ) : Prop := match r with
  | .nx ε L => N ε L
  | .rt d L => R d L
  | .bk ε L => B ε L
  | .ct ε L => C ε L
  | .ex c fs _ L => E c fs L
  | .bad => False
section
variable {α β : Type} {ε : En} {L : List O} {E : XQ} {N B C : En → List O → Prop} {R Q : D → List O → Prop} {QB : Bool → List O → Prop} {QA : List D → List O → Prop} {QI : Src → List O → Prop} {QO : Option Int → List O → Prop}
theorem Wp.imp {r : Rs α} {Q Q' : α → List O → Prop} {E E' : XQ} (h : Wp r Q E) (k : ∀ a L, Q a L → Q' a L) (ke : ∀ c fs L, E c fs L → E' c fs L) : Wp r Q' E' := by
  cases r with
  | ok a L => exact k _ _ h
  | ex c fs L => exact ke _ _ _ h
  | bad => exact h
theorem WpS.imp {r : RS} {N' B' C' : En → List O → Prop} {R' : D → List O → Prop} {E' : XQ} (h : WpS r N R B C E) (kn : ∀ ε L, N ε L → N' ε L) (kr : ∀ d L, R d L → R' d L) (kb : ∀ ε L, B ε L → B' ε L) (kc : ∀ ε L, C ε L → C' ε L) (ke : ∀ c fs L, E c fs L → E' c fs L) : WpS r N' R' B' C' E' := by
  cases r with
  | nx ε L => exact kn _ _ h
  | rt d L => exact kr _ _ h
  | bk ε L => exact kb _ _ h
  | ct ε L => exact kc _ _ h
  | ex c fs ε L => exact ke _ _ _ h
  | bad => exact h
theorem wp_ok {r : Rs α} {Q : α → List O → Prop} (h : Wp r Q noX) : ∃ a L, r = .ok a L ∧ Q a L := by
  cases r with
  | ok a L => exact ⟨a, L, rfl, h⟩
  | ex c fs L => exact h.elim
  | bad => exact h.elim
theorem wp_eq {r : Rs α} {Q : α → List O → Prop} {a : α} {L : List O} (h : r = .ok a L) (q : Q a L) : Wp r Q E := by rw [h]; exact q
theorem wp_bind {r : Rs α} {f : α → List O → Rs β} {Q : β → List O → Prop} (h : Wp r (fun a L => Wp (f a L) Q E) E) : Wp (r.bind f) Q E := by
  cases r with
  | ok a L => exact h
  | ex c fs L => exact h
  | bad => exact h
theorem wp_bindS {r : Rs α} {f : α → List O → RS} (h : Wp r (fun a L => WpS (f a L) N R B C E) E) : WpS (r.bindS ε f) N R B C E := by
  cases r with
  | ok a L => exact h
  | ex c fs L => exact h
  | bad => exact h
theorem wp_ofO {r : OD} (h : WpO r Q) : Wp (ofO r) Q E := by
  cases r with
  | none => exact h
  | some p => exact h
theorem wpo {r : OD} {d : D} {L : List O} (h : r = some (d, L)) (q : Q d L) : WpO r Q := by rw [h]; exact q
/-! values looked at -/
def qBl (x : D) (Q : Bool → Prop) : Prop := match x with
  | .bl b => Q b
  | _ => False
theorem qbl {b : Bool} {Q : Bool → Prop} (h : Q b) : qBl (.bl b) Q := h
def qTr (L : List O) (x : D) (Q : Bool → Prop) : Prop := match truth L x with
  | some b => Q b
  | none => False
theorem qtr {x : D} {b : Bool} {Q : Bool → Prop} (h : truth L x = some b) (q : Q b) : qTr L x Q := by unfold qTr; rw [h]; exact q
def qIf (b : Bool) (P1 P2 : Prop) : Prop := match b with
  | true => P1
  | false => P2
theorem qif_t {b : Bool} {P1 P2 : Prop} (h : b = true) (q : P1) : qIf b P1 P2 := by subst h; exact q
theorem qif_f {b : Bool} {P1 P2 : Prop} (h : b = false) (q : P2) : qIf b P1 P2 := by subst h; exact q
theorem qif {b : Bool} {P1 P2 : Prop} (h1 : b = true → P1) (h2 : b = false → P2) : qIf b P1 P2 := by
  cases b with
  | true => exact h1 rfl
  | false => exact h2 rfl
theorem qif_dec {p : Prop} [Decidable p] {P1 P2 : Prop} (h1 : p → P1) (h2 : ¬ p → P2) : qIf (decide p) P1 P2 := qif (fun h => h1 (of_decide_eq_true h)) (fun h => h2 (of_decide_eq_false h))
theorem qif_ndec {p : Prop} [Decidable p] {P1 P2 : Prop} (h1 : ¬ p → P1) (h2 : p → P2) : qIf (!decide p) P1 P2 := qif (fun h => h1 (by simpa using h)) (fun h => h2 (by simpa using h))
/-! statements -/
theorem wp_seq {a b : MS} (h : WpS (a ε L) (fun ε1 L1 => WpS (b ε1 L1) N R B C E) R B C E) : WpS (mSeq a b ε L) N R B C E := by
  unfold mSeq
  cases ha : a ε L <;> rw [ha] at h <;> exact h
theorem wp_next (h : N ε L) : WpS (mNext ε L) N R B C E := h
theorem wp_brk (h : B ε L) : WpS (mBrk ε L) N R B C E := h
theorem wp_cnt (h : C ε L) : WpS (mCnt ε L) N R B C E := h
theorem wp_retN (h : R .non L) : WpS (mRetN ε L) N R B C E := h
theorem wp_ret {a : ME} (h : Wp (a ε L) R E) : WpS (mRet a ε L) N R B C E := wp_bindS h
theorem wp_drop {a : ME} (h : Wp (a ε L) (fun _ L1 => N ε L1) E) : WpS (mDrop a ε L) N R B C E := wp_bindS h
theorem wp_set {i : Nat} {a : ME} (h : Wp (a ε L) (fun x L1 => N (ε.set i (some x)) L1) E) : WpS (mSet i a ε L) N R B C E := wp_bindS h
theorem wp_if {c : MB} {a b : MS} (h : Wp (c ε L) (fun t L1 => qIf t (WpS (a ε L1) N R B C E) (WpS (b ε L1) N R B C E)) E) : WpS (mIf c a b ε L) N R B C E := wp_bindS (h.imp (fun t L1 q => by cases t <;> exact q) fun _ _ _ q => q)
theorem wp_asg {a : ME} {t : MG} (h : Wp (a ε L) (fun x L1 => ∃ ε1, t.f x ε = some ε1 ∧ N ε1 L1) E) : WpS (mAsg a t ε L) N R B C E := wp_bindS (h.imp (fun x L1 ⟨ε1, e, q⟩ => by rw [e]; exact q) fun _ _ _ q => q)
theorem wp_par {i j : Nat} {r : MA} (h : Wp (r ε L) (fun xs L1 => ∃ x y, xs = [x, y] ∧ N ((ε.set i (some x)).set j (some y)) L1) E) : WpS (mPar i j r ε L) N R B C E := wp_bindS (h.imp (fun x L1 ⟨x, y, e, q⟩ => by subst e; exact q) fun _ _ _ q => q)
theorem wp_fldset {c : Nat} {f : Str} {o v : ME} (h : Wp (v ε L) (fun y L1 => Wp (o ε L1) (fun x L2 => ∃ n fs, x = .ref n ∧ L2[n]? = some (.ins c fs) ∧ fs.length < 100 ∧ N ε (L2.set n (.ins c (putD f y fs)))) E) E) : WpS (mFldSet c f o v ε L) N R B C E :=
  wp_bindS (h.imp (fun y L1 h => wp_bindS (h.imp (fun x L2 ⟨n, fs, e1, e2, e3, q⟩ => by
    subst e1
    simp only [e2]
    rw [if_pos ⟨trivial, e3⟩]
    exact q) fun _ _ _ q => q)) fun _ _ _ q => q)
theorem wp_put {o i v : ME} (h : Wp (v ε L) (fun z L1 => Wp (o ε L1) (fun x L2 => Wp (i ε L2) (fun y L3 => ∃ L4, oPut x y z L3 = some L4 ∧ N ε L4) E) E) E) : WpS (mPut o i v ε L) N R B C E :=
  wp_bindS (h.imp (fun z L1 h => wp_bindS (h.imp (fun x L2 h => wp_bindS (h.imp (fun y L3 ⟨L4, e, q⟩ => by
    rw [e]
    exact q) fun _ _ _ q => q)) fun _ _ _ q => q)) fun _ _ _ q => q)
theorem wp_raise {c : Nat} {fn : List Str} {args : MA} (h : Wp (args ε L) (fun ds L1 => ds.length = fn.length ∧ E c (fn.zip ds) L1) E) : WpS (mRaise c fn args ε L) N R B C E :=
  wp_bindS (h.imp (fun ds L1 ⟨e, q⟩ => by rw [if_pos e]; exact q) fun _ _ _ q => q)
theorem wp_try {sub : Nat → Option Bool} {i : Nat} {body : MS} {m : SM} (h : WpS (body ε L) N R B C (fun c fs L1 => ∃ b, sub c = some b ∧ qIf b (∀ ε1, ε1.length = ε.length → Wp (m c fs ε1 L1) R noX) (E c fs L1))) (hl : ∀ c fs ε1 L1, body ε L = .ex c fs ε1 L1 → i < ε1.length ∧ ε1.length = ε.length) : WpS (mTry sub i body m ε L) N R B C E := by
  unfold mTry
  cases hb : body ε L with
  | ex c fs ε1 L1 =>
    rw [hb] at h
    obtain ⟨b, e, q⟩ := h
    obtain ⟨g1, g2⟩ := hl c fs ε1 L1 hb
    simp only [e]
    cases b with
    | true =>
      simp only
      rw [if_pos g1]
      obtain ⟨d, L2, e2, q2⟩ := wp_ok (q (ε1.set i none) (by rw [List.length_set]; exact g2))
      rw [e2]
      exact q2
    | false => exact q
  | _ => rw [hb] at h; exact h
/-! loops -/
theorem wp_loop {src : Src} {t : MG} {body : MS} (I : Nat → En → List O → Prop) {ds : List D} (hok : ∀ i ε L, I i ε L → src.ok L = true) :
    ∀ (k : Nat) (ε : En) (L : List O), I k ε L → (∀ i d ε L, ds[i]? = some d → I (k + i) ε L → ∃ ε1, t.f d ε = some ε1 ∧ WpS (body ε1 L) (I (k + i + 1)) R N (I (k + i + 1)) E) → (∀ ε L, I (k + ds.length) ε L → N ε L) → WpS (loopF src t body ds ε L) N R B C E := by
  induction ds with
  | nil =>
    intro k ε L h0 _ fin
    unfold loopF
    rw [if_pos (hok _ _ _ h0)]
    exact fin _ _ h0
  | cons d ds ih =>
    intro k ε L h0 step fin
    obtain ⟨ε1, e1, w⟩ := step 0 d ε L rfl h0
    have rest : ∀ ε2 L2, I (k + 1) ε2 L2 → WpS (loopF src t body ds ε2 L2) N R B C E := fun ε2 L2 h => ih (k + 1) ε2 L2 h (fun i d ε L e hI => by
      have := step (i + 1) d ε L (by simpa using e) (by rw [show k + (i + 1) = k + 1 + i by omega]; exact hI)
      rw [show k + (i + 1) = k + 1 + i by omega] at this
      exact this) fun ε L h => fin ε L (by rw [List.length_cons, show k + (ds.length + 1) = k + 1 + ds.length by omega]; exact h)
    unfold loopF
    rw [if_pos (hok _ _ _ h0), e1]
    simp only
    cases hb : body ε1 L with
    | nx ε2 L2 => rw [hb] at w; exact rest _ _ w
    | ct ε2 L2 => rw [hb] at w; exact rest _ _ w
    | bk ε2 L2 => rw [hb] at w; exact w
    | rt d L2 => rw [hb] at w; exact w
    | ex c fs ε2 L2 => rw [hb] at w; exact w
    | bad => rw [hb] at w; exact w
theorem wp_for {mi : MI} {t : MG} {body : MS} (h : Wp (mi ε L) (fun src L1 => WpS (loopF src t body src.ds ε L1) N R B C E) E) : WpS (mFor mi t body ε L) N R B C E := wp_bindS h
theorem wp_loop0 {src : Src} {t : MG} {body : MS} {ds : List D} (I : Nat → En → List O → Prop) (hok : ∀ i ε L, I i ε L → src.ok L = true) (h0 : I 0 ε L) (step : ∀ i d ε L, ds[i]? = some d → I i ε L → ∃ ε1, t.f d ε = some ε1 ∧ WpS (body ε1 L) (I (i + 1)) R N (I (i + 1)) E) (fin : ∀ ε L, I ds.length ε L → N ε L) : WpS (loopF src t body ds ε L) N R B C E :=
  wp_loop I hok 0 ε L h0 (fun i d ε L e hI => by
    rw [Nat.zero_add] at hI ⊢
    exact step i d ε L e hI) fun ε L h => fin ε L (by rw [Nat.zero_add] at h; exact h)
/-! arguments -/
theorem wp_nil (h : QA [] L) : Wp (mNil ε L) QA E := h
theorem wp_cons {a : ME} {r : MA} (h : Wp (a ε L) (fun x L1 => Wp (r ε L1) (fun xs L2 => QA (x :: xs) L2) E) E) : Wp (mCons a r ε L) QA E := wp_bind (h.imp (fun x L1 h => wp_bind h) fun _ _ _ q => q)
/-! expressions -/
theorem wp_C {d : D} (h : Q d L) : Wp (mC d ε L) Q E := h
theorem wp_var {i : Nat} {d : D} (e : ε[i]? = some (some d)) (h : Q d L) : Wp (mVar i ε L) Q E := by unfold mVar; rw [e]; exact h
theorem wp_op2 {o : O2} {a b : ME} (h : Wp (a ε L) (fun x L1 => Wp (b ε L1) (fun y L2 => WpO (o x y L2) Q) E) E) : Wp (mOp2 o a b ε L) Q E := wp_bind (h.imp (fun x L1 h => wp_bind (h.imp (fun y L2 h => wp_ofO h) fun _ _ _ q => q)) fun _ _ _ q => q)
theorem wp_op1 {o : D → List O → OD} {a : ME} (h : Wp (a ε L) (fun x L1 => WpO (o x L1) Q) E) : Wp (mOp1 o a ε L) Q E := wp_bind (h.imp (fun x L1 h => wp_ofO h) fun _ _ _ q => q)
theorem wp_fn {oc : OC} {args : MA} (h : Wp (args ε L) (fun ds L1 => WpO (oc ds L1) Q) E) : Wp (mFn oc args ε L) Q E := wp_bind (h.imp (fun x L1 h => wp_ofO h) fun _ _ _ q => q)
theorem wp_call {F : FS} {args : MA} (h : Wp (args ε L) (fun ds L1 => Wp (F ds L1) Q E) E) : Wp (mCall F args ε L) Q E := wp_bind h
theorem wp_chain {o o' : O2} {a b c : ME} (h : Wp (a ε L) (fun x L1 => Wp (b ε L1) (fun y L2 => WpO (o x y L2) (fun z L3 => qBl z fun t => qIf t (Wp (c ε L3) (fun w L4 => WpO (o' y w L4) Q) E) (Q (.bl false) L3))) E) E) : Wp (mChain o o' a b c ε L) Q E :=
  wp_bind (h.imp (fun x L1 h => wp_bind (h.imp (fun y L2 h => by
    cases ho : o x y L2 with
    | none => rw [ho] at h; exact h.elim
    | some p =>
      obtain ⟨z, L3⟩ := p
      rw [ho] at h
      cases z with
      | bl t =>
        cases t with
        | true => exact wp_bind (r := c ε L3) (f := fun w L4 => ofO (o' y w L4)) (Wp.imp (show Wp (c ε L3) (fun w L4 => WpO (o' y w L4) Q) E from h) (fun w L4 h => wp_ofO h) fun _ _ _ q => q)
        | false => exact h
      | _ => exact h.elim) fun _ _ _ q => q)) fun _ _ _ q => q)
theorem wp_nopart (h : QO none L) : Wp (mNoPart ε L) QO E := h
theorem wp_part {a : ME} (h : Wp (a ε L) (fun x L1 => ∃ i, x = .int i ∧ QO (some i) L1) E) : Wp (mPart a ε L) QO E := wp_bind (h.imp (fun x L1 ⟨i, e, q⟩ => by subst e; exact q) fun _ _ _ q => q)
theorem wp_sl {a : ME} {lo hi : MO} (h : Wp (a ε L) (fun x L1 => Wp (lo ε L1) (fun i L2 => Wp (hi ε L2) (fun j L3 => WpO (oSl x i j L3) Q) E) E) E) : Wp (mSl a lo hi ε L) Q E := wp_bind (h.imp (fun x L1 h => wp_bind (h.imp (fun i L2 h => wp_bind (h.imp (fun j L3 h => wp_ofO h) fun _ _ _ q => q)) fun _ _ _ q => q)) fun _ _ _ q => q)
theorem wp_tup {r : MA} (h : Wp (r ε L) (fun xs L1 => xs.length ≤ most ∧ Q (.tup xs) L1) E) : Wp (mTup r ε L) Q E := wp_bind (h.imp (fun xs L1 ⟨e, q⟩ => by rw [if_pos e]; exact q) fun _ _ _ q => q)
theorem wp_lst {r : MA} (h : Wp (r ε L) (fun xs L1 => xs.length ≤ most ∧ Q (.ref L1.length) (L1 ++ [.lst xs])) E) : Wp (mLst r ε L) Q E := wp_bind (h.imp (fun xs L1 ⟨e, q⟩ => by rw [if_pos e]; exact q) fun _ _ _ q => q)
theorem wp_dic0 (h : Q (.ref L.length) (L ++ [.dic false []])) : Wp (mDic0 ε L) Q E := h
theorem wp_nd0 (h : Q (.ref L.length) (L ++ [.nd false []])) : Wp (mNd0 ε L) Q E := h
theorem wp_tst {a : ME} (h : Wp (a ε L) (fun x L1 => qBl x fun b => QB b L1) E) : Wp (mTst a ε L) QB E := wp_bind (h.imp (fun x L1 q => by
  cases x with
  | bl b => exact q
  | _ => exact q.elim) fun _ _ _ q => q)
theorem wp_tru {a : ME} (h : Wp (a ε L) (fun x L1 => qTr L1 x fun b => QB b L1) E) : Wp (mTru a ε L) QB E := wp_bind (h.imp (fun x L1 q => by
  unfold qTr at q
  cases ht : truth L1 x with
  | none => rw [ht] at q; exact q.elim
  | some b => rw [ht] at q; exact q) fun _ _ _ q => q)
theorem wp_notB {a : MB} (h : Wp (a ε L) (fun b L1 => QB (!b) L1) E) : Wp (mNotB a ε L) QB E := wp_bind h
theorem wp_andB {a b : MB} (h : Wp (a ε L) (fun t L1 => qIf t (Wp (b ε L1) QB E) (QB false L1)) E) : Wp (mAndB a b ε L) QB E := wp_bind (h.imp (fun t L1 q => by cases t <;> exact q) fun _ _ _ q => q)
theorem wp_orB {a b : MB} (h : Wp (a ε L) (fun t L1 => qIf t (QB true L1) (Wp (b ε L1) QB E)) E) : Wp (mOrB a b ε L) QB E := wp_bind (h.imp (fun t L1 q => by cases t <;> exact q) fun _ _ _ q => q)
theorem wp_yes (h : QB true L) : Wp (mYes ε L) QB E := h
theorem wp_andV {a b : ME} (h : Wp (a ε L) (fun x L1 => qTr L1 x fun t => qIf t (Wp (b ε L1) Q E) (Q x L1)) E) : Wp (mAndV a b ε L) Q E := wp_bind (h.imp (fun x L1 q => by
  unfold qTr at q
  cases ht : truth L1 x with
  | none => rw [ht] at q; exact q.elim
  | some b => rw [ht] at q; cases b <;> exact q) fun _ _ _ q => q)
theorem wp_orV {a b : ME} (h : Wp (a ε L) (fun x L1 => qTr L1 x fun t => qIf t (Q x L1) (Wp (b ε L1) Q E)) E) : Wp (mOrV a b ε L) Q E := wp_bind (h.imp (fun x L1 q => by
  unfold qTr at q
  cases ht : truth L1 x with
  | none => rw [ht] at q; exact q.elim
  | some b => rw [ht] at q; cases b <;> exact q) fun _ _ _ q => q)
theorem wp_notV {a : ME} (h : Wp (a ε L) (fun x L1 => qTr L1 x fun t => Q (.bl (!t)) L1) E) : Wp (mNotV a ε L) Q E := wp_bind (h.imp (fun x L1 q => by
  unfold qTr at q
  cases ht : truth L1 x with
  | none => rw [ht] at q; exact q.elim
  | some b => rw [ht] at q; exact q) fun _ _ _ q => q)
theorem wp_ifE {c : MB} {a b : ME} (h : Wp (c ε L) (fun t L1 => qIf t (Wp (a ε L1) Q E) (Wp (b ε L1) Q E)) E) : Wp (mIfE c a b ε L) Q E := wp_bind (h.imp (fun t L1 q => by cases t <;> exact q) fun _ _ _ q => q)
theorem wp_fld {c : Nat} {f : Str} {a : ME} (h : Wp (a ε L) (fun x L1 => ∃ n fs d, x = .ref n ∧ L1[n]? = some (.ins c fs) ∧ fs.lookup f = some d ∧ Q d L1) E) : Wp (mFld c f a ε L) Q E := wp_bind (h.imp (fun x L1 ⟨n, fs, d, e1, e2, e3, q⟩ => by
  subst e1
  simp only [e2, if_true, e3]
  exact q) fun _ _ _ q => q)
theorem wp_isi {f : Tag → Option Bool} {a : ME} (h : Wp (a ε L) (fun x L1 => ∃ t b, tagD L1 x = some t ∧ f t = some b ∧ Q (.bl b) L1) E) : Wp (mIsi f a ε L) Q E := wp_bind (h.imp (fun x L1 ⟨t, b, e1, e2, q⟩ => by
  simp only [e1, Option.bind_some, e2]
  exact q) fun _ _ _ q => q)
theorem wp_bmL {om : OM} {o : ME} {args : MA} (h : Wp (o ε L) (fun x L1 => isLst L1 x = true ∧ Wp (args ε L1) (fun ds L2 => WpO (om x ds L2) Q) E) E) : Wp (mBmL om o args ε L) Q E := wp_bind (h.imp (fun x L1 ⟨e, h⟩ => by
  rw [if_pos e]
  exact wp_bind (h.imp (fun ds L2 h => wp_ofO h) fun _ _ _ q => q)) fun _ _ _ q => q)
theorem wp_meth {c : Nat} {m : Str} {F : FS} {o : ME} {args : MA} (h : Wp (o ε L) (fun x L1 => isIns c m L1 x = true ∧ Wp (args ε L1) (fun ds L2 => Wp (F (x :: ds) L2) Q E) E) E) : Wp (mMeth c m F o args ε L) Q E := wp_bind (h.imp (fun x L1 ⟨e, h⟩ => by
  rw [if_pos e]
  exact wp_bind h) fun _ _ _ q => q)
theorem wp_prop {c : Nat} {F : FS} {o : ME} (h : Wp (o ε L) (fun x L1 => isIns c Str.empty L1 x = true ∧ Wp (F [x] L1) Q noX) E) : Wp (mProp c F o ε L) Q E := wp_bind (h.imp (fun x L1 ⟨e, h⟩ => by
  rw [if_pos e]
  obtain ⟨d, L2, e2, q⟩ := wp_ok h
  rw [e2]
  exact q) fun _ _ _ q => q)
theorem wp_listRg1 {a : ME} (h : Wp (a ε L) (fun x L1 => ∃ n, x = .int n ∧ (-1000000 ≤ n ∧ n ≤ 1000000) ∧ Q (.ref L1.length) (L1 ++ [.lst (rngD 0 n.toNat)])) E) : Wp (mListRg1 a ε L) Q E := wp_bind (h.imp (fun x L1 ⟨n, e1, e2, q⟩ => by
  subst e1
  simp only
  rw [if_pos (show -1000000 ≤ n ∧ n ≤ (most : Int) from e2)]
  exact q) fun _ _ _ q => q)
/-! what a loop draws from -/
theorem wp_iterT {a : ME} (h : Wp (a ε L) (fun x L1 => ∃ ds, x = .tup ds ∧ QI ⟨ds, none⟩ L1) E) : Wp (mIter a ε L) QI E := wp_bind (h.imp (fun x L1 ⟨ds, e, q⟩ => by subst e; exact q) fun _ _ _ q => q)
theorem wp_iterL {a : ME} (h : Wp (a ε L) (fun x L1 => ∃ n ds, x = .ref n ∧ L1[n]? = some (.lst ds) ∧ QI ⟨ds, some (n, .lst ds)⟩ L1) E) : Wp (mIter a ε L) QI E := wp_bind (h.imp (fun x L1 ⟨n, ds, e, e2, q⟩ => by subst e; simp only [e2]; exact q) fun _ _ _ q => q)
theorem wp_enumT {a : ME} (h : Wp (a ε L) (fun x L1 => ∃ ds, x = .tup ds ∧ QI ⟨enumD 0 ds, none⟩ L1) E) : Wp (mEnum a ε L) QI E := wp_bind (h.imp (fun x L1 ⟨ds, e, q⟩ => by subst e; exact q) fun _ _ _ q => q)
theorem wp_enumL {a : ME} (h : Wp (a ε L) (fun x L1 => ∃ n ds, x = .ref n ∧ L1[n]? = some (.lst ds) ∧ QI ⟨enumD 0 ds, some (n, .lst ds)⟩ L1) E) : Wp (mEnum a ε L) QI E := wp_bind (h.imp (fun x L1 ⟨n, ds, e, e2, q⟩ => by subst e; simp only [e2]; exact q) fun _ _ _ q => q)
theorem wp_rng1 {a : ME} (h : Wp (a ε L) (fun x L1 => ∃ n, x = .int n ∧ (-1000000 ≤ n ∧ n ≤ 1000000) ∧ QI ⟨rngD 0 n.toNat, none⟩ L1) E) : Wp (mRng1 a ε L) QI E := wp_bind (h.imp (fun x L1 ⟨n, e1, e2, q⟩ => by
  subst e1
  simp only
  rw [if_pos e2]
  exact q) fun _ _ _ q => q)
theorem wp_rng2 {a b : ME} (h : Wp (a ε L) (fun x L1 => Wp (b ε L1) (fun y L2 => ∃ lo n, x = .int lo ∧ y = .int n ∧ (-1000000 ≤ lo ∧ lo ≤ 1000000 ∧ -1000000 ≤ n ∧ n ≤ 1000000) ∧ QI ⟨rngD lo (n - lo).toNat, none⟩ L2) E) E) : Wp (mRng2 a b ε L) QI E := wp_bind (h.imp (fun x L1 h => wp_bind (h.imp (fun y L2 ⟨lo, n, e1, e2, e3, q⟩ => by
  subst e1 e2
  simp only
  rw [if_pos e3]
  exact q) fun _ _ _ q => q)) fun _ _ _ q => q)
theorem wp_zip {a b : ME} (h : Wp (a ε L) (fun x L1 => Wp (b ε L1) (fun y L2 => ∃ ds es, x = .tup ds ∧ y = .tup es ∧ QI ⟨zipD ds es, none⟩ L2) E) E) : Wp (mZip a b ε L) QI E := wp_bind (h.imp (fun x L1 h => wp_bind (h.imp (fun y L2 ⟨ds, es, e1, e2, q⟩ => by
  subst e1 e2
  exact q) fun _ _ _ q => q)) fun _ _ _ q => q)
/-! comprehensions -/
theorem wp_comp {vs : List Nat} {mi : MI} {t : MG} {tt : MB} {te : ME} (h : Wp (mi ε L) (fun src L1 => Wp (loopC src t tt te L1.length (wipeE ε vs) src.ds (L1 ++ [.lst []])) Q E) E) : Wp (mComp vs mi t tt te ε L) Q E := wp_bind h
theorem wp_loopC {src : Src} {t : MG} {tt : MB} {te : ME} {n : Nat} (I : Nat → List D → List O → Prop) (hok : ∀ i acc L, I i acc L → src.ok L = true ∧ L[n]? = some (.lst acc)) :
    ∀ (ds : List D) (k : Nat) (acc : List D) (L : List O), I k acc L → (∀ i d acc L, ds[i]? = some d → I (k + i) acc L → acc.length < most ∧ ∃ ε1, t.f d ε = some ε1 ∧ Wp (tt ε1 L) (fun b L2 => qIf b (Wp (te ε1 L2) (fun y L3 => L3[n]? = some (.lst acc) ∧ I (k + i + 1) (acc ++ [y]) (L3.set n (.lst (acc ++ [y])))) noX) (I (k + i + 1) acc L2)) noX) → (∀ acc L, I (k + ds.length) acc L → Q (.ref n) L) → Wp (loopC src t tt te n ε ds L) Q E
  | [], k, acc, L, h0, _, fin => by
    unfold loopC
    rw [if_pos (hok _ _ _ h0).1]
    exact fin _ _ h0
  | d :: ds, k, acc, L, h0, step, fin => by
    obtain ⟨hm, ε1, e1, w⟩ := step 0 d acc L rfl h0
    have rest : ∀ acc2 L2, I (k + 1) acc2 L2 → Wp (loopC src t tt te n ε ds L2) Q E := fun acc2 L2 h => wp_loopC I hok ds (k + 1) acc2 L2 h (fun i d acc L e hI => by
      have := step (i + 1) d acc L (by simpa using e) (by rw [show k + (i + 1) = k + 1 + i by omega]; exact hI)
      rw [show k + (i + 1) = k + 1 + i by omega] at this
      exact this) fun acc L h => fin acc L (by rw [List.length_cons, show k + (ds.length + 1) = k + 1 + ds.length by omega]; exact h)
    unfold loopC
    rw [if_pos (hok _ _ _ h0).1, e1]
    simp only
    obtain ⟨b, L2, eb, qb⟩ := wp_ok w
    rw [eb]
    cases b with
    | false => exact rest _ _ qb
    | true =>
      obtain ⟨y, L3, ey, q1, q2⟩ := wp_ok (show Wp (te ε1 L2) _ noX from qb)
      simp only [Rs.nox, Rs.bind, if_true, ey, q1]
      rw [if_pos hm]
      exact rest _ _ q2
/-! a def -/
theorem wp_runF {n N' : Nat} {m : MS} {ds : List D} (hl : ds.length = n) (h : WpS (m (ds.map some ++ List.replicate (N' - n) none) L) (fun _ L1 => Q .non L1) Q noS noS E) : Wp (runF n N' m ds L) Q E := by
  unfold runF
  rw [if_pos hl]
  cases hm : m (ds.map some ++ List.replicate (N' - n) none) L <;> rw [hm] at h <;> exact h
end
/-! operators -/
theorem intOp {a b : Int} : PyData.eqv (.int a) (.int b) = decide (a = b) := by
  by_cases h : a = b
  · subst h
    rw [decide_eq_true rfl]
    simp [PyData.eqv]
  · rw [decide_eq_false h]
    simp [PyData.eqv, h]
theorem oEq_int {a b : Int} {L : List O} : oEq (.int a) (.int b) L = some (.bl (decide (a = b)), L) := by
  unfold oEq eqData
  have h1 : toPy L pyDeep (.int a) = some (.int a) := rfl
  have h2 : toPy L pyDeep (.int b) = some (.int b) := rfl
  have s : ∀ i : Int, SeqAt.shaped (.int i) = true := fun _ => rfl
  simp only [h1, h2, s, and_self, if_true, intOp]
  rfl
theorem oNe_int {a b : Int} {L : List O} : oNe (.int a) (.int b) L = some (.bl (!decide (a = b)), L) := by
  unfold oNe eqData
  have h1 : toPy L pyDeep (.int a) = some (.int a) := rfl
  have h2 : toPy L pyDeep (.int b) = some (.int b) := rfl
  have s : ∀ i : Int, SeqAt.shaped (.int i) = true := fun _ => rfl
  simp only [h1, h2, s, and_self, if_true, intOp]
  rfl
theorem wpo_idxL {Q : D → List O → Prop} {n : Nat} {i : Int} {xs : List D} {d : D} {L : List O} (h : L[n]? = some (.lst xs)) (h2 : atI xs i = some d) (q : Q d L) : WpO (oIdx (.ref n) (.int i) L) Q := by
  unfold oIdx
  simp only [h]
  rw [h2]
  exact q
theorem wpo_idxT {Q : D → List O → Prop} {i : Int} {xs : List D} {d : D} {L : List O} (h2 : atI xs i = some d) (q : Q d L) : WpO (oIdx (.tup xs) (.int i) L) Q := by
  unfold oIdx
  simp only
  rw [h2]
  exact q
theorem wpo_len {Q : D → List O → Prop} {n : Nat} {xs : List D} {L : List O} (h : L[n]? = some (.lst xs)) (q : Q (.int xs.length) L) : WpO (cLen [.ref n] L) Q := by
  unfold cLen
  simp only [h]
  exact q
theorem wp_chain_pure {o o' : O2} {a b c : ME} {ε : En} {L : List O} {E : XQ} {Q : D → List O → Prop} {x y w : D} {b1 b2 : Bool} (ha : a ε L = .ok x L) (hb : b ε L = .ok y L) (hc : c ε L = .ok w L) (h1 : o x y L = some (.bl b1, L)) (h2 : o' y w L = some (.bl b2, L)) (q : Q (.bl (b1 && b2)) L) : Wp (mChain o o' a b c ε L) Q E := by
  refine wp_chain (wp_eq ha (wp_eq hb ?_))
  rw [h1]
  cases b1 with
  | true => exact wp_eq hc (by rw [h2]; exact q)
  | false => exact q
theorem wp_seq_cut {a b : MS} {ε : En} {L : List O} {N B C : En → List O → Prop} {R : D → List O → Prop} {E : XQ} (M : En → List O → Prop) (h : WpS (a ε L) M R B C E) (h2 : ∀ ε1 L1, M ε1 L1 → WpS (b ε1 L1) N R B C E) : WpS (mSeq a b ε L) N R B C E := wp_seq (h.imp h2 (fun _ _ q => q) (fun _ _ q => q) (fun _ _ q => q) fun _ _ _ q => q)
theorem wp_cut {α : Type} {r : Rs α} {Q : α → List O → Prop} {E : XQ} (M : α → List O → Prop) (h : Wp r M E) (h2 : ∀ a L, M a L → Q a L) : Wp r Q E := h.imp h2 fun _ _ _ q => q
end Tw
end

section
set_option Elab.async false
set_option linter.all false
set_option maxRecDepth 100000
set_option maxHeartbeats 4000000
namespace K06
open PySem PySem.Spec L2 Tw
open PyProof.Rows (envOfC)
def top (i : Nat) : Stmt := PySem.Challenge.pw_treewaits_k06_ways_refused.main.body.getD i (.Pass ⟨0, 0, 0, 0⟩)
abbrev d_WORDS : D := (.tup [(.str "take"), (.str "try"), (.str "leap")])
abbrev d_MODES : D := (.tup [(.str "shared"), (.str "alone"), (.str "rising")])
abbrev d_MOST_POINTS : D := (.int 4)
abbrev d_MOST_TAKES : D := (.int 5)
def gi_Way_K2_hops : List Nat := [0, 1, 2, 3]
def gd_Way_K2_hops : List D → List D → List D := fun us ws => pick gi_Way_K2_hops (us ++ ([] ++ ws))
def m_law_bag : MS := (mSeq (mSet 2 (mIfE (mTst (mOp2 oLt (mVar 1) (mFn cLen (mCons (mVar 0) mNil)))) (mOp2 oIdx (mVar 0) (mVar 1)) (mC (.int 0))))
  (mSeq (mSet 3 (mIfE (mTst (mOp2 oGe (mFn cAbs (mCons (mVar 2) mNil)) (mOp2 oPow (mC (.int 10)) (mC (.int 18))))) (mFn cAbs (mCons (mVar 2) mNil)) (mC (.int 0))))
  (mRet (mLst (mCons (mVar 3) (mCons (mOp2 oAdd (mOp2 oAdd (mOp2 oMul (mOp2 oMod (mFn cInt (mCons (mVar 2) mNil)) (mOp2 oAdd (mOp2 oPow (mC (.int 10)) (mC (.int 18))) (mC (.int 3)))) (mC (.int 11))) (mOp2 oMul (mC (.int 7907)) (mVar 1))) (mC (.int 613))) (mCons (mC (.int 0)) mNil)))))))
def Fulaw_bag : FS := runF 2 4 m_law_bag
def Gulaw_bag : FS := lrun Fulaw_bag
def m_law_take : MS := (mSeq (mIf (mTst (mOp2 oGt (mOp2 oIdx (mVar 0) (mC (.int 0))) (mC (.int 0)))) (mSeq (mSet 2 (mOp2 oMod (mFn cInt (mCons (mOp2 oIdx (mVar 0) (mC (.int 0))) mNil)) (mVar 1)))
  (mSeq (mPut (mVar 0) (mC (.int 0)) (mOp2 oFdiv (mOp2 oIdx (mVar 0) (mC (.int 0))) (mVar 1)))
  (mRet (mVar 2)))) mNext)
  (mSeq (mPut (mVar 0) (mC (.int 2)) (mOp2 oAdd (mOp2 oIdx (mVar 0) (mC (.int 2))) (mC (.int 1))))
  (mSeq (mSet 3 (mOp2 oMod (mOp2 oPow (mFn cInt (mCons (mOp2 oAdd (mOp2 oIdx (mVar 0) (mC (.int 1))) (mOp2 oMul (mC (.int 7919)) (mOp2 oIdx (mVar 0) (mC (.int 2))))) mNil)) (mC (.int 3))) (mC (.int 1000000000000000003))))
  (mRet (mOp2 oMod (mOp2 oFdiv (mFn cInt (mCons (mOp2 oMul (mOp2 oFdiv (mVar 3) (mC (.int 17))) (mOp2 oAdd (mOp2 oMod (mOp2 oFdiv (mVar 3) (mC (.int 31))) (mC (.int 1000003))) (mOp2 oMul (mC (.int 7)) (mOp2 oIdx (mVar 0) (mC (.int 2)))))) mNil)) (mC (.int 1009))) (mVar 1))))))
def Fulaw_take : FS := runF 2 4 m_law_take
def Gulaw_take : FS := lrun Fulaw_take
def m_law_points : MS := (mSeq (mSet 2 (mLst mNil))
  (mSeq (mFor (mRng1 (mCall Gulaw_take (mCons (mVar 0) (mCons (mOp2 oAdd (mVar 1) (mC (.int 1))) mNil)))) (gNm 3) (mDrop (mBmL oAppend (mVar 2) (mCons (mIfE (mTst (mOp2 oLt (mCall Gulaw_take (mCons (mVar 0) (mCons (mC (.int 5)) mNil))) (mC (.int 2)))) (mTup (mCons (mC (.str "parent")) mNil)) (mTup (mCons (mC (.str "child")) (mCons (mCall Gulaw_take (mCons (mVar 0) (mCons (mOp2 oAdd (mVar 3) (mC (.int 1))) mNil))) mNil)))) mNil))))
  (mRet (mFn cTuple (mCons (mVar 2) mNil)))))
def Fulaw_points : FS := runF 2 4 m_law_points
def Gulaw_points : FS := lrun Fulaw_points
def m_law_of : MS := (mRet (mOp2 oIdx (mVar 1) (mCall Gulaw_take (mCons (mVar 0) (mCons (mFn cLen (mCons (mVar 1) mNil)) mNil)))))
def Fulaw_of : FS := runF 2 2 m_law_of
def Gulaw_of : FS := Fulaw_of
def m_law_takes : MS := (mSeq (mPar 2 3 (mCons (mListRg1 (mVar 1)) (mCons (mLst mNil) mNil)))
  (mSeq (mSet 4 (mOp2 oAdd (mC (.int 1)) (mCall Gulaw_take (mCons (mVar 0) (mCons (mFn cMin (mCons (mC (.int 5)) (mCons (mVar 1) mNil))) mNil)))))
  (mSeq (mSet 5 (mCall Gulaw_of (mCons (mVar 0) (mCons (mLst (mCons (mC (.int 0)) (mCons (mC (.int 0)) (mCons (mCall Gulaw_take (mCons (mVar 0) (mCons (mVar 4) mNil))) mNil)))) mNil))))
  (mSeq (mFor (mRng1 (mVar 4)) (gNm 6) (mSeq (mSet 7 (mBmL oPop (mVar 2) (mCons (mCall Gulaw_take (mCons (mVar 0) (mCons (mFn cLen (mCons (mVar 2) mNil)) mNil))) mNil)))
  (mSeq (mSet 8 (mChain oLe oLe (mC (.int 1)) (mVar 6) (mVar 5)))
  (mSeq (mSet 9 (mCall Gulaw_of (mCons (mVar 0) (mCons (mLst (mCons (mC (.str "take")) (mCons (mC (.str "take")) (mCons (mC (.str "take")) (mCons (mC (.str "take")) (mCons (mIfE (mTru (mVar 8)) (mC (.str "leap")) (mC (.str "try"))) mNil)))))) mNil))))
  (mSeq (mSet 10 (mLst (mCons (mC (.str "shared")) (mCons (mC (.str "alone")) (mCons (mC (.str "alone")) mNil)))))
  (mSeq (mIf (mAndB (mTst (mOp2 oGt (mVar 6) (mC (.int 0)))) (mAndB (mNotB (mTru (mVar 8))) (mTst (mOp2 oNe (mOp2 oIdx (mOp2 oIdx (mVar 3) (mOp1 oNeg (mC (.int 1)))) (mC (.int 2))) (mC (.str "shared")))))) (mDrop (mBmL oAppend (mVar 10) (mCons (mC (.str "rising")) mNil))) mNext)
  (mDrop (mBmL oAppend (mVar 3) (mCons (mTup (mCons (mVar 9) (mCons (mVar 7) (mCons (mCall Gulaw_of (mCons (mVar 0) (mCons (mVar 10) mNil))) mNil)))) mNil)))))))))
  (mRet (mTup (mCons (mFn cTuple (mCons (mVar 3) mNil)) (mCons (mVar 5) mNil))))))))
def Fulaw_takes : FS := runF 2 11 m_law_takes
def Gulaw_takes : FS := lrun Fulaw_takes
def m_law_parts : MS := (mSeq (mSet 1 (mCall Gulaw_points (mCons (mVar 0) (mCons (mC (.int 4)) mNil))))
  (mSeq (mAsg (mCall Gulaw_takes (mCons (mVar 0) (mCons (mOp2 oAdd (mFn cLen (mCons (mVar 1) mNil)) (mC (.int 1))) mNil))) (gTupM 2 (gsCons (gNm 2) (gsCons (gNm 3) gsNil))))
  (mRet (mTup (mCons (mVar 1) (mCons (mVar 2) (mCons (mVar 3) mNil)))))))
def Fulaw_parts : FS := runF 1 4 m_law_parts
def Gulaw_parts : FS := lrun Fulaw_parts
def m_law_whole : MS := (mRet (mAndV (mIsi (isiT .int []) (mVar 0)) (mNotV (mIsi (isiT .bl []) (mVar 0)))))
def Fulaw_whole : FS := runF 1 1 m_law_whole
def Gulaw_whole : FS := Fulaw_whole
def m_law_is_place : MS := (mSeq (mIf (mTst (mOp2 oEqDt (mVar 0) (mTup (mCons (mC (.str "parent")) mNil)))) (mRet (mC (.bl true))) mNext)
  (mSeq (mIf (mOrB (mNotB (mTru (mIsi (isiT .tup []) (mVar 0)))) (mOrB (mTst (mOp2 oNe (mFn cLen (mCons (mVar 0) mNil)) (mC (.int 2)))) (mTst (mOp2 oNe (mOp2 oIdx (mVar 0) (mC (.int 0))) (mC (.str "child")))))) (mRet (mC (.bl false))) mNext)
  (mRet (mAndV (mCall Gulaw_whole (mCons (mOp2 oIdx (mVar 0) (mC (.int 1))) mNil)) (mChain oLe oLe (mC (.int 0)) (mOp2 oIdx (mVar 0) (mC (.int 1))) (mVar 1))))))
def Fulaw_is_place : FS := runF 2 2 m_law_is_place
def Gulaw_is_place : FS := Fulaw_is_place
def m_law_is_take : MS := (mSeq (mSet 4 (mOp2 oIdx (mVar 0) (mVar 1)))
  (mSeq (mIf (mOrB (mNotB (mTru (mIsi (isiT .tup []) (mVar 4)))) (mTst (mOp2 oNe (mFn cLen (mCons (mVar 4) mNil)) (mC (.int 3))))) (mRet (mC (.bl false))) mNext)
  (mSeq (mAsg (mVar 4) (gTupM 3 (gsCons (gNm 5) (gsCons (gNm 6) (gsCons (gNm 7) gsNil)))))
  (mSeq (mIf (mOrB (mNotB (mTru (mCall Gulaw_whole (mCons (mVar 6) mNil)))) (mNotB (mTst (mChain oLe oLe (mC (.int 0)) (mVar 6) (mVar 2))))) (mRet (mC (.bl false))) mNext)
  (mSeq (mIf (mTst (mOp2 oNotIn (mVar 5) (mLst (mCons (mC (.str "take")) (mCons (mIfE (mTst (mChain oLt oLe (mC (.int 0)) (mVar 1) (mVar 3))) (mC (.str "leap")) (mC (.str "try"))) mNil))))) (mRet (mC (.bl false))) mNext)
  (mSeq (mIf (mOrB (mTst (mOp2 oNotIn (mVar 7) (mLst (mCons (mC (.str "shared")) (mCons (mC (.str "alone")) (mCons (mC (.str "rising")) mNil)))))) (mTst (mOp2 oIn (mVar 6) (mComp [8] (mRng1 (mVar 1)) (gNm 8) mYes (mOp2 oIdx (mOp2 oIdx (mVar 0) (mVar 8)) (mC (.int 1))))))) (mRet (mC (.bl false))) mNext)
  (mRet (mOrV (mOp2 oNe (mVar 7) (mC (.str "rising"))) (mAndV (mOp2 oGt (mVar 1) (mVar 3)) (mAndV (mOp2 oGt (mVar 1) (mC (.int 0))) (mOp2 oNe (mOp2 oIdx (mOp2 oIdx (mVar 0) (mOp2 oSub (mVar 1) (mC (.int 1)))) (mC (.int 2))) (mC (.str "shared")))))))))))))
def Fulaw_is_take : FS := runF 4 9 m_law_is_take
def Gulaw_is_take : FS := Fulaw_is_take
def m_law_fault : MS := (mSeq (mIf (mOrB (mNotB (mTru (mIsi (isiT .tup []) (mVar 0)))) (mTst (mOp2 oGt (mFn cLen (mCons (mVar 0) mNil)) (mC (.int 4))))) (mRet (mTup (mCons (mC (.str "points")) (mCons (mOp1 oNeg (mC (.int 1))) mNil)))) mNext)
  (mSeq (mFor (mRng1 (mFn cLen (mCons (mVar 0) mNil))) (gNm 3) (mIf (mNotB (mTru (mCall Gulaw_is_place (mCons (mOp2 oIdx (mVar 0) (mVar 3)) (mCons (mVar 3) mNil))))) (mRet (mTup (mCons (mC (.str "points")) (mCons (mVar 3) mNil)))) mNext))
  (mSeq (mIf (mOrB (mNotB (mTru (mCall Gulaw_whole (mCons (mVar 2) mNil)))) (mTst (mOp2 oLt (mVar 2) (mC (.int 0))))) (mRet (mTup (mCons (mC (.str "hops")) (mCons (mOp1 oNeg (mC (.int 1))) mNil)))) mNext)
  (mSeq (mIf (mOrB (mNotB (mTru (mIsi (isiT .tup []) (mVar 1)))) (mNotB (mTst (mChain oLe oLe (mC (.int 1)) (mFn cLen (mCons (mVar 1) mNil)) (mC (.int 5)))))) (mRet (mTup (mCons (mC (.str "takes")) (mCons (mOp1 oNeg (mC (.int 1))) mNil)))) mNext)
  (mSeq (mIf (mTst (mOp2 oGe (mVar 2) (mFn cLen (mCons (mVar 1) mNil)))) (mRet (mTup (mCons (mC (.str "hops")) (mCons (mOp1 oNeg (mC (.int 1))) mNil)))) mNext)
  (mSeq (mFor (mRng1 (mFn cLen (mCons (mVar 1) mNil))) (gNm 3) (mIf (mNotB (mTru (mCall Gulaw_is_take (mCons (mVar 1) (mCons (mVar 3) (mCons (mFn cLen (mCons (mVar 0) mNil)) (mCons (mVar 2) mNil))))))) (mRet (mTup (mCons (mC (.str "takes")) (mCons (mVar 3) mNil)))) mNext))
  (mRet (mC .non))))))))
def Fulaw_fault : FS := runF 3 4 m_law_fault
def Gulaw_fault : FS := Fulaw_fault
def m_law_any : MS := (mSeq (mSet 1 (mLst (mCons (mC .non) (mCons (mC (.bl true)) (mCons (mC (.bl false)) (mCons (mC (.int 0)) (mCons (mOp1 oNeg (mC (.int 1))) (mCons (mC (.int 5)) (mCons (mOp2 oSub (mOp2 oPow (mC (.int 10)) (mC (.int 20))) (mC (.int 1))) (mCons (mC (.str "")) (mCons (mC (.str "child")) (mCons (mC (.str "parent")) (mCons (mC (.str "take")) (mCons (mC (.str "shared")) (mCons (mLst mNil) (mCons (mTup mNil) (mCons mDic0 mNil)))))))))))))))))
  (mSeq (mSet 1 (mOp2 oAdd (mVar 1) (mLst (mCons (mTup (mCons (mC (.str "parent")) mNil)) (mCons (mTup (mCons (mC (.str "parent")) (mCons (mC (.int 0)) mNil))) (mCons (mLst (mCons (mC (.str "parent")) mNil)) (mCons (mTup (mCons (mC (.str "child")) (mCons (mC (.bl true)) mNil))) (mCons (mTup (mCons (mC (.str "child")) (mCons (mC (.str "0")) mNil))) (mCons (mTup (mCons (mC (.str "child")) (mCons (mOp1 oNeg (mC (.int 1))) mNil))) (mCons (mTup (mCons (mC (.str "child")) mNil)) mNil))))))))))
  (mSeq (mSet 1 (mOp2 oAdd (mVar 1) (mLst (mCons (mTup (mCons (mC (.str "take")) (mCons (mC (.int 0)) (mCons (mC (.str "alone")) mNil)))) (mCons (mTup (mCons (mC (.str "take")) (mCons (mC (.int 0)) mNil))) (mCons (mLst (mCons (mC (.str "take")) (mCons (mC (.int 0)) (mCons (mC (.str "alone")) mNil)))) (mCons (mTup (mCons (mC (.str "take")) (mCons (mC (.bl true)) (mCons (mC (.str "alone")) mNil)))) (mCons (mTup (mCons (mC (.int 1)) (mCons (mC (.int 2)) (mCons (mC (.int 3)) mNil)))) mNil))))))))
  (mSeq (mSet 1 (mOp2 oAdd (mVar 1) (mLst (mCons (mTup (mCons (mC (.str "hop")) (mCons (mC (.int 0)) (mCons (mC (.str "alone")) mNil)))) (mCons (mTup (mCons (mC (.str "take")) (mCons (mC (.int 9)) (mCons (mC (.str "shared")) mNil)))) (mCons (mTup (mCons (mC (.str "try")) (mCons (mC (.int 0)) (mCons (mC (.str "Alone")) mNil)))) (mCons (mTup (mCons (mC (.str "leap")) (mCons (mC (.int 0)) (mCons (mC (.str "alone")) mNil)))) mNil)))))))
  (mRet (mCall Gulaw_of (mCons (mVar 0) (mCons (mOp2 oAdd (mVar 1) (mLst (mCons (mTup (mCons (mTup (mCons (mC (.str "parent")) mNil)) mNil)) mNil))) mNil))))))))
def Fulaw_any : FS := runF 1 2 m_law_any
def Gulaw_any : FS := Fulaw_any
def m_law_with : MS := (mRet (mOp2 oAdd (mOp2 oAdd (mSl (mVar 0) mNoPart (mPart (mVar 1))) (mTup (mCons (mVar 2) mNil))) (mSl (mVar 0) (mPart (mOp2 oAdd (mVar 1) (mC (.int 1)))) mNoPart)))
def Fulaw_with : FS := runF 3 3 m_law_with
def Gulaw_with : FS := Fulaw_with
def m_law_spoilt : MS := (mSeq (mSet 4 (mCall Gulaw_take (mCons (mVar 0) (mCons (mC (.int 9)) mNil))))
  (mSeq (mIf (mTst (mOp2 (oEqT0 oEq) (mVar 4) (mC (.int 0)))) (mSeq (mSet 5 (mLst (mCons (mOp2 oAdd (mVar 1) (mOp2 oMul (mTup (mCons (mTup (mCons (mC (.str "parent")) mNil)) mNil)) (mC (.int 5)))) (mCons (mFn cList (mCons (mVar 1) mNil)) (mCons (mC .non) (mCons (mCall Gulaw_any (mCons (mVar 0) mNil)) mNil))))))
  (mRet (mTup (mCons (mCall Gulaw_of (mCons (mVar 0) (mCons (mVar 5) mNil))) (mCons (mVar 2) (mCons (mVar 3) mNil)))))) mNext)
  (mSeq (mIf (mAndB (mTst (mOp2 (oEqT0 oEq) (mVar 4) (mC (.int 1)))) (mTst (mOp2 (oNeT0 oNe) (mVar 1) (mTup mNil)))) (mRet (mTup (mCons (mCall Gulaw_with (mCons (mVar 1) (mCons (mCall Gulaw_take (mCons (mVar 0) (mCons (mFn cLen (mCons (mVar 1) mNil)) mNil))) (mCons (mCall Gulaw_any (mCons (mVar 0) mNil)) mNil)))) (mCons (mVar 2) (mCons (mVar 3) mNil))))) mNext)
  (mSeq (mIf (mTst (mOp2 (oEqT0 oEq) (mVar 4) (mC (.int 2)))) (mSeq (mSet 6 (mCall Gulaw_take (mCons (mVar 0) (mCons (mOp2 oAdd (mFn cLen (mCons (mVar 1) mNil)) (mC (.int 1))) mNil))))
  (mSeq (mSet 7 (mTup (mCons (mC (.str "child")) (mCons (mOp2 oAdd (mFn cLen (mCons (mVar 1) mNil)) (mCall Gulaw_take (mCons (mVar 0) (mCons (mC (.int 2)) mNil)))) mNil))))
  (mRet (mTup (mCons (mOp2 oAdd (mOp2 oAdd (mSl (mVar 1) mNoPart (mPart (mVar 6))) (mTup (mCons (mVar 7) mNil))) (mSl (mVar 1) (mPart (mVar 6)) mNoPart)) (mCons (mVar 2) (mCons (mVar 3) mNil))))))) mNext)
  (mSeq (mIf (mTst (mOp2 (oEqT0 oEq) (mVar 4) (mC (.int 3)))) (mSeq (mSet 8 (mFn cLen (mCons (mVar 2) mNil)))
  (mRet (mTup (mCons (mVar 1) (mCons (mVar 2) (mCons (mCall Gulaw_of (mCons (mVar 0) (mCons (mLst (mCons (mOp1 oNeg (mC (.int 1))) (mCons (mVar 8) (mCons (mOp2 oSub (mVar 8) (mC (.int 1))) (mCons (mC (.bl true)) (mCons (mC .non) (mCons (mC (.str "0")) (mCons (mOp2 oPow (mC (.int 10)) (mC (.int 9))) (mCons (mOp2 oAdd (mVar 3) (mC (.int 1))) mNil))))))))) mNil))) mNil)))))) mNext)
  (mSeq (mIf (mTst (mOp2 (oEqT0 oEq) (mVar 4) (mC (.int 4)))) (mSeq (mSet 5 (mLst (mCons (mTup mNil) (mCons (mFn cList (mCons (mVar 2) mNil)) (mCons (mC .non) (mCons (mOp2 oAdd (mVar 2) (mVar 2)) (mCons (mOp2 oMul (mVar 2) (mC (.int 5))) (mCons (mCall Gulaw_any (mCons (mVar 0) mNil)) mNil))))))))
  (mRet (mTup (mCons (mVar 1) (mCons (mCall Gulaw_of (mCons (mVar 0) (mCons (mVar 5) mNil))) (mCons (mVar 3) mNil)))))) mNext)
  (mSeq (mSet 6 (mCall Gulaw_take (mCons (mVar 0) (mCons (mFn cLen (mCons (mVar 2) mNil)) mNil))))
  (mSeq (mIf (mTst (mOp2 (oEqT0 oEq) (mVar 4) (mC (.int 5)))) (mRet (mTup (mCons (mVar 1) (mCons (mCall Gulaw_with (mCons (mVar 2) (mCons (mVar 6) (mCons (mCall Gulaw_any (mCons (mVar 0) mNil)) mNil)))) (mCons (mVar 3) mNil))))) mNext)
  (mSeq (mIf (mTst (mOp2 (oEqT0 oEq) (mVar 4) (mC (.int 6)))) (mSeq (mSet 9 (mCall Gulaw_of (mCons (mVar 0) (mCons (mLst (mCons (mC (.str "take")) (mCons (mC (.str "try")) (mCons (mC (.str "leap")) (mCons (mC (.str "")) (mCons (mC .non) mNil)))))) mNil))))
  (mRet (mTup (mCons (mVar 1) (mCons (mCall Gulaw_with (mCons (mVar 2) (mCons (mVar 6) (mCons (mOp2 oAdd (mTup (mCons (mVar 9) mNil)) (mSl (mOp2 oIdx (mVar 2) (mVar 6)) (mPart (mC (.int 1))) mNoPart)) mNil)))) (mCons (mVar 3) mNil)))))) mNext)
  (mSeq (mIf (mTst (mOp2 (oEqT0 oEq) (mVar 4) (mC (.int 7)))) (mSeq (mSet 10 (mCall Gulaw_of (mCons (mVar 0) (mCons (mLst (mCons (mC (.str "rising")) (mCons (mC (.str "rising")) (mCons (mC (.str "shared")) (mCons (mC (.str "ALONE")) (mCons (mC .non) (mCons (mC (.int 0)) mNil))))))) mNil))))
  (mRet (mTup (mCons (mVar 1) (mCons (mCall Gulaw_with (mCons (mVar 2) (mCons (mVar 6) (mCons (mOp2 oAdd (mSl (mOp2 oIdx (mVar 2) (mVar 6)) mNoPart (mPart (mC (.int 2)))) (mTup (mCons (mVar 10) mNil))) mNil)))) (mCons (mVar 3) mNil)))))) mNext)
  (mSeq (mSet 11 (mCall Gulaw_of (mCons (mVar 0) (mCons (mLst (mCons (mOp2 oIdx (mOp2 oIdx (mVar 2) (mC (.int 0))) (mC (.int 1))) (mCons (mOp2 oIdx (mOp2 oIdx (mVar 2) (mOp1 oNeg (mC (.int 1)))) (mC (.int 1))) (mCons (mFn cLen (mCons (mVar 1) mNil)) (mCons (mOp2 oAdd (mFn cLen (mCons (mVar 1) mNil)) (mC (.int 1))) (mCons (mOp1 oNeg (mC (.int 1))) (mCons (mC (.bl true)) (mCons (mC (.str "0")) (mCons (mC .non) mNil))))))))) mNil))))
  (mRet (mTup (mCons (mVar 1) (mCons (mCall Gulaw_with (mCons (mVar 2) (mCons (mVar 6) (mCons (mTup (mCons (mOp2 oIdx (mOp2 oIdx (mVar 2) (mVar 6)) (mC (.int 0))) (mCons (mVar 11) (mCons (mOp2 oIdx (mOp2 oIdx (mVar 2) (mVar 6)) (mC (.int 2))) mNil)))) mNil)))) (mCons (mVar 3) mNil))))))))))))))))
def Fulaw_spoilt : FS := runF 4 12 m_law_spoilt
def Gulaw_spoilt : FS := Fulaw_spoilt
def m_law_is_whole : MS := (mSeq (mIf (mOrB (mNotB (mTru (mIsi (isiT .tup []) (mVar 0)))) (mOrB (mNotB (mTru (mIsi (isiT .tup []) (mVar 1)))) (mTst (mOp2 (oEqT0 oEq) (mVar 1) (mTup mNil))))) (mRet (mC (.bl false))) mNext)
  (mRet (mFn cAll (mCons (mComp [2] (mIter (mVar 1)) (gNm 2) mYes (mAndV (mIsi (isiT .tup []) (mVar 2)) (mOp2 (oEqT0 oEq) (mFn cLen (mCons (mVar 2) mNil)) (mC (.int 3))))) mNil))))
def Fulaw_is_whole : FS := runF 2 3 m_law_is_whole
def Gulaw_is_whole : FS := Fulaw_is_whole
def m_is_integer : MS := (mRet (mAndV (mIsi (isiT .int []) (mVar 0)) (mNotV (mIsi (isiT .bl []) (mVar 0)))))
def F_is_integer : FS := runF 1 1 m_is_integer
def G_is_integer : FS := F_is_integer
def m_is_place : MS := (mSeq (mIf (mOrB (mNotB (mTru (mIsi (isiT .tup []) (mVar 0)))) (mOrB (mTst (mOp2 oNotIn (mFn cLen (mCons (mVar 0) mNil)) (mTup (mCons (mC (.int 1)) (mCons (mC (.int 2)) mNil))))) (mNotB (mTru (mIsi (isiT .str []) (mOp2 oIdx (mVar 0) (mC (.int 0)))))))) (mRet (mC (.bl false))) mNext)
  (mSeq (mIf (mTst (mOp2 oEq (mFn cLen (mCons (mVar 0) mNil)) (mC (.int 1)))) (mRet (mOp2 oEq (mOp2 oIdx (mVar 0) (mC (.int 0))) (mC (.str "parent")))) mNext)
  (mRet (mAndV (mOp2 oEq (mOp2 oIdx (mVar 0) (mC (.int 0))) (mC (.str "child"))) (mAndV (mCall G_is_integer (mCons (mOp2 oIdx (mVar 0) (mC (.int 1))) mNil)) (mChain oLe oLe (mC (.int 0)) (mOp2 oIdx (mVar 0) (mC (.int 1))) (mVar 1)))))))
def F_is_place : FS := runF 2 2 m_is_place
def G_is_place : FS := F_is_place
def m_checked_points : MS := (mSeq (mIf (mOrB (mNotB (mTru (mIsi (isiT .tup []) (mVar 0)))) (mTst (mOp2 oGt (mFn cLen (mCons (mVar 0) mNil)) (mC d_MOST_POINTS)))) (mRaise 3 ["part", "index"] (mCons (mC (.str "points")) (mCons (mOp1 oNeg (mC (.int 1))) mNil))) mNext)
  (mFor (mEnum (mVar 0)) (gTupM 2 (gsCons (gNm 1) (gsCons (gNm 2) gsNil))) (mIf (mNotB (mTru (mCall G_is_place (mCons (mVar 2) (mCons (mVar 1) mNil))))) (mRaise 3 ["part", "index"] (mCons (mC (.str "points")) (mCons (mVar 1) mNil))) mNext)))
def F_checked_points : FS := runF 1 3 m_checked_points
def G_checked_points : FS := F_checked_points
def m_is_take : MS := (mSeq (mIf (mOrB (mNotB (mTru (mIsi (isiT .tup []) (mVar 0)))) (mTst (mOp2 oNe (mFn cLen (mCons (mVar 0) mNil)) (mC (.int 3))))) (mRet (mC (.bl false))) mNext)
  (mSeq (mAsg (mVar 0) (gTupM 3 (gsCons (gNm 2) (gsCons (gNm 3) (gsCons (gNm 4) gsNil)))))
  (mSeq (mIf (mOrB (mNotB (mTru (mIsi (isiT .str []) (mVar 2)))) (mOrB (mNotB (mTru (mIsi (isiT .str []) (mVar 4)))) (mNotB (mTru (mCall G_is_integer (mCons (mVar 3) mNil)))))) (mRet (mC (.bl false))) mNext)
  (mRet (mAndV (mOp2 oIn (mVar 2) (mC d_WORDS)) (mAndV (mOp2 oIn (mVar 4) (mC d_MODES)) (mChain oLe oLt (mC (.int 0)) (mVar 3) (mVar 1))))))))
def F_is_take : FS := runF 2 5 m_is_take
def G_is_take : FS := F_is_take
def m_is_allowed : MS := (mSeq (mAsg (mOp2 oIdx (mVar 0) (mVar 1)) (gTupM 3 (gsCons (gNm 3) (gsCons (gNm 4) (gsCons (gNm 5) gsNil)))))
  (mSeq (mIf (mTst (mOp2 oIn (mVar 4) (mComp [7] (mIter (mSl (mVar 0) mNoPart (mPart (mVar 1)))) (gNm 7) mYes (mOp2 oIdx (mVar 7) (mC (.int 1)))))) (mRet (mC (.bl false))) mNext)
  (mSeq (mSet 6 (mChain oLe oLe (mC (.int 1)) (mVar 1) (mVar 2)))
  (mSeq (mIf (mTst (mOp2 oEq (mVar 3) (mIfE (mTru (mVar 6)) (mC (.str "try")) (mC (.str "leap"))))) (mRet (mC (.bl false))) mNext)
  (mRet (mOrV (mOp2 oNe (mVar 5) (mC (.str "rising"))) (mAndV (mNotV (mVar 6)) (mAndV (mOp2 oGt (mVar 1) (mC (.int 0))) (mOp2 oNe (mOp2 oIdx (mOp2 oIdx (mVar 0) (mOp2 oSub (mVar 1) (mC (.int 1)))) (mC (.int 2))) (mC (.str "shared")))))))))))
def F_is_allowed : FS := runF 3 8 m_is_allowed
def G_is_allowed : FS := F_is_allowed
def m_checked_takes : MS := (mSeq (mIf (mOrB (mNotB (mTru (mCall G_is_integer (mCons (mVar 2) mNil)))) (mTst (mOp2 oLt (mVar 2) (mC (.int 0))))) (mRaise 3 ["part", "index"] (mCons (mC (.str "hops")) (mCons (mOp1 oNeg (mC (.int 1))) mNil))) mNext)
  (mSeq (mIf (mOrB (mNotB (mTru (mIsi (isiT .tup []) (mVar 1)))) (mNotB (mTst (mChain oLe oLe (mC (.int 1)) (mFn cLen (mCons (mVar 1) mNil)) (mC d_MOST_TAKES))))) (mRaise 3 ["part", "index"] (mCons (mC (.str "takes")) (mCons (mOp1 oNeg (mC (.int 1))) mNil))) mNext)
  (mSeq (mIf (mTst (mOp2 oGe (mVar 2) (mFn cLen (mCons (mVar 1) mNil)))) (mRaise 3 ["part", "index"] (mCons (mC (.str "hops")) (mCons (mOp1 oNeg (mC (.int 1))) mNil))) mNext)
  (mFor (mEnum (mVar 1)) (gTupM 2 (gsCons (gNm 3) (gsCons (gNm 4) gsNil))) (mIf (mOrB (mNotB (mTru (mCall G_is_take (mCons (mVar 4) (mCons (mOp2 oAdd (mFn cLen (mCons (mVar 0) mNil)) (mC (.int 1))) mNil))))) (mNotB (mTru (mCall G_is_allowed (mCons (mVar 1) (mCons (mVar 3) (mCons (mVar 2) mNil))))))) (mRaise 3 ["part", "index"] (mCons (mC (.str "takes")) (mCons (mVar 3) mNil))) mNext)))))
def F_checked_takes : FS := runF 3 5 m_checked_takes
def G_checked_takes : FS := F_checked_takes
def m_Wayu_initu : MS := (mSeq (mDrop (mCall G_checked_points (mCons (mVar 1) mNil)))
  (mSeq (mDrop (mCall G_checked_takes (mCons (mVar 1) (mCons (mVar 2) (mCons (mVar 3) mNil)))))
  (mSeq (mFldSet 12 "places" (mVar 0) (mVar 1))
  (mSeq (mFldSet 12 "locks" (mVar 0) (mVar 2))
  (mFldSet 12 "walked" (mVar 0) (mVar 3))))))
def F_Wayu_initu : FS := runF 4 4 m_Wayu_initu
def G_Wayu_initu : FS := F_Wayu_initu
def m_Way_points : MS := (mRet (mFld 12 "places" (mVar 0)))
def F_Way_points : FS := runF 1 1 m_Way_points
def G_Way_points : FS := lrun F_Way_points
def m_Way_takes : MS := (mRet (mFld 12 "locks" (mVar 0)))
def F_Way_takes : FS := runF 1 1 m_Way_takes
def G_Way_takes : FS := lrun F_Way_takes
def m_Way_hops : MS := (mRet (mFld 12 "walked" (mVar 0)))
def F_Way_hops : FS := runF 1 1 m_Way_hops
def G_Way_hops : FS := lrun F_Way_hops
def m_law_alone (c : Nat) : MS := (mSeq (mSet 2 (mLst (mCons (mIsH (subL [(3, false)] c) (mVar 0)) (mCons (mIsH (subL [(3, false)] c) (mVar 0)) (mCons (mIsH (subL [(3, false)] c) (mVar 0)) (mCons (mIsH (subL [(3, false)] c) (mVar 0)) mNil))))))
  (mSeq (mSet 2 (mOp2 oAdd (mVar 2) (mLst (mCons (mIsH (subL [(3, false)] c) (mVar 0)) (mCons (mIsH (subL [(3, false)] c) (mVar 0)) (mCons (mIsH (subL [(3, false)] c) (mVar 0)) (mCons (mIsH (subL [(3, true)] c) (mVar 0)) mNil)))))))
  (mSeq (mSet 2 (mOp2 oAdd (mVar 2) (mLst (mCons (mIsH (subL [(3, false)] c) (mVar 0)) (mCons (mIsH (subL [(3, false)] c) (mVar 0)) (mCons (mIsH (subL [(3, false)] c) (mVar 0)) mNil))))))
  (mRet (mAndV (mIsH (subL [(3, true)] c) (mVar 0)) (mOp2 oEq (mVar 2) (mComp [3] (mRng1 (mC (.int 11))) (gNm 3) mYes (mOp2 oEq (mVar 3) (mVar 1)))))))))
def Fulaw_alone : Nat → FS := fun c => runF 2 4 (m_law_alone c)
def m_law_asked : MS := (mSeq (mTry (subL [(3, true)]) 4 (mSet 3 (mMakeK 12 G_Wayu_initu gd_Way_K2_hops (mCons (mVar 0) (mCons (mVar 1) mNil)) (mCons (mVar 2) mNil))) (xIfE (xTru (xCallX 2 Fulaw_alone (xCons (xPure (mC (.int 7))) xNil))) (xTup (xCons (xPure (mC (.str "fault"))) (xCons (xFld 3 "part") (xCons (xFld 3 "index") xNil)))) (xPure (mTup (mCons (mC (.str "else")) mNil)))))
  (mRet (mTup (mCons (mC (.str "made")) (mCons (mProp 12 G_Way_points (mVar 3)) (mCons (mProp 12 G_Way_takes (mVar 3)) (mCons (mProp 12 G_Way_hops (mVar 3)) mNil)))))))
def Fulaw_asked : FS := runF 3 5 m_law_asked
def Gulaw_asked : FS := Fulaw_asked
def m_law : MS := (mSeq (mFor (mRng1 (mFn cMax (mCons (mC (.int 4)) (mCons (mFn cMin (mCons (mC (.int 8)) (mCons (mFn cLen (mCons (mVar 0) mNil)) mNil))) mNil)))) (gNm 1) (mSeq (mSet 2 (mCall Gulaw_bag (mCons (mVar 0) (mCons (mVar 1) mNil))))
  (mSeq (mAsg (mCall Gulaw_parts (mCons (mVar 2) mNil)) (gTupM 3 (gsCons (gNm 3) (gsCons (gNm 4) (gsCons (gNm 5) gsNil)))))
  (mFor (mRng1 (mC (.int 6))) (gNm 6) (mSeq (mSet 7 (mCall Gulaw_spoilt (mCons (mVar 2) (mCons (mVar 3) (mCons (mVar 4) (mCons (mVar 5) mNil))))))
  (mSeq (mIf (mAndB (mTru (mCall Gulaw_is_whole (mCons (mOp2 oIdx (mVar 7) (mC (.int 0))) (mCons (mOp2 oIdx (mVar 7) (mC (.int 1))) mNil)))) (mTst (mOp2 oEq (mCall Gulaw_take (mCons (mVar 2) (mCons (mC (.int 3)) mNil))) (mC (.int 0))))) (mSet 7 (mCall Gulaw_spoilt (mCons (mVar 2) (mCons (mOp2 oIdx (mVar 7) (mC (.int 0))) (mCons (mOp2 oIdx (mVar 7) (mC (.int 1))) (mCons (mC (.int 0)) mNil)))))) mNext)
  (mSeq (mSet 8 (mCall Gulaw_fault (mCons (mOp2 oIdx (mVar 7) (mC (.int 0))) (mCons (mOp2 oIdx (mVar 7) (mC (.int 1))) (mCons (mOp2 oIdx (mVar 7) (mC (.int 2))) mNil)))))
  (mSeq (mSet 9 (mIfE (mTst (mOp2 oIsN (mVar 8) (mC .non))) (mOp2 oAdd (mTup (mCons (mC (.str "made")) mNil)) (mVar 7)) (mOp2 oAdd (mTup (mCons (mC (.str "fault")) mNil)) (mVar 8))))
  (mSeq (mSet 10 (mFn cReprD (mCons (mVar 7) mNil)))
  (mIf (mOrB (mTst (mOp2 (oNeTx oNe) (mFn cReprD (mCons (mCall Gulaw_asked (mCons (mOp2 oIdx (mVar 7) (mC (.int 0))) (mCons (mOp2 oIdx (mVar 7) (mC (.int 1))) (mCons (mOp2 oIdx (mVar 7) (mC (.int 2))) mNil)))) mNil)) (mFn cReprD (mCons (mVar 9) mNil)))) (mTst (mOp2 (oNeTx oNe) (mFn cReprD (mCons (mVar 7) mNil)) (mVar 10)))) (mRet (mC (.bl false))) mNext))))))))))
  (mRet (mC (.bl true))))
def F_law : FS := runF 1 11 m_law
theorem ap {L X : List O} {n : Nat} {o : O} (h : L[n]? = some o) : (L ++ X)[n]? = some o := by
  rw [List.getElem?_append_left (List.getElem?_eq_some_iff.mp h).1]; exact h
theorem lt_of {L : List O} {n : Nat} {o : O} (h : L[n]? = some o) : n < L.length := (List.getElem?_eq_some_iff.mp h).1
theorem set_same {L : List O} {n : Nat} {o : O} (h : L[n]? = some o) : L.set n o = L := by
  obtain ⟨hn, e⟩ := List.getElem?_eq_some_iff.mp h
  rw [← e]
  exact List.set_getElem_self hn
theorem set_other {L : List O} {n m : Nat} {x o : O} (h : L[n]? = some o) (ne : m ≠ n) : (L.set m x)[n]? = some o := by
  rw [List.getElem?_set_ne ne]; exact h
theorem set_self {L : List O} {n : Nat} {x o : O} (h : L[n]? = some o) : (L.set n x)[n]? = some x := List.getElem?_set_self (lt_of h)
theorem at_end {B : List O} {x : O} : (B ++ [x])[B.length]? = some x := by simp
theorem set_end {B : List O} {x y : O} : (B ++ [x]).set B.length y = B ++ [y] := by simp
theorem seq_nx {a b : MS} {ε ε1 : En} {L L1 : List O} (h : a ε L = .nx ε1 L1) : mSeq a b ε L = b ε1 L1 := by
  unfold mSeq
  rw [h]
theorem seq_rt {a b : MS} {ε : En} {L L1 : List O} {d : D} (h : a ε L = .rt d L1) : mSeq a b ε L = .rt d L1 := by
  unfold mSeq; rw [h]
/-! pieces reckoned one by one -/
theorem mcons_ok {a : ME} {r : MA} {ε : En} {L L1 L2 : List O} {x : D} {xs : List D} (h : a ε L = .ok x L1) (h2 : r ε L1 = .ok xs L2) : mCons a r ε L = .ok (x :: xs) L2 := by
  unfold mCons; rw [h]; simp only [Rs.bind]; rw [h2]
theorem mnil_ok {ε : En} {L : List O} : mNil ε L = .ok [] L := rfl
theorem mone_ok {a : ME} {ε : En} {L L1 : List O} {x : D} (h : a ε L = .ok x L1) : mCons a mNil ε L = .ok [x] L1 := mcons_ok h rfl
theorem mset_ok {i : Nat} {a : ME} {ε : En} {L L1 : List O} {x : D} (h : a ε L = .ok x L1) : mSet i a ε L = .nx (ε.set i (some x)) L1 := by
  unfold mSet; rw [h]; rfl
theorem mfn_ok {oc : OC} {args : MA} {ε : En} {L L1 L2 : List O} {ds : List D} {d : D} (h : args ε L = .ok ds L1) (h2 : oc ds L1 = some (d, L2)) : mFn oc args ε L = .ok d L2 := by
  unfold mFn; rw [h]; simp only [Rs.bind]; rw [h2]; rfl
theorem mop2_ok {o : O2} {a b : ME} {ε : En} {L L1 L2 L3 : List O} {x y z : D} (h : a ε L = .ok x L1) (h2 : b ε L1 = .ok y L2) (h3 : o x y L2 = some (z, L3)) : mOp2 o a b ε L = .ok z L3 := by
  unfold mOp2; rw [h]; simp only [Rs.bind]; rw [h2]; simp only; rw [h3]; rfl
theorem mcall_ok {F : FS} {args : MA} {ε : En} {L L1 : List O} {ds : List D} {r : Rs D} (h : args ε L = .ok ds L1) (h2 : F ds L1 = r) : mCall F args ε L = r := by
  unfold mCall; rw [h]; exact h2
theorem mret_ok {a : ME} {ε : En} {L L1 : List O} {x : D} (h : a ε L = .ok x L1) : mRet a ε L = .rt x L1 := by
  unfold mRet; rw [h]; rfl
theorem mdrop_ok {a : ME} {ε : En} {L L1 : List O} {x : D} (h : a ε L = .ok x L1) : mDrop a ε L = .nx ε L1 := by
  unfold mDrop; rw [h]; rfl
theorem mtup_ok {r : MA} {ε : En} {L L1 : List O} {xs : List D} (h : r ε L = .ok xs L1) (h2 : xs.length ≤ most) : mTup r ε L = .ok (.tup xs) L1 := by
  unfold mTup; rw [h]; simp only [Rs.bind]; rw [if_pos h2]
theorem mlst_ok {r : MA} {ε : En} {L L1 : List O} {xs : List D} (h : r ε L = .ok xs L1) (h2 : xs.length ≤ most) : mLst r ε L = .ok (.ref L1.length) (L1 ++ [.lst xs]) := by
  unfold mLst; rw [h]; simp only [Rs.bind]; rw [if_pos h2]
theorem mtst_ok {a : ME} {ε : En} {L L1 : List O} {b : Bool} (h : a ε L = .ok (.bl b) L1) : mTst a ε L = .ok b L1 := by
  unfold mTst; rw [h]; rfl
theorem mtru_ok {a : ME} {ε : En} {L L1 : List O} {x : D} {b : Bool} (h : a ε L = .ok x L1) (h2 : truth L1 x = some b) : mTru a ε L = .ok b L1 := by
  unfold mTru; rw [h]; simp only [Rs.bind]; rw [h2]
theorem mnotb_ok {a : MB} {ε : En} {L L1 : List O} {b : Bool} (h : a ε L = .ok b L1) : mNotB a ε L = .ok (!b) L1 := by
  unfold mNotB; rw [h]; rfl
theorem mif_t {c : MB} {a b : MS} {ε : En} {L L1 : List O} (h : c ε L = .ok true L1) : mIf c a b ε L = a ε L1 := by
  unfold mIf; rw [h]; rfl
theorem mif_f {c : MB} {a b : MS} {ε : En} {L L1 : List O} (h : c ε L = .ok false L1) : mIf c a b ε L = b ε L1 := by
  unfold mIf; rw [h]; rfl
theorem mife_t {c : MB} {a b : ME} {ε : En} {L L1 : List O} (h : c ε L = .ok true L1) : mIfE c a b ε L = a ε L1 := by
  unfold mIfE; rw [h]; rfl
theorem mife_f {c : MB} {a b : ME} {ε : En} {L L1 : List O} (h : c ε L = .ok false L1) : mIfE c a b ε L = b ε L1 := by
  unfold mIfE; rw [h]; rfl
theorem morb_t {a b : MB} {ε : En} {L L1 : List O} (h : a ε L = .ok true L1) : mOrB a b ε L = .ok true L1 := by
  unfold mOrB; rw [h]; rfl
theorem morb_f {a b : MB} {ε : En} {L L1 : List O} (h : a ε L = .ok false L1) : mOrB a b ε L = b ε L1 := by
  unfold mOrB; rw [h]; rfl
theorem mandb_f {a b : MB} {ε : En} {L L1 : List O} (h : a ε L = .ok false L1) : mAndB a b ε L = .ok false L1 := by
  unfold mAndB; rw [h]; rfl
theorem mandb_t {a b : MB} {ε : En} {L L1 : List O} (h : a ε L = .ok true L1) : mAndB a b ε L = b ε L1 := by
  unfold mAndB; rw [h]; rfl
theorem masg_ok {a : ME} {t : MG} {ε ε1 : En} {L L1 : List O} {x : D} (h : a ε L = .ok x L1) (h2 : t.f x ε = some ε1) : mAsg a t ε L = .nx ε1 L1 := by
  unfold mAsg; rw [h]; simp only [Rs.bindS]; rw [h2]
theorem mpar_ok {i j : Nat} {r : MA} {ε : En} {L L1 : List O} {x y : D} (h : r ε L = .ok [x, y] L1) : mPar i j r ε L = .nx ((ε.set i (some x)).set j (some y)) L1 := by
  unfold mPar; rw [h]; rfl
theorem mfor_ok {mi : MI} {t : MG} {body : MS} {ε : En} {L L1 : List O} {src : Src} {r : RS} (h : mi ε L = .ok src L1) (h2 : loopF src t body src.ds ε L1 = r) : mFor mi t body ε L = r := by
  unfold mFor; rw [h]; exact h2
theorem mbml_ok {om : OM} {o : ME} {args : MA} {ε : En} {L L1 L2 L3 : List O} {x d : D} {ds : List D} (h : o ε L = .ok x L1) (h1 : isLst L1 x = true) (h2 : args ε L1 = .ok ds L2) (h3 : om x ds L2 = some (d, L3)) : mBmL om o args ε L = .ok d L3 := by
  unfold mBmL; rw [h]; simp only [Rs.bind]; rw [if_pos h1, h2]; simp only; rw [h3]; rfl
theorem mrng1_ok {a : ME} {ε : En} {L L1 : List O} {n : Int} (h : a ε L = .ok (.int n) L1) (h1 : -1000000 ≤ n) (h2 : n ≤ 1000000) : mRng1 a ε L = .ok ⟨rngD 0 n.toNat, none⟩ L1 := by
  unfold mRng1; rw [h]; simp only [Rs.bind]; rw [if_pos ⟨h1, h2⟩]
theorem mrng2_ok {a b : ME} {ε : En} {L L1 L2 : List O} {lo n : Int} (h : a ε L = .ok (.int lo) L1) (h0 : b ε L1 = .ok (.int n) L2) (h1 : -1000000 ≤ lo ∧ lo ≤ 1000000 ∧ -1000000 ≤ n ∧ n ≤ 1000000) : mRng2 a b ε L = .ok ⟨rngD lo (n - lo).toNat, none⟩ L2 := by
  unfold mRng2; rw [h]; simp only [Rs.bind]; rw [h0]; simp only; rw [if_pos h1]
theorem runF_rt {n N : Nat} {m : MS} {ds : List D} {L L1 : List O} {d : D} (hl : ds.length = n) (h : m (ds.map some ++ List.replicate (N - n) none) L = .rt d L1) : runF n N m ds L = .ok d L1 := by
  unfold runF; rw [if_pos hl, h]
theorem runF_nx {n N : Nat} {m : MS} {ds : List D} {ε : En} {L L1 : List O} (hl : ds.length = n) (h : m (ds.map some ++ List.replicate (N - n) none) L = .nx ε L1) : runF n N m ds L = .ok .non L1 := by
  unfold runF; rw [if_pos hl, h]
theorem msl_ok {a : ME} {lo hi : MO} {ε : En} {L L1 L2 L3 L4 : List O} {x d : D} {i j : Option Int} (h : a ε L = .ok x L1) (h1 : lo ε L1 = .ok i L2) (h2 : hi ε L2 = .ok j L3) (h3 : oSl x i j L3 = some (d, L4)) : mSl a lo hi ε L = .ok d L4 := by
  unfold mSl; rw [h]; simp only [Rs.bind]; rw [h1]; simp only; rw [h2]; simp only; rw [h3]; rfl
theorem mpart_ok {a : ME} {ε : En} {L L1 : List O} {i : Int} (h : a ε L = .ok (.int i) L1) : mPart a ε L = .ok (some i) L1 := by
  unfold mPart; rw [h]; rfl
theorem mnopart_ok {ε : En} {L : List O} : mNoPart ε L = .ok none L := rfl
theorem mget2_ok {o a b : ME} {ε : En} {L L1 L2 L3 L4 : List O} {x y z d : D} (h : o ε L = .ok x L1) (h1 : isDic L1 x = true) (h2 : a ε L1 = .ok y L2) (h3 : b ε L2 = .ok z L3) (h4 : oGet x y z L3 = some (d, L4)) : mGet2 o a b ε L = .ok d L4 := by
  unfold mGet2; rw [h]; simp only [Rs.bind]; rw [if_pos h1, h2]; simp only; rw [h3]; simp only; rw [h4]; rfl
theorem menum_tup {a : ME} {ε : En} {L L1 : List O} {ds : List D} (h : a ε L = .ok (.tup ds) L1) : mEnum a ε L = .ok ⟨enumD 0 ds, none⟩ L1 := by
  unfold mEnum; rw [h]; rfl
theorem menum_lst {a : ME} {ε : En} {L L1 : List O} {n : Nat} {ds : List D} (h : a ε L = .ok (.ref n) L1) (h1 : L1[n]? = some (.lst ds)) : mEnum a ε L = .ok ⟨enumD 0 ds, some (n, .lst ds)⟩ L1 := by
  unfold mEnum; rw [h]; simp only [Rs.bind]; rw [h1]
theorem miter_tup {a : ME} {ε : En} {L L1 : List O} {ds : List D} (h : a ε L = .ok (.tup ds) L1) : mIter a ε L = .ok ⟨ds, none⟩ L1 := by
  unfold mIter; rw [h]; rfl
theorem miter_lst {a : ME} {ε : En} {L L1 : List O} {n : Nat} {ds : List D} (h : a ε L = .ok (.ref n) L1) (h1 : L1[n]? = some (.lst ds)) : mIter a ε L = .ok ⟨ds, some (n, .lst ds)⟩ L1 := by
  unfold mIter; rw [h]; simp only [Rs.bind]; rw [h1]
theorem mcomp_ok {vs : List Nat} {mi : MI} {t : MG} {tt : MB} {te : ME} {ε : En} {L L1 : List O} {src : Src} {r : Rs D} (h : mi ε L = .ok src L1) (h2 : loopC src t tt te L1.length (wipeE ε vs) src.ds (L1 ++ [.lst []]) = r) : mComp vs mi t tt te ε L = r := by
  unfold mComp; rw [h]; exact h2
theorem mprop_ok {c : Nat} {F : FS} {o : ME} {ε : En} {L L1 L2 : List O} {x d : D} (h : o ε L = .ok x L1) (h1 : isIns c Str.empty L1 x = true) (h2 : F [x] L1 = .ok d L2) : mProp c F o ε L = .ok d L2 := by
  unfold mProp; rw [h]; simp only [Rs.bind]; rw [if_pos h1, h2]; rfl
theorem mlistrg1_ok {a : ME} {ε : En} {L L1 : List O} {n : Int} (h : a ε L = .ok (.int n) L1) (h1 : -1000000 ≤ n) (h2 : n ≤ 1000000) : mListRg1 a ε L = .ok (.ref L1.length) (L1 ++ [.lst (rngD 0 n.toNat)]) := by
  unfold mListRg1; rw [h]; simp only [Rs.bind]; rw [if_pos ⟨h1, h2⟩]
/-! ### the plain law -/
def BagI (k : Int) (o : O) : Prop := ∃ a b c : Int, o = .lst [.int a, .int b, .int c] ∧ 0 ≤ a ∧ 0 ≤ b ∧ b < 12000000000000000000 ∧ 0 ≤ c ∧ 0 ≤ k ∧ c + k ≤ 1000000000000
theorem BagI.pure {k : Int} {o : O} (h : BagI k o) : refsO o = [] := by
  obtain ⟨a, b, c, rfl, _⟩ := h
  rfl
theorem BagI.mono {k j : Int} {o : O} (h : BagI k o) (h0 : 0 ≤ j) (hj : j ≤ k) : BagI j o := by
  obtain ⟨a, b, c, rfl, h1, h2, h3, h4, h5, h6⟩ := h
  exact ⟨a, b, c, rfl, h1, h2, h3, h4, h0, by omega⟩
theorem take_spec {k m : Int} {o : O} (h : BagI (k + 1) o) (hk : 0 ≤ k) (hm : 0 < m) (hm2 : m ≤ 1000000000) : ∃ (r : Int) (o' : O), Fulaw_take [.ref 0, .int m] [o] = .ok (.int r) [o'] ∧ 0 ≤ r ∧ r < m ∧ BagI k o' := by
  obtain ⟨a, b, c, rfl, h1, h2, h3, h4, h5, h6⟩ := h
  have m0 : m ≠ 0 := by omega
  have m1 : m.natAbs < 1073741824 := by omega
  by_cases ha : 0 < a
  · refine ⟨a.fmod m, .lst [.int (a.fdiv m), .int b, .int c], ?_, Int.fmod_nonneg_of_pos _ hm, Int.fmod_lt_of_pos _ hm, a.fdiv m, b, c, rfl, Int.fdiv_nonneg h1 (by omega), h2, h3, h4, hk, by omega⟩
    simp [Fulaw_take, runF, m_law_take, mSeq, mIf, mTst, mOp2, mVar, mC, Rs.bind, Rs.bindS, oIdx, ofO, oGt, oCmp, atI, ixN, ha, mSet, mFn, mCons, mNil, cInt, oMod, m0, mPut, oFdiv, m1, oPut, mRet]
  · have hx0 : 0 ≤ b + 7919 * (c + 1) := by omega
    have hx : (b + 7919 * (c + 1)).natAbs < 2 ^ 64 := by omega
    generalize hX : b + 7919 * (c + 1) = X at hx hx0
    have hy0 : 0 ≤ (X ^ 3).fmod 1000000000000000003 := Int.fmod_nonneg_of_pos _ (by decide)
    have hy1 : (X ^ 3).fmod 1000000000000000003 < 1000000000000000003 := Int.fmod_lt_of_pos _ (by decide)
    generalize hY : (X ^ 3).fmod 1000000000000000003 = Y at hy0 hy1
    have z0 : 0 ≤ Y.fdiv 17 := Int.fdiv_nonneg hy0 (by decide)
    have z1 : Y.fdiv 17 < 2 ^ 64 := by
      rw [Int.fdiv_eq_ediv_of_nonneg _ (by decide)]
      omega
    generalize hZ : Y.fdiv 17 = Z at z0 z1
    have ok : ∀ T : Int, mulOk Z T = true := fun T => by
      unfold mulOk
      simp only [Bool.or_eq_true, decide_eq_true_eq]
      exact .inl (.inl ⟨by omega, z1⟩)
    have ok2 : ∀ T : Int, mulOk 7919 T = true := fun T => by
      unfold mulOk
      simp only [Bool.or_eq_true, decide_eq_true_eq]
      exact .inl (.inl ⟨by decide, by decide⟩)
    have ok3 : ∀ T : Int, mulOk 7 T = true := fun T => by
      unfold mulOk
      simp only [Bool.or_eq_true, decide_eq_true_eq]
      exact .inl (.inl ⟨by decide, by decide⟩)
    refine ⟨((Z * ((Y.fdiv 31).fmod 1000003 + 7 * (c + 1))).fdiv 1009).fmod m, .lst [.int a, .int b, .int (c + 1)], ?_, Int.fmod_nonneg_of_pos _ hm, Int.fmod_lt_of_pos _ hm, a, b, c + 1, rfl, h1, h2, h3, by omega, hk, by omega⟩
    simp [Fulaw_take, runF, m_law_take, mSeq, mIf, mTst, mOp2, mVar, mC, Rs.bind, Rs.bindS, oIdx, ofO, oGt, oCmp, atI, ixN, ha, mSet, mFn, mCons, mNil, cInt, oMod, m0, mPut, oFdiv, m1, oPut, mRet, mNext, oAdd, oMul, oPow, ok, ok2, ok3, hX, hx, hY, hZ]
theorem Gtake {k m : Int} {o : O} {L : List O} {n : Nat} (hL : L[n]? = some o) (h : BagI (k + 1) o) (hk : 0 ≤ k) (hm : 0 < m) (hm2 : m ≤ 1000000000) : ∃ (r : Int) (o' : O), Gulaw_take [.ref n, .int m] L = .ok (.int r) (L.set n o') ∧ 0 ≤ r ∧ r < m ∧ BagI k o' := by
  obtain ⟨r, o', e, h1, h2, h3⟩ := take_spec h hk hm hm2
  exact ⟨r, o', lrun_bag (X := []) rfl hL h.pure e h3.pure rfl, h1, h2, h3⟩
/-! places -/
theorem atI_get {α : Type} {xs : List α} {i : Nat} {x : α} (h : xs[i]? = some x) : atI xs (i : Int) = some x := by
  obtain ⟨hi, _⟩ := List.getElem?_eq_some_iff.mp h
  have : ixN xs.length (i : Int) = some i := by
    unfold ixN
    rw [if_pos (by omega), if_pos (by omega)]
    rfl
  unfold atI
  rw [this]
  exact h
theorem refs_all {ds : List D} (h : ∀ d ∈ ds, refsD d = []) : refsDs ds = [] := by
  induction ds with
  | nil => rfl
  | cons d ds ih =>
    show refsD d ++ refsDs ds = []
    rw [h d List.mem_cons_self, ih fun e he => h e (List.mem_cons_of_mem _ he)]
    rfl
theorem bag_spec (ns : List Int) (i : Nat) (hi : i ≤ 100) : ∃ o, Fulaw_bag [.rol (ns.map .int), .int (i : Int)] [] = .ok (.ref 0) [o] ∧ BagI 900000000000 o := by
  have num : ∃ N : Int, ∀ x2 x3 : Option D, mSet 2 (mIfE (mTst (mOp2 oLt (mVar 1) (mFn cLen (mCons (mVar 0) mNil)))) (mOp2 oIdx (mVar 0) (mVar 1)) (mC (.int 0))) [some (.rol (ns.map .int)), some (.int (i : Int)), x2, x3] [] = .nx [some (.rol (ns.map .int)), some (.int (i : Int)), some (.int N), x3] [] := by
    by_cases h : i < ns.length
    · refine ⟨ns[i], fun x2 x3 => ?_⟩
      have e : (ns.map D.int)[i]? = some (.int ns[i]) := by simp [h]
      have hat := atI_get e
      have h' : (i : Int) < (ns.length : Nat) := by omega
      generalize hT : ns.map D.int = T at hat
      have hl : T.length = ns.length := by rw [← hT]; simp
      simp [mSet, mIfE, mTst, mOp2, mVar, mFn, mCons, mNil, cLen, Rs.bind, Rs.bindS, ofO, oLt, oCmp, hl, h, oIdx, hat]
    · refine ⟨0, fun x2 x3 => ?_⟩
      simp [mSet, mIfE, mTst, mOp2, mVar, mFn, mCons, mNil, cLen, Rs.bind, Rs.bindS, ofO, oLt, oCmp, h, mC]
  obtain ⟨N, hN⟩ := num
  have y0 : 0 ≤ N.fmod 1000000000000000003 := Int.fmod_nonneg_of_pos _ (by decide)
  have y1 : N.fmod 1000000000000000003 < 1000000000000000003 := Int.fmod_lt_of_pos _ (by decide)
  have ok1 : ∀ T : Int, mulOk T 11 = true := fun T => by
    unfold mulOk
    simp only [Bool.or_eq_true, decide_eq_true_eq]
    exact .inl (.inr ⟨by decide, by decide⟩)
  have ok2 : ∀ T : Int, mulOk 7907 T = true := fun T => by
    unfold mulOk
    simp only [Bool.or_eq_true, decide_eq_true_eq]
    exact .inl (.inl ⟨by decide, by decide⟩)
  generalize hT : ns.map D.int = T at hN ⊢
  by_cases hb : (1000000000000000000 : Int) ≤ (if N < 0 then -N else N)
  · refine ⟨.lst [.int (if N < 0 then -N else N), .int (N.fmod 1000000000000000003 * 11 + 7907 * (i : Int) + 613), .int 0], ?_, _, _, _, rfl, by omega, by omega, by omega, by omega, by omega, by omega⟩
    simp [Fulaw_bag, runF, m_law_bag, mSeq, hN]
    simp [mSet, mIfE, mTst, mOp2, mVar, mFn, mCons, mNil, mC, cAbs, cInt, Rs.bind, Rs.bindS, ofO, oGe, oCmp, oPow, oMod, oAdd, oMul, ok1, ok2, hb, mRet, mLst, most]
  · refine ⟨.lst [.int 0, .int (N.fmod 1000000000000000003 * 11 + 7907 * (i : Int) + 613), .int 0], ?_, _, _, _, rfl, by omega, by omega, by omega, by omega, by omega, by omega⟩
    simp [Fulaw_bag, runF, m_law_bag, mSeq, hN]
    simp [mSet, mIfE, mTst, mOp2, mVar, mFn, mCons, mNil, mC, cAbs, cInt, Rs.bind, Rs.bindS, ofO, oGe, oCmp, oPow, oMod, oAdd, oMul, ok1, ok2, hb, mRet, mLst, most]
theorem Gbag (ns : List Int) (i : Nat) (hi : i ≤ 100) (L : List O) : ∃ o, Gulaw_bag [.rol (ns.map .int), .int (i : Int)] L = .ok (.ref L.length) (L ++ [o]) ∧ BagI 900000000000 o := by
  obtain ⟨o, e, b⟩ := bag_spec ns i hi
  refine ⟨o, lrun_new (X := []) ?_ e b.pure, b⟩
  have : refsDs (ns.map D.int) = [] := refs_all fun d hd => by
    obtain ⟨n, _, rfl⟩ := List.mem_map.mp hd
    rfl
  show refsDs (ns.map D.int) ++ [] = []
  rw [this]
  rfl
/-! the instances -/
/-! items of any kind -/
inductive It (L : List O) : D → Prop
  | val {d : D} : Nice 3 d → plainD d = true → It L d
  | lst {k : Nat} {ds : List D} : L[k]? = some (.lst ds) → (∀ d ∈ ds, Nice 3 d) → plainDs ds = true → It L (.ref k)
  | dic {k : Nat} : L[k]? = some (.dic false []) → It L (.ref k)
/-- its kind -/
theorem It.tag {L : List O} {d : D} (h : It L d) : ∃ t, tagD L d = some t ∧ (t = .tup ↔ ∃ ds, d = .tup ds) ∧ (t = .int ↔ ∃ i, d = .int i) ∧ (t = .str ↔ ∃ s, d = .str s) ∧ (t = .bl ↔ ∃ b, d = .bl b) ∧ ∀ c, t ≠ .ins c := by
  cases h with
  | val hn hp =>
    cases d with
    | non => exact ⟨.non, rfl, by simp, by simp, by simp, by simp, nofun⟩
    | bl b => exact ⟨.bl, rfl, by simp, by simp, by simp, by simp, nofun⟩
    | int i => exact ⟨.int, rfl, by simp, by simp, by simp, by simp, nofun⟩
    | str s => exact ⟨.str, rfl, by simp, by simp, by simp, by simp, nofun⟩
    | tup ds => exact ⟨.tup, rfl, by simp, by simp, by simp, by simp, nofun⟩
    | rol ds => cases hp
    | ref k => cases hp
    | cls c => cases hp
    | ty c => cases hp
  | lst h1 h2 h3 => exact ⟨.lst, by simp [tagD, h1], by simp, by simp, by simp, by simp, nofun⟩
  | dic h1 => exact ⟨.dic, by simp [tagD, h1], by simp, by simp, by simp, by simp, nofun⟩
def isTup : D → Bool
  | .tup _ => true
  | _ => false
def isI : D → Bool
  | .int _ => true
  | _ => false
def isS : D → Bool
  | .str _ => true
  | _ => false
theorem isi_tup {L : List O} {d : D} (h : It L d) {a : ME} {ε : En} (ha : a ε L = .ok d L) : mIsi (isiT .tup []) a ε L = .ok (.bl (isTup d)) L := by
  obtain ⟨t, h1, h2, _, _, _, h6⟩ := h.tag
  unfold mIsi
  rw [ha]
  simp only [Rs.bind, h1, Option.bind_some]
  by_cases ht : t = .tup
  · obtain ⟨ds, rfl⟩ := h2.mp ht
    subst ht
    rfl
  · have hb : isTup d = false := by
      cases d with
      | tup ds => exact absurd (h2.mpr ⟨ds, rfl⟩) ht
      | _ => rfl
    rw [hb]
    cases t with
    | tup => exact absurd rfl ht
    | ins c => exact absurd rfl (h6 c)
    | _ => rfl
theorem isi_str {L : List O} {d : D} (h : It L d) {a : ME} {ε : En} (ha : a ε L = .ok d L) : mIsi (isiT .str []) a ε L = .ok (.bl (isS d)) L := by
  obtain ⟨t, h1, _, _, h2, _, h6⟩ := h.tag
  unfold mIsi
  rw [ha]
  simp only [Rs.bind, h1, Option.bind_some]
  by_cases ht : t = .str
  · obtain ⟨ds, rfl⟩ := h2.mp ht
    subst ht
    rfl
  · have hb : isS d = false := by
      cases d with
      | str ds => exact absurd (h2.mpr ⟨ds, rfl⟩) ht
      | _ => rfl
    rw [hb]
    cases t with
    | str => exact absurd rfl ht
    | ins c => exact absurd rfl (h6 c)
    | _ => rfl
theorem intV {L : List O} {d : D} (h : It L d) {a : ME} {ε : En} (ha : a ε L = .ok d L) : mAndV (mIsi (isiT .int []) a) (mNotV (mIsi (isiT .bl []) a)) ε L = .ok (.bl (isI d)) L := by
  obtain ⟨t, h1, _, h2, _, h5, h6⟩ := h.tag
  have isi : ∀ T b, isiT T [] t = some b → mIsi (isiT T []) a ε L = .ok (.bl b) L := fun T b hT => by
    unfold mIsi
    rw [ha]
    simp only [Rs.bind, h1, Option.bind_some, hT]
  unfold mAndV
  by_cases ht : t = .int
  · obtain ⟨i, rfl⟩ := h2.mp ht
    subst ht
    rw [isi .int true rfl]
    simp only [Rs.bind]
    show mNotV (mIsi (isiT .bl []) a) ε L = _
    unfold mNotV
    rw [isi .bl false rfl]
    rfl
  · have hb : isI d = false := by
      cases d with
      | int ds => exact absurd (h2.mpr ⟨ds, rfl⟩) ht
      | _ => rfl
    rw [hb]
    by_cases hbl : t = .bl
    · subst hbl
      rw [isi .int true rfl]
      simp only [Rs.bind]
      show mNotV (mIsi (isiT .bl []) a) ε L = _
      unfold mNotV
      rw [isi .bl true rfl]
      rfl
    · have : isiT .int [] t = some false := by
        cases t with
        | int => exact absurd rfl ht
        | bl => exact absurd rfl hbl
        | ins c => exact absurd rfl (h6 c)
        | _ => rfl
      rw [isi .int false this]
      rfl
theorem Gint {L : List O} {d : D} (h : It L d) : G_is_integer [d] L = .ok (.bl (isI d)) L := by
  show F_is_integer [d] L = _
  exact runF_rt rfl (mret_ok (intV h rfl))
theorem Gwhole {L : List O} {d : D} (h : It L d) : Gulaw_whole [d] L = .ok (.bl (isI d)) L := by
  show Fulaw_whole [d] L = _
  exact runF_rt rfl (mret_ok (intV h rfl))
theorem It.part {L : List O} {ds : List D} (h : It L (.tup ds)) {d : D} (hd : d ∈ ds) : It L d := by
  cases h with
  | val hn hp =>
    have hp2 : plainDs ds = true := by simpa [plainD] using hp
    have pl : ∀ (l : List D), plainDs l = true → ∀ x ∈ l, plainD x = true := by
      intro l
      induction l with
      | nil => intro _ x hx; cases hx
      | cons y l ih =>
        intro h x hx
        simp only [plainDs, Bool.and_eq_true] at h
        rcases List.mem_cons.mp hx with rfl | hx
        · exact h.1
        · exact ih h.2 x hx
    obtain ⟨p, hn⟩ := hn
    have e := hn.py [] 16 (by decide)
    obtain ⟨ps, h1, rfl⟩ := Option.map_eq_some_iff.mp (show (optAll (toPy [] 15) ds).map PyData.tuple = some p from e)
    refine .val ?_ (pl ds hp2 d hd)
    obtain ⟨i, hi⟩ := List.getElem?_of_mem hd
    obtain ⟨y, hy, _⟩ := optAll_get h1 hi
    refine ⟨y, fun L n hn2 => ?_, ?_, ?_⟩
    · have e2 := hn.py L (n + 1) (by omega)
      obtain ⟨qs, h2, h3⟩ := Option.map_eq_some_iff.mp (show (optAll (toPy L n) ds).map PyData.tuple = some (.tuple ps) from e2)
      cases h3
      obtain ⟨z, hz, hz2⟩ := optAll_get h2 hi
      rw [hy] at hz
      cases hz
      exact hz2
    · have hl := hn.lay
      have : ∀ (l : List PyData), PyData.canLayAll0 l = true → ∀ x ∈ l, x.canLay0 = true := by
        intro l
        induction l with
        | nil => intro _ x hx; cases hx
        | cons z l ih =>
          intro h x hx
          simp only [PyData.canLayAll0, Bool.and_eq_true] at h
          rcases List.mem_cons.mp hx with rfl | hx
          · exact h.1
          · exact ih h.2 x hx
      exact this ps (by simpa [PyData.canLay0] using hl) y (List.mem_of_getElem? hy)
    · have hd2 := hn.dep
      have : ∀ (l : List PyData), ∀ x ∈ l, x.depth ≤ PyData.depthAll l := by
        intro l
        induction l with
        | nil => intro x hx; cases hx
        | cons z l ih =>
          intro x hx
          simp only [PyData.depthAll]
          rcases List.mem_cons.mp hx with rfl | hx
          · exact Nat.le_max_left _ _
          · exact Nat.le_trans (ih x hx) (Nat.le_max_right _ _)
      have h4 := this ps y (List.mem_of_getElem? hy)
      have h5 : PyData.depthAll ps + 1 ≤ 3 := by simpa [PyData.depth] using hd2
      omega
theorem It.shapedS {L : List O} {s : Str} (h : It L (.str s)) : SeqAt.shaped (.str s) = true := by
  cases h with
  | val hn hp =>
    obtain ⟨p, hn⟩ := hn
    have e := hn.py [] 16 (by decide)
    cases e
    exact hn.shaped (by decide)
theorem eqS {L : List O} {a b : Str} (ha : SeqAt.shaped (.str a) = true) (hb : SeqAt.shaped (.str b) = true) : oEq (.str a) (.str b) L = some (.bl (decide (a = b)), L) := by
  unfold oEq eqData
  have h1 : toPy L pyDeep (.str a) = some (.str a) := rfl
  have h2 : toPy L pyDeep (.str b) = some (.str b) := rfl
  simp only [h1, h2, ha, hb, and_self, if_true]
  have : PyData.eqv (.str a) (.str b) = decide (a = b) := by
    by_cases h : a = b
    · subst h
      rw [decide_eq_true rfl]
      simp [PyData.eqv]
    · rw [decide_eq_false h]
      simp [PyData.eqv, h]
  rw [this]
  rfl
/-! places -/
def placeS (k : Int) : D → Bool
  | .tup [.str s] => decide (s = "parent")
  | .tup [.str s, .int i] => decide (s = "child") && (decide (0 ≤ i) && decide (i ≤ k))
  | _ => false
theorem mandv_f {a b : ME} {ε : En} {L : List O} (h : a ε L = .ok (.bl false) L) : mAndV a b ε L = .ok (.bl false) L := by unfold mAndV; rw [h]; rfl
theorem mandv_t {a b : ME} {ε : En} {L : List O} (h : a ε L = .ok (.bl true) L) : mAndV a b ε L = b ε L := by unfold mAndV; rw [h]; rfl
theorem mandv_b {a b : ME} {ε : En} {L : List O} {x y : Bool} (h : a ε L = .ok (.bl x) L) (h2 : x = true → b ε L = .ok (.bl y) L) : mAndV a b ε L = .ok (.bl (x && y)) L := by
  cases x with
  | true => rw [mandv_t h, h2 rfl]; rfl
  | false => exact mandv_f h
theorem chainLe {a b c : ME} {ε : En} {L : List O} {x y z : Int} (ha : a ε L = .ok (.int x) L) (hb : b ε L = .ok (.int y) L) (hc : c ε L = .ok (.int z) L) : mChain oLe oLe a b c ε L = .ok (.bl (decide (x ≤ y) && decide (y ≤ z))) L := by
  unfold mChain
  rw [ha]
  simp only [Rs.bind]
  rw [hb]
  have h1 : oLe (.int x) (.int y) L = some (.bl (decide (x ≤ y)), L) := rfl
  have h2 : oLe (.int y) (.int z) L = some (.bl (decide (y ≤ z)), L) := rfl
  simp only [h1]
  by_cases hxy : x ≤ y
  · simp only [decide_eq_true hxy, Bool.true_and, ofO, hc, h2]
  · simp only [decide_eq_false hxy, Bool.false_and]
    rfl
theorem eqI_of {L : List O} {a b : Int} : oEq (.int a) (.int b) L = some (.bl (a == b), L) := by
  unfold oEq eqData
  have h1 : toPy L pyDeep (.int a) = some (.int a) := rfl
  have h2 : toPy L pyDeep (.int b) = some (.int b) := rfl
  simp only [h1, h2, shaped_int, and_self, if_true]
  rfl
theorem neI_of {L : List O} {a b : Int} : oNe (.int a) (.int b) L = some (.bl (!(a == b)), L) := by
  unfold oNe eqData
  have h1 : toPy L pyDeep (.int a) = some (.int a) := rfl
  have h2 : toPy L pyDeep (.int b) = some (.int b) := rfl
  simp only [h1, h2, shaped_int, and_self, if_true]
  rfl
theorem notTwo {L : List O} {n : Int} : oNotIn (.int n) (.tup [.int 1, .int 2]) L = some (.bl (!(decide (n = 1) || decide (n = 2))), L) := by
  have h : inD L (.int n) (.tup [.int 1, .int 2]) = some (decide (n = 1) || decide (n = 2)) := by
    by_cases h1 : n = 1
    · subst h1; rfl
    · by_cases h2 : n = 2
      · subst h2; rfl
      · have a1 : ¬ (1 : Int) = n := fun z => h1 z.symm
        have a2 : ¬ (2 : Int) = n := fun z => h2 z.symm
        simp [inD, flatD, eqF, h1, h2, a1, a2]
  unfold oNotIn
  rw [h]
  rfl
theorem sh_parent : SeqAt.shaped (.str "parent") = true := by decide +kernel
theorem sh_child : SeqAt.shaped (.str "child") = true := by decide +kernel
theorem not_tup {d : D} (h : isTup d = false) (k : Int) : placeS k d = false := by
  cases d with
  | tup ds => cases h
  | _ => rfl
theorem is_place_ok {L : List O} {d : D} (h : It L d) (k : Int) : G_is_place [d, .int k] L = .ok (.bl (placeS k d)) L := by
  show F_is_place [d, .int k] L = _
  refine runF_rt rfl ?_
  show m_is_place [some d, some (.int k)] L = _
  unfold m_is_place
  have c1 : mNotB (mTru (mIsi (isiT .tup []) (mVar 0))) [some d, some (.int k)] L = .ok (!isTup d) L := mnotb_ok (mtru_ok (isi_tup h rfl) rfl)
  cases ht : isTup d with
  | false =>
    rw [ht] at c1
    rw [not_tup ht]
    exact seq_rt ((mif_t (morb_t c1)).trans (mret_ok rfl))
  | true =>
    rw [ht] at c1
    obtain ⟨ds, rfl⟩ : ∃ ds, d = .tup ds := by
      cases d with
      | tup ds => exact ⟨ds, rfl⟩
      | _ => cases ht
    have ln : mFn cLen (mCons (mVar 0) mNil) [some (.tup ds), some (.int k)] L = .ok (.int ds.length) L := mfn_ok (mone_ok rfl) rfl
    have c2 : mTst (mOp2 oNotIn (mFn cLen (mCons (mVar 0) mNil)) (mTup (mCons (mC (.int 1)) (mCons (mC (.int 2)) mNil)))) [some (.tup ds), some (.int k)] L = .ok (!(decide ((ds.length : Int) = 1) || decide ((ds.length : Int) = 2))) L := mtst_ok (mop2_ok ln (mtup_ok (xs := [.int 1, .int 2]) rfl (show 2 ≤ most by decide)) notTwo)
    match ds, h, c1, ln, c2 with
    | [], h, c1, ln, c2 => exact seq_rt ((mif_t ((morb_f c1).trans (morb_t c2))).trans (mret_ok rfl))
    | a :: b :: c :: r, h, c1, ln, c2 =>
      have hz : (!(decide (((a :: b :: c :: r).length : Int) = 1) || decide (((a :: b :: c :: r).length : Int) = 2))) = true := by
        simp only [List.length_cons]
        rw [decide_eq_false (by omega), decide_eq_false (by omega)]
        rfl
      rw [hz] at c2
      have hp : placeS k (.tup (a :: b :: c :: r)) = false := by cases a <;> first | rfl | (cases b <;> rfl)
      rw [hp]
      exact seq_rt ((mif_t ((morb_f c1).trans (morb_t c2))).trans (mret_ok rfl))
    | [a], h, c1, ln, c2 =>
      have ia := h.part (d := a) List.mem_cons_self
      have x0 : mOp2 oIdx (mVar 0) (mC (.int 0)) [some (.tup [a]), some (.int k)] L = .ok a L := mop2_ok (x := .tup [a]) (y := .int 0) rfl rfl rfl
      have c3 : mNotB (mTru (mIsi (isiT .str []) (mOp2 oIdx (mVar 0) (mC (.int 0))))) [some (.tup [a]), some (.int k)] L = .ok (!isS a) L := mnotb_ok (mtru_ok (isi_str ia x0) rfl)
      have n1 : mTst (mOp2 oEq (mFn cLen (mCons (mVar 0) mNil)) (mC (.int 1))) [some (.tup [a]), some (.int k)] L = .ok true L := mtst_ok (mop2_ok ln rfl eqI_of)
      cases hs : isS a with
      | false =>
        rw [hs] at c3
        have : placeS k (.tup [a]) = false := by
          cases a with
          | str s => cases hs
          | _ => rfl
        rw [this]
        exact seq_rt ((mif_t ((morb_f c1).trans ((morb_f c2).trans c3))).trans (mret_ok rfl))
      | true =>
        rw [hs] at c3
        obtain ⟨s, rfl⟩ : ∃ s, a = .str s := by
          cases a with
          | str s => exact ⟨s, rfl⟩
          | _ => cases hs
        refine (seq_nx ((mif_f ((morb_f c1).trans ((morb_f c2).trans c3))).trans rfl)).trans ?_
        exact seq_rt ((mif_t n1).trans (mret_ok (mop2_ok x0 rfl (eqS ia.shapedS sh_parent))))
    | [a, b], h, c1, ln, c2 =>
      have ia := h.part (d := a) List.mem_cons_self
      have ib := h.part (d := b) (List.mem_cons_of_mem _ List.mem_cons_self)
      have x0 : mOp2 oIdx (mVar 0) (mC (.int 0)) [some (.tup [a, b]), some (.int k)] L = .ok a L := mop2_ok (x := .tup [a, b]) (y := .int 0) rfl rfl rfl
      have x1 : mOp2 oIdx (mVar 0) (mC (.int 1)) [some (.tup [a, b]), some (.int k)] L = .ok b L := mop2_ok (x := .tup [a, b]) (y := .int 1) rfl rfl rfl
      have c3 : mNotB (mTru (mIsi (isiT .str []) (mOp2 oIdx (mVar 0) (mC (.int 0))))) [some (.tup [a, b]), some (.int k)] L = .ok (!isS a) L := mnotb_ok (mtru_ok (isi_str ia x0) rfl)
      have n1 : mTst (mOp2 oEq (mFn cLen (mCons (mVar 0) mNil)) (mC (.int 1))) [some (.tup [a, b]), some (.int k)] L = .ok false L := mtst_ok (mop2_ok ln rfl eqI_of)
      cases hs : isS a with
      | false =>
        rw [hs] at c3
        have : placeS k (.tup [a, b]) = false := by
          cases a with
          | str s => cases hs
          | _ => rfl
        rw [this]
        exact seq_rt ((mif_t ((morb_f c1).trans ((morb_f c2).trans c3))).trans (mret_ok rfl))
      | true =>
        rw [hs] at c3
        obtain ⟨s, rfl⟩ : ∃ s, a = .str s := by
          cases a with
          | str s => exact ⟨s, rfl⟩
          | _ => cases hs
        refine (seq_nx ((mif_f ((morb_f c1).trans ((morb_f c2).trans c3))).trans rfl)).trans ?_
        refine (seq_nx ((mif_f n1).trans rfl)).trans (mret_ok ?_)
        have e1 : mOp2 oEq (mOp2 oIdx (mVar 0) (mC (.int 0))) (mC (.str "child")) [some (.tup [.str s, b]), some (.int k)] L = .ok (.bl (decide (s = "child"))) L := mop2_ok x0 rfl (eqS ia.shapedS sh_child)
        have e2 : mCall G_is_integer (mCons (mOp2 oIdx (mVar 0) (mC (.int 1))) mNil) [some (.tup [.str s, b]), some (.int k)] L = .ok (.bl (isI b)) L := mcall_ok (mone_ok x1) (Gint ib)
        cases hi : isI b with
        | false =>
          rw [hi] at e2
          have : placeS k (.tup [.str s, b]) = (decide (s = "child") && (false && false)) := by
            rw [Bool.false_and, Bool.and_false]
            cases b with
            | int i => cases hi
            | _ => rfl
          rw [this]
          exact mandv_b e1 fun _ => mandv_b e2 fun z => by cases z
        | true =>
          rw [hi] at e2
          obtain ⟨i, rfl⟩ : ∃ i, b = .int i := by
            cases b with
            | int i => exact ⟨i, rfl⟩
            | _ => cases hi
          have := mandv_b e1 fun _ => mandv_b e2 fun _ => chainLe (a := mC (.int 0)) (c := mVar 1) (z := k) (ε := [some (.tup [.str s, .int i]), some (.int k)]) (L := L) rfl x1 rfl
          rw [Bool.true_and] at this
          exact this
def isStr (c : Str) : D → Bool
  | .str s => decide (s = c)
  | _ => false
theorem eqv_str (c : Str) : ∀ p : PyData, PyData.eqv p (.str c) = (match p with | .str s => decide (s = c) | _ => false)
  | .none => by simp [PyData.eqv]
  | .bool _ => by simp [PyData.eqv]
  | .int _ => by simp [PyData.eqv]
  | .str s => by
    by_cases h : s = c
    · simp [PyData.eqv, h]
    · simp [PyData.eqv, h]
  | .list _ => by simp [PyData.eqv]
  | .tuple _ => by simp [PyData.eqv]
  | .dict _ => by simp [PyData.eqv]
/-- what a plain value is as data -/
theorem val_py {d : D} (hn : Nice 3 d) (hp : plainD d = true) : ∃ p, (∀ L, toPy L pyDeep d = some p) ∧ SeqAt.shaped p = true ∧ ∀ c : Str, PyData.eqv p (.str c) = isStr c d := by
  obtain ⟨p, h⟩ := hn
  refine ⟨p, fun L => h.py L 16 (by decide), h.shaped (by decide), fun c => ?_⟩
  rw [eqv_str]
  have e := h.py [] 16 (by decide)
  cases d with
  | non => cases e; rfl
  | bl b => cases e; rfl
  | int i => cases e; rfl
  | str s => cases e; rfl
  | tup ds =>
    obtain ⟨ps, h1, rfl⟩ := Option.map_eq_some_iff.mp (show (optAll (toPy [] 15) ds).map PyData.tuple = some p from e)
    rfl
  | rol ds => cases hp
  | ref k => cases hp
  | cls c => cases hp
  | ty c => cases hp
theorem val_ne {L : List O} {a : D} (hn : Nice 3 a) (hp : plainD a = true) {c : Str} (hc : SeqAt.shaped (.str c) = true) : oNe a (.str c) L = some (.bl (!isStr c a), L) := by
  obtain ⟨p, h1, h2, h3⟩ := val_py hn hp
  unfold oNe eqData
  have e2 : toPy L pyDeep (.str c) = some (.str c) := rfl
  simp only [h1, e2, h2, hc, and_self, if_true, h3]
  rfl
theorem val_eq {L : List O} {a : D} (hn : Nice 3 a) (hp : plainD a = true) {c : Str} (hc : SeqAt.shaped (.str c) = true) : oEq a (.str c) L = some (.bl (isStr c a), L) := by
  obtain ⟨p, h1, h2, h3⟩ := val_py hn hp
  unfold oEq eqData
  have e2 : toPy L pyDeep (.str c) = some (.str c) := rfl
  simp only [h1, e2, h2, hc, and_self, if_true, h3]
  rfl
theorem It.parts {L : List O} {ds : List D} (h : It L (.tup ds)) {d : D} (hd : d ∈ ds) : Nice 3 d ∧ plainD d = true := by
  have := h.part hd
  cases this with
  | val a b => exact ⟨a, b⟩
  | lst a b c =>
    cases h with
    | val hn hp =>
      have hp2 : plainDs ds = true := by simpa [plainD] using hp
      exfalso
      have : ∀ (l : List D), plainDs l = true → ∀ k, D.ref k ∉ l := by
        intro l
        induction l with
        | nil => intro _ k hk; cases hk
        | cons y l ih =>
          intro h k hk
          simp only [plainDs, Bool.and_eq_true] at h
          rcases List.mem_cons.mp hk with rfl | hk
          · cases h.1
          · exact ih h.2 k hk
      exact this ds hp2 _ hd
  | dic a =>
    cases h with
    | val hn hp =>
      have hp2 : plainDs ds = true := by simpa [plainD] using hp
      exfalso
      have : ∀ (l : List D), plainDs l = true → ∀ k, D.ref k ∉ l := by
        intro l
        induction l with
        | nil => intro _ k hk; cases hk
        | cons y l ih =>
          intro h k hk
          simp only [plainDs, Bool.and_eq_true] at h
          rcases List.mem_cons.mp hk with rfl | hk
          · cases h.1
          · exact ih h.2 k hk
      exact this ds hp2 _ hd
def isPar : D → Bool
  | .tup [a] => isStr "parent" a
  | _ => false
theorem shT : SeqAt.shaped (.tuple [.str "parent"]) = true := by decide +kernel
theorem eqPar {L : List O} {d : D} (h : It L d) : oEqDt d (.tup [.str "parent"]) L = some (.bl (isPar d), L) := by
  have eT : toPy L pyDeep (.tup [.str "parent"]) = some (.tuple [.str "parent"]) := rfl
  cases h with
  | @lst k ds h1 h2 h3 =>
    obtain ⟨ps, e1, e2, e3⟩ := nice_all h2
    have t1 : toPy L pyDeep (.ref k) = some (.list ps) := by
      show (match L[k]? with | some (.lst ds) => (optAll (toPy L 15) ds).map PyData.list | _ => none) = _
      rw [h1]
      simp [e1 L 15 (by decide)]
    have s1 : SeqAt.shaped (.list ps) = true := by
      have hd : (PyData.list ps).depth ≤ 64 := by simp only [PyData.depth]; omega
      have hc : (PyData.list ps).canLay0 = true := by simpa [PyData.canLay0] using e2
      unfold SeqAt.shaped
      rw [hc, decide_eq_true hd]
      rfl
    have hv : PyData.eqv (.list ps) (.tuple [.str "parent"]) = false := by simp [PyData.eqv]
    unfold oEqDt
    simp only [h1]
    unfold oEq eqData
    simp only [t1, eT, s1, shT, and_self, if_true, hv]
    rfl
  | @dic k h1 =>
    unfold oEqDt
    simp only [h1]
    rfl
  | @val d hn hp =>
    obtain ⟨p, hpn⟩ := id hn
    have e := hpn.py [] 16 (by decide)
    have t1 : toPy L pyDeep d = some p := hpn.py L 16 (by decide)
    have s1 : SeqAt.shaped p = true := hpn.shaped (by decide)
    have hv : PyData.eqv p (.tuple [.str "parent"]) = isPar d := by
      cases d with
      | non => cases e; simp [PyData.eqv, isPar]
      | bl b => cases e; simp [PyData.eqv, isPar]
      | int i => cases e; simp [PyData.eqv, isPar]
      | str s => cases e; simp [PyData.eqv, isPar]
      | rol ds => cases hp
      | ref k => cases hp
      | cls c => cases hp
      | ty c => cases hp
      | tup ds =>
        obtain ⟨ps, h1, rfl⟩ := Option.map_eq_some_iff.mp (show (optAll (toPy [] 15) ds).map PyData.tuple = some p from e)
        have hl := optAll_len h1
        match ds, ps, h1, hl with
        | [], [], _, _ => simp [PyData.eqv, PyData.eqvAll, isPar]
        | [a], [q], h1, _ =>
          have ha := (It.val (L := []) hn hp).parts (d := a) List.mem_cons_self
          obtain ⟨q2, g1, g2, g3⟩ := val_py ha.1 ha.2
          have e4 : toPy [] 15 a = some q := by
            obtain ⟨y, hy, hy2⟩ := optAll_get h1 (i := 0) (x := a) rfl
            cases hy
            exact hy2
          have e5 : q2 = q := by
            obtain ⟨r, hr⟩ := id ha.1
            have a1 := hr.py [] 15 (by decide)
            have a2 := hr.py [] 16 (by decide)
            rw [e4] at a1
            rw [show toPy [] 16 a = some q2 from g1 []] at a2
            exact (Option.some.inj a2).trans (Option.some.inj a1).symm
          subst e5
          have : PyData.eqv (.tuple [q2]) (.tuple [.str "parent"]) = PyData.eqv q2 (.str "parent") := by simp [PyData.eqv, PyData.eqvAll]
          rw [this, g3]
          rfl
        | a :: b :: r, q :: q2 :: rs, _, _ =>
          have : isPar (.tup (a :: b :: r)) = false := rfl
          rw [this]
          simp [PyData.eqv, PyData.eqvAll]
    have hne : oEqDt d (.tup [.str "parent"]) L = oEq d (.tup [.str "parent"]) L := by
      cases d with
      | ref k => cases hp
      | _ => rfl
    rw [hne]
    unfold oEq eqData
    simp only [t1, eT, s1, shT, and_self, if_true, hv]
    rfl
theorem law_place_ok {L : List O} {d : D} (h : It L d) (k : Int) : Gulaw_is_place [d, .int k] L = .ok (.bl (placeS k d)) L := by
  show Fulaw_is_place [d, .int k] L = _
  refine runF_rt rfl ?_
  show m_law_is_place [some d, some (.int k)] L = _
  unfold m_law_is_place
  have c0 : mTst (mOp2 oEqDt (mVar 0) (mTup (mCons (mC (.str "parent")) mNil))) [some d, some (.int k)] L = .ok (isPar d) L := mtst_ok (mop2_ok (x := d) rfl (mtup_ok (xs := [.str "parent"]) rfl (show 1 ≤ most by decide)) (eqPar h))
  cases hq : isPar d with
  | true =>
    rw [hq] at c0
    have : placeS k d = true := by
      cases d with
      | tup ds =>
        match ds, hq with
        | [a], hq =>
          cases a with
          | str s => exact hq
          | _ => cases hq
        | [], hq => cases hq
        | _ :: _ :: _, hq => cases hq
      | _ => cases hq
    rw [this]
    exact seq_rt ((mif_t c0).trans (mret_ok rfl))
  | false =>
    rw [hq] at c0
    refine (seq_nx ((mif_f c0).trans rfl)).trans ?_
    have c1 : mNotB (mTru (mIsi (isiT .tup []) (mVar 0))) [some d, some (.int k)] L = .ok (!isTup d) L := mnotb_ok (mtru_ok (isi_tup h rfl) rfl)
    cases ht : isTup d with
    | false =>
      rw [ht] at c1
      rw [not_tup ht]
      exact seq_rt ((mif_t (morb_t c1)).trans (mret_ok rfl))
    | true =>
      rw [ht] at c1
      obtain ⟨ds, rfl⟩ : ∃ ds, d = .tup ds := by
        cases d with
        | tup ds => exact ⟨ds, rfl⟩
        | _ => cases ht
      have ln : mFn cLen (mCons (mVar 0) mNil) [some (.tup ds), some (.int k)] L = .ok (.int ds.length) L := mfn_ok (mone_ok rfl) rfl
      have c2 : mTst (mOp2 oNe (mFn cLen (mCons (mVar 0) mNil)) (mC (.int 2))) [some (.tup ds), some (.int k)] L = .ok (!((ds.length : Int) == 2)) L := mtst_ok (mop2_ok ln rfl neI_of)
      by_cases h2 : ds.length = 2
      · match ds, h2, h, hq, c1, ln, c2 with
        | [a, b], _, h, hq, c1, ln, c2 =>
          have ia := h.parts (d := a) List.mem_cons_self
          have ib := h.part (d := b) (List.mem_cons_of_mem _ List.mem_cons_self)
          have x0 : mOp2 oIdx (mVar 0) (mC (.int 0)) [some (.tup [a, b]), some (.int k)] L = .ok a L := mop2_ok (x := .tup [a, b]) (y := .int 0) rfl rfl rfl
          have x1 : mOp2 oIdx (mVar 0) (mC (.int 1)) [some (.tup [a, b]), some (.int k)] L = .ok b L := mop2_ok (x := .tup [a, b]) (y := .int 1) rfl rfl rfl
          have c3 : mTst (mOp2 oNe (mOp2 oIdx (mVar 0) (mC (.int 0))) (mC (.str "child"))) [some (.tup [a, b]), some (.int k)] L = .ok (!isStr "child" a) L := mtst_ok (mop2_ok x0 rfl (val_ne ia.1 ia.2 sh_child))
          cases hs : isStr "child" a with
          | false =>
            rw [hs] at c3
            have : placeS k (.tup [a, b]) = false := by
              cases a with
              | str s =>
                cases b with
                | int i =>
                  show (decide (s = "child") && _) = false
                  rw [show decide (s = "child") = false from hs]
                  rfl
                | _ => rfl
              | _ => rfl
            rw [this]
            exact seq_rt ((mif_t ((morb_f c1).trans ((morb_f c2).trans c3))).trans (mret_ok rfl))
          | true =>
            rw [hs] at c3
            obtain ⟨s, rfl, hs2⟩ : ∃ s, a = .str s ∧ decide (s = "child") = true := by
              cases a with
              | str s => exact ⟨s, rfl, hs⟩
              | _ => cases hs
            refine (seq_nx ((mif_f ((morb_f c1).trans ((morb_f c2).trans c3))).trans rfl)).trans (mret_ok ?_)
            have e2 : mCall Gulaw_whole (mCons (mOp2 oIdx (mVar 0) (mC (.int 1))) mNil) [some (.tup [.str s, b]), some (.int k)] L = .ok (.bl (isI b)) L := mcall_ok (mone_ok x1) (Gwhole ib)
            cases hi : isI b with
            | false =>
              rw [hi] at e2
              have : placeS k (.tup [.str s, b]) = false := by
                cases b with
                | int i => cases hi
                | _ => rfl
              rw [this]
              exact mandv_f e2
            | true =>
              rw [hi] at e2
              obtain ⟨i, rfl⟩ : ∃ i, b = .int i := by
                cases b with
                | int i => exact ⟨i, rfl⟩
                | _ => cases hi
              have ch := chainLe (a := mC (.int 0)) (c := mVar 1) (z := k) (ε := [some (.tup [.str s, .int i]), some (.int k)]) (L := L) rfl x1 rfl
              refine (mandv_t e2).trans (ch.trans ?_)
              show _ = Rs.ok (D.bl (decide (s = "child") && _)) L
              rw [hs2, Bool.true_and]
      · have hz : (!((ds.length : Int) == 2)) = true := by
          rw [beq_eq_false_iff_ne.mpr (by omega)]
          rfl
        rw [hz] at c2
        have : placeS k (.tup ds) = false := by
          match ds, h2, hq with
          | [], _, _ => rfl
          | [a], _, hq =>
            cases a with
            | str s => exact hq
            | _ => rfl
          | [_, _], h2, _ => exact absurd rfl h2
          | a :: b :: _ :: _, _, _ => cases a <;> first | rfl | (cases b <;> rfl)
        rw [this]
        exact seq_rt ((mif_t ((morb_f c1).trans (morb_t c2))).trans (mret_ok rfl))
/-! takes -/
def wordB (s : Str) : Bool := decide (s = "take") || (decide (s = "try") || decide (s = "leap"))
def modeB (s : Str) : Bool := decide (s = "shared") || (decide (s = "alone") || decide (s = "rising"))
def takeS (n : Int) : D → Bool
  | .tup [.str w, .int p, .str m] => wordB w && (modeB m && (decide (0 ≤ p) && decide (p < n)))
  | _ => false
theorem chainLt {a b c : ME} {ε : En} {L : List O} {x y z : Int} (ha : a ε L = .ok (.int x) L) (hb : b ε L = .ok (.int y) L) (hc : c ε L = .ok (.int z) L) : mChain oLe oLt a b c ε L = .ok (.bl (decide (x ≤ y) && decide (y < z))) L := by
  unfold mChain
  rw [ha]
  simp only [Rs.bind]
  rw [hb]
  have h1 : oLe (.int x) (.int y) L = some (.bl (decide (x ≤ y)), L) := rfl
  have h2 : oLt (.int y) (.int z) L = some (.bl (decide (y < z)), L) := rfl
  simp only [h1]
  by_cases hxy : x ≤ y
  · simp only [decide_eq_true hxy, Bool.true_and, ofO, hc, h2]
  · simp only [decide_eq_false hxy, Bool.false_and]
    rfl
theorem in_strs {L : List O} {w a b c : Str} : oIn (.str w) (.tup [.str a, .str b, .str c]) L = some (.bl (decide (w = a) || (decide (w = b) || decide (w = c))), L) := by
  have e : ∀ x y : Str, eqF (.str x) (.str y) = decide (y = x) := fun x y => by
    by_cases h : x = y
    · subst h; simp [eqF]
    · have : ¬ y = x := fun z => h z.symm
      simp [eqF, h, this]
  have h : inD L (.str w) (.tup [.str a, .str b, .str c]) = some (decide (w = a) || (decide (w = b) || decide (w = c))) := by
    show (if flatD (.str w) = true ∧ ([.str a, .str b, .str c] : List D).all flatD = true then some (([.str a, .str b, .str c] : List D).any fun z => eqF z (.str w)) else none) = _
    rw [if_pos ⟨rfl, rfl⟩]
    simp [e]
  unfold oIn
  rw [h]
  rfl
theorem is_take_ok {L : List O} {d : D} (h : It L d) (n : Int) : G_is_take [d, .int n] L = .ok (.bl (takeS n d)) L := by
  show F_is_take [d, .int n] L = _
  refine runF_rt rfl ?_
  show m_is_take [some d, some (.int n), none, none, none] L = _
  unfold m_is_take
  have c1 : mNotB (mTru (mIsi (isiT .tup []) (mVar 0))) [some d, some (.int n), none, none, none] L = .ok (!isTup d) L := mnotb_ok (mtru_ok (isi_tup h rfl) rfl)
  cases ht : isTup d with
  | false =>
    rw [ht] at c1
    have : takeS n d = false := by
      cases d with
      | tup ds => cases ht
      | _ => rfl
    rw [this]
    exact seq_rt ((mif_t (morb_t c1)).trans (mret_ok rfl))
  | true =>
    rw [ht] at c1
    obtain ⟨ds, rfl⟩ : ∃ ds, d = .tup ds := by
      cases d with
      | tup ds => exact ⟨ds, rfl⟩
      | _ => cases ht
    have c2 : mTst (mOp2 oNe (mFn cLen (mCons (mVar 0) mNil)) (mC (.int 3))) [some (.tup ds), some (.int n), none, none, none] L = .ok (!((ds.length : Int) == 3)) L := mtst_ok (mop2_ok (x := .int ds.length) (mfn_ok (mone_ok rfl) rfl) rfl neI_of)
    by_cases h3 : ds.length = 3
    · match ds, h3, h, c1, c2 with
      | [a, b, c], _, h, c1, c2 =>
        have ia := h.part (d := a) List.mem_cons_self
        have ib := h.part (d := b) (List.mem_cons_of_mem _ List.mem_cons_self)
        have ic := h.part (d := c) (List.mem_cons_of_mem _ (List.mem_cons_of_mem _ List.mem_cons_self))
        refine (seq_nx ((mif_f ((morb_f c1).trans c2)).trans rfl)).trans ?_
        refine (seq_nx (masg_ok (x := .tup [a, b, c]) (ε1 := [some (.tup [a, b, c]), some (.int n), some a, some b, some c]) rfl rfl)).trans ?_
        have i1 : mNotB (mTru (mIsi (isiT .str []) (mVar 2))) [some (.tup [a, b, c]), some (.int n), some a, some b, some c] L = .ok (!isS a) L := mnotb_ok (mtru_ok (isi_str ia rfl) rfl)
        have i2 : mNotB (mTru (mIsi (isiT .str []) (mVar 4))) [some (.tup [a, b, c]), some (.int n), some a, some b, some c] L = .ok (!isS c) L := mnotb_ok (mtru_ok (isi_str ic rfl) rfl)
        have i3 : mNotB (mTru (mCall G_is_integer (mCons (mVar 3) mNil))) [some (.tup [a, b, c]), some (.int n), some a, some b, some c] L = .ok (!isI b) L := mnotb_ok (mtru_ok (mcall_ok rfl (Gint ib)) rfl)
        cases hs : isS a with
        | false =>
          rw [hs] at i1
          have : takeS n (.tup [a, b, c]) = false := by
            cases a with
            | str s => cases hs
            | _ => rfl
          rw [this]
          exact seq_rt ((mif_t (morb_t i1)).trans (mret_ok rfl))
        | true =>
          rw [hs] at i1
          obtain ⟨w, rfl⟩ : ∃ s, a = .str s := by
            cases a with
            | str s => exact ⟨s, rfl⟩
            | _ => cases hs
          cases hc : isS c with
          | false =>
            rw [hc] at i2
            have : takeS n (.tup [.str w, b, c]) = false := by
              cases b with
              | int i =>
                cases c with
                | str s => cases hc
                | _ => rfl
              | _ => rfl
            rw [this]
            exact seq_rt ((mif_t ((morb_f i1).trans (morb_t i2))).trans (mret_ok rfl))
          | true =>
            rw [hc] at i2
            obtain ⟨m, rfl⟩ : ∃ s, c = .str s := by
              cases c with
              | str s => exact ⟨s, rfl⟩
              | _ => cases hc
            cases hi : isI b with
            | false =>
              rw [hi] at i3
              have : takeS n (.tup [.str w, b, .str m]) = false := by
                cases b with
                | int i => cases hi
                | _ => rfl
              rw [this]
              exact seq_rt ((mif_t ((morb_f i1).trans ((morb_f i2).trans i3))).trans (mret_ok rfl))
            | true =>
              rw [hi] at i3
              obtain ⟨p, rfl⟩ : ∃ i, b = .int i := by
                cases b with
                | int i => exact ⟨i, rfl⟩
                | _ => cases hi
              refine (seq_nx ((mif_f ((morb_f i1).trans ((morb_f i2).trans i3))).trans rfl)).trans (mret_ok ?_)
              exact mandv_b (mop2_ok (x := .str w) (y := d_WORDS) rfl rfl in_strs) fun _ => mandv_b (mop2_ok (x := .str m) (y := d_MODES) rfl rfl in_strs) fun _ => chainLt rfl rfl rfl
    · have hz : (!((ds.length : Int) == 3)) = true := by
        rw [beq_eq_false_iff_ne.mpr (by omega)]
        rfl
      rw [hz] at c2
      have : takeS n (.tup ds) = false := by
        unfold takeS
        split
        · rename_i e
          cases e
          exact absurd rfl h3
        · rfl
      rw [this]
      exact seq_rt ((mif_t ((morb_f c1).trans c2)).trans (mret_ok rfl))
/-! comprehensions over a heap that else stands -/
theorem comp_at {α : Type} {g : α → D} {p : α → Bool} {f : α → D} {src : Src} {t : MG} {tt : MB} {te : ME} {ε : En} {B : List O} (hok : ∀ x, src.ok (B ++ [x]) = true) :
    ∀ (xs : List α) (acc : List D), (∀ a ∈ xs, ∀ x, ∃ ε1, t.f (g a) ε = some ε1 ∧ tt ε1 (B ++ [x]) = .ok (p a) (B ++ [x]) ∧ te ε1 (B ++ [x]) = .ok (f a) (B ++ [x])) → acc.length + xs.length ≤ 1000 →
    loopC src t tt te B.length ε (xs.map g) (B ++ [.lst acc]) = .ok (.ref B.length) (B ++ [.lst (acc ++ (xs.filter p).map f)])
  | [], acc, _, _ => by
    show loopC _ _ _ _ _ _ [] _ = _
    unfold loopC
    rw [if_pos (hok _)]
    simp
  | a :: xs, acc, h, hl => by
    obtain ⟨ε1, h1, h2, h3⟩ := h a List.mem_cons_self (.lst acc)
    show loopC _ _ _ _ _ _ (g a :: xs.map g) _ = _
    unfold loopC
    rw [if_pos (hok _), h1]
    simp only
    rw [h2]
    cases hp : p a with
    | false =>
      simp only [Rs.nox, Rs.bind, Bool.false_eq_true, if_false]
      rw [comp_at hok xs acc (fun b hb => h b (List.mem_cons_of_mem _ hb)) (by simp at hl; omega), List.filter_cons_of_neg (by simp [hp])]
    | true =>
      simp only [Rs.nox, Rs.bind, if_true, h3, at_end]
      rw [if_pos (by simp at hl; unfold most; omega), set_end]
      rw [comp_at hok xs (acc ++ [f a]) (fun b hb => h b (List.mem_cons_of_mem _ hb)) (by simp at hl ⊢; omega), List.filter_cons_of_pos hp, List.append_assoc]
      rfl
theorem ok_none {ds : List D} {L : List O} : (Src.mk ds none).ok L = true := rfl
theorem ok_some {ds : List D} {B : List O} {m : Nat} {o x : O} (h : B[m]? = some o) : (Src.mk ds (some (m, o))).ok (B ++ [x]) = true := decide_eq_true (ap h)
theorem cut_to {xs : List D} {i : Nat} (h : i ≤ xs.length) : cutD xs none (some (i : Int)) = xs.take i := by
  unfold cutD
  have h1 : HT.sIx xs.length 0 none = 0 := rfl
  have h2 : HT.sIx xs.length xs.length (some (i : Int)) = i := by
    rw [HT.sIx_nat]
    omega
  rw [h1, h2]
  simp
abbrev T3 := Str × Int × Str
def tk3 (t : T3) : D := .tup [.str t.1, .int t.2.1, .str t.2.2]
def hopB (k h : Int) : Bool := decide (1 ≤ k) && decide (k ≤ h)
def lastB (pre : List T3) : Bool := match pre.getLast? with
  | some u => !decide (u.2.2 = "shared")
  | none => false
def allowS (pre : List T3) (t : T3) (h : Int) : Bool :=
  !decide (t.2.1 ∈ pre.map (·.2.1)) && (!decide (t.1 = (if hopB pre.length h = true then ("try" : Str) else "leap")) && (!decide (t.2.2 = "rising") || (!hopB pre.length h && (decide ((0 : Int) < pre.length) && lastB pre))))
theorem at_k {ts : List D} {pre : List T3} {d : D} {rest : List D} (e : ts = pre.map tk3 ++ d :: rest) : atI ts (pre.length : Int) = some d := by
  refine atI_get ?_
  rw [e, List.getElem?_append_right (by simp)]
  simp
theorem mif_b {c : MB} {ε : En} {L L1 : List O} {b : Bool} {r : D} {m : MS} (h : c ε L = .ok b L1) : mSeq (mIf c (mRet (mC r)) mNext) m ε L = if b = true then .rt r L1 else m ε L1 := by
  cases b with
  | true => exact seq_rt ((mif_t h).trans rfl)
  | false => exact seq_nx ((mif_f h).trans rfl)
theorem pts_comp {pre : List T3} {L : List O} {ε : En} {src : Src} {own : List Nat} {mi : MI} {t : MG} {te : ME} (hmi : mi ε L = .ok ⟨pre.map tk3, none⟩ L) (ht : ∀ q ∈ pre, ∀ M, ∃ ε1, t.f (tk3 q) (wipeE ε own) = some ε1 ∧ te ε1 M = .ok (.int q.2.1) M) (hl : pre.length ≤ 100) :
    mComp own mi t mYes te ε L = .ok (.ref L.length) (L ++ [.lst ((pre.map (·.2.1)).map D.int)]) := by
  refine (mcomp_ok hmi (comp_at (g := tk3) (p := fun _ => true) (f := fun q => D.int q.2.1) (fun _ => rfl) pre [] (fun q hq x => by
    obtain ⟨ε1, a, b⟩ := ht q hq (L ++ [x])
    exact ⟨ε1, a, rfl, b⟩) (by simp; omega))).trans ?_
  rw [List.nil_append, List.filter_eq_self.mpr (fun _ _ => rfl), List.map_map]
  rfl
theorem in_pts {L : List O} {ns : List Int} {p : Int} : oIn (.int p) (.ref L.length) (L ++ [.lst (ns.map D.int)]) = some (.bl (decide (p ∈ ns)), L ++ [.lst (ns.map D.int)]) := by
  unfold oIn
  rw [inD_ints at_end]
  rfl
theorem sh_try : SeqAt.shaped (.str "try") = true := by decide +kernel
theorem sh_leap : SeqAt.shaped (.str "leap") = true := by decide +kernel
theorem sh_rising : SeqAt.shaped (.str "rising") = true := by decide +kernel
theorem sh_shared : SeqAt.shaped (.str "shared") = true := by decide +kernel
theorem neS {L : List O} {a b : Str} (ha : SeqAt.shaped (.str a) = true) (hb : SeqAt.shaped (.str b) = true) : oNe (.str a) (.str b) L = some (.bl (!decide (a = b)), L) := by
  have := eqS (L := L) ha hb
  unfold oEq at this
  unfold oNe
  cases he : eqData L (.str a) (.str b) with
  | none => rw [he] at this; cases this
  | some c =>
    rw [he] at this
    simp only [Option.map_some, Option.some.injEq, Prod.mk.injEq, D.bl.injEq, and_true] at this
    simp [this]
theorem morv_b {a b : ME} {ε : En} {L : List O} {x y : Bool} (h : a ε L = .ok (.bl x) L) (h2 : x = false → b ε L = .ok (.bl y) L) : mOrV a b ε L = .ok (.bl (x || y)) L := by
  unfold mOrV
  rw [h]
  cases x with
  | true => rfl
  | false => exact h2 rfl
abbrev E8 (a0 a1 a2 a3 a4 a5 a6 a7 : Option D) : En := [a0, a1, a2, a3, a4, a5, a6, a7]
theorem is_allowed_ok {L : List O} {ts : List D} {pre : List T3} {t : T3} {rest : List D} {h : Int} (e : ts = pre.map tk3 ++ tk3 t :: rest) (hl : pre.length ≤ 100) (hs : ∀ u ∈ pre, SeqAt.shaped (.str u.2.2) = true) (hw : SeqAt.shaped (.str t.1) = true) (hm : SeqAt.shaped (.str t.2.2) = true) :
    ∃ X, G_is_allowed [.tup ts, .int (pre.length : Int), .int h] L = .ok (.bl (allowS pre t h)) (L ++ X) := by
  let k : Int := pre.length
  let M := L ++ [O.lst ((pre.map (·.2.1)).map D.int)]
  have hk := at_k e
  have sl : mIter (mSl (mVar 0) mNoPart (mPart (mVar 1))) (E8 (some (.tup ts)) (some (.int k)) (some (.int h)) (some (.str t.1)) (some (.int t.2.1)) (some (.str t.2.2)) none none) L = .ok ⟨pre.map tk3, none⟩ L := by
    refine miter_tup (msl_ok (x := .tup ts) rfl mnopart_ok (mpart_ok (i := k) rfl) ?_)
    show some (D.tup (cutD ts none (some ((pre.length : Nat) : Int))), L) = _
    rw [cut_to (by rw [e, List.length_append, List.length_map]; omega), e]
    simp
  have cm : mComp [7] (mIter (mSl (mVar 0) mNoPart (mPart (mVar 1)))) (gNm 7) mYes (mOp2 oIdx (mVar 7) (mC (.int 1))) (E8 (some (.tup ts)) (some (.int k)) (some (.int h)) (some (.str t.1)) (some (.int t.2.1)) (some (.str t.2.2)) none none) L = .ok (.ref L.length) M :=
    pts_comp (src := ⟨[], none⟩) sl (fun q hq M => ⟨E8 (some (.tup ts)) (some (.int k)) (some (.int h)) (some (.str t.1)) (some (.int t.2.1)) (some (.str t.2.2)) none (some (tk3 q)), rfl, mop2_ok (x := tk3 q) (y := .int 1) rfl rfl rfl⟩) hl
  have c1 : mTst (mOp2 oIn (mVar 4) (mComp [7] (mIter (mSl (mVar 0) mNoPart (mPart (mVar 1)))) (gNm 7) mYes (mOp2 oIdx (mVar 7) (mC (.int 1))))) (E8 (some (.tup ts)) (some (.int k)) (some (.int h)) (some (.str t.1)) (some (.int t.2.1)) (some (.str t.2.2)) none none) L = .ok (decide (t.2.1 ∈ pre.map (·.2.1))) M := mtst_ok (mop2_ok (x := .int t.2.1) rfl cm in_pts)
  refine ⟨[O.lst ((pre.map (·.2.1)).map D.int)], ?_⟩
  show F_is_allowed [.tup ts, .int k, .int h] L = .ok _ M
  refine runF_rt rfl ?_
  show m_is_allowed (E8 (some (.tup ts)) (some (.int k)) (some (.int h)) none none none none none) L = _
  unfold m_is_allowed
  refine (seq_nx (masg_ok (x := tk3 t) (ε1 := E8 (some (.tup ts)) (some (.int k)) (some (.int h)) (some (.str t.1)) (some (.int t.2.1)) (some (.str t.2.2)) none none) (mop2_ok (x := .tup ts) (y := .int k) rfl rfl (by
    show (atI ts k).map _ = _
    rw [hk]
    rfl)) rfl)).trans ?_
  rw [mif_b c1]
  unfold allowS
  cases hp : decide (t.2.1 ∈ pre.map (·.2.1)) with
  | true => rfl
  | false =>
    rw [if_neg (by decide), Bool.not_false, Bool.true_and]
    have c2 : mChain oLe oLe (mC (.int 1)) (mVar 1) (mVar 2) (E8 (some (.tup ts)) (some (.int k)) (some (.int h)) (some (.str t.1)) (some (.int t.2.1)) (some (.str t.2.2)) none none) M = .ok (.bl (hopB k h)) M := chainLe rfl rfl rfl
    refine (seq_nx (mset_ok (i := 6) c2)).trans ?_
    have c3 : mTst (mOp2 oEq (mVar 3) (mIfE (mTru (mVar 6)) (mC (.str "try")) (mC (.str "leap")))) (E8 (some (.tup ts)) (some (.int k)) (some (.int h)) (some (.str t.1)) (some (.int t.2.1)) (some (.str t.2.2)) (some (.bl (hopB k h))) none) M = .ok (decide (t.1 = (if hopB k h = true then ("try" : Str) else "leap"))) M := by
      have tr : mTru (mVar 6) (E8 (some (.tup ts)) (some (.int k)) (some (.int h)) (some (.str t.1)) (some (.int t.2.1)) (some (.str t.2.2)) (some (.bl (hopB k h))) none) M = .ok (hopB k h) M := mtru_ok (x := .bl (hopB k h)) rfl rfl
      cases hh : hopB k h with
      | true => rw [hh] at tr; exact mtst_ok (mop2_ok (x := .str t.1) rfl ((mife_t tr).trans rfl) (eqS hw sh_try))
      | false => rw [hh] at tr; exact mtst_ok (mop2_ok (x := .str t.1) rfl ((mife_f tr).trans rfl) (eqS hw sh_leap))
    refine (mif_b c3).trans ?_
    cases hq : decide (t.1 = (if hopB k h = true then ("try" : Str) else "leap")) with
    | true => rfl
    | false =>
      rw [if_neg (by decide), Bool.not_false, Bool.true_and]
      refine mret_ok ?_
      refine morv_b (mop2_ok (x := .str t.2.2) rfl rfl (neS hm sh_rising)) fun _ => mandv_b (x := !hopB k h) rfl fun _ => mandv_b (x := decide ((0 : Int) < k)) rfl fun hpos => ?_
      have hpos : (0 : Int) < (pre.length : Int) := of_decide_eq_true hpos
      have hne : pre ≠ [] := by
        rintro rfl
        simp at hpos
      obtain ⟨ini, u, rfl⟩ : ∃ i z, pre = i ++ [z] := ⟨pre.dropLast, pre.getLast hne, (List.dropLast_concat_getLast hne).symm⟩
      have hb : lastB (ini ++ [u]) = !decide (u.2.2 = "shared") := by unfold lastB; rw [List.getLast?_concat]
      rw [hb]
      have hkk : k - 1 = (ini.length : Int) := by show ((ini ++ [u]).length : Int) - 1 = _; simp
      have at1 : atI ts (k - 1) = some (tk3 u) := by
        rw [hkk]
        refine at_k (pre := ini) (rest := tk3 t :: rest) ?_
        rw [e]
        simp
      refine mop2_ok (x := .str u.2.2) (mop2_ok (x := tk3 u) (y := .int 2) (mop2_ok (x := .tup ts) (y := .int (k - 1)) rfl (mop2_ok (x := .int k) (y := .int 1) rfl rfl rfl) (by
        show (atI ts (k - 1)).map _ = _
        rw [at1]
        rfl)) rfl rfl) rfl (neS (hs u (by simp)) sh_shared)
/-! the law's takes -/
theorem in_list {M : List O} {n : Nat} {ss : List Str} (hM : M[n]? = some (.lst (ss.map D.str))) (hsh : SeqAt.shaped (.list (ss.map PyData.str)) = true) {a : D} (hn : Nice 3 a) (hp : plainD a = true) : oNotIn a (.ref n) M = some (.bl (!(ss.any fun s => isStr s a)), M) := by
  obtain ⟨p, h1, h2, h3⟩ := val_py hn hp
  have hstr : ∀ l : List Str, optAll (toPy M 15) (l.map D.str) = some (l.map PyData.str) := by
    intro l
    induction l with
    | nil => rfl
    | cons s l ih =>
      show optAll (toPy M 15) (.str s :: l.map D.str) = _
      exact optAll_cons rfl ih
  have t1 : toPy M pyDeep (.ref n) = some (.list (ss.map PyData.str)) := by
    show (match M[n]? with | some (.lst ds) => (optAll (toPy M 15) ds).map PyData.list | _ => none) = _
    rw [hM]
    show (optAll (toPy M 15) (ss.map D.str)).map PyData.list = _
    rw [hstr]
    rfl
  have ha : ∀ l : List Str, ((l.map PyData.str).any fun z => PyData.eqv z p) = l.any fun s => isStr s a := by
    intro l
    induction l with
    | nil => rfl
    | cons s l ih =>
      rw [List.map_cons, List.any_cons, ih, eqv_symm, h3]
      rfl
  have h : inD M a (.ref n) = some (ss.any fun s => isStr s a) := by
    unfold inD
    simp only [hM, h1, t1, h2, hsh, and_self, if_true, ha]
  unfold oNotIn
  rw [h]
  rfl
def lawT (pre : List T3) (last h : Int) : D → Bool
  | .tup [.str w, .int p, .str m] => takeS (last + 1) (.tup [.str w, .int p, .str m]) && allowS pre (w, p, m) h
  | _ => false
abbrev E9 (a0 a1 a2 a3 a4 a5 a6 a7 a8 : Option D) : En := [a0, a1, a2, a3, a4, a5, a6, a7, a8]
theorem rngD_nats (n : Nat) : rngD 0 n = (List.range n).map fun (j : Nat) => D.int (j : Int) := by
  apply List.ext_getElem?
  intro i
  by_cases h : i < n
  · have h2 : i < (rngD 0 n).length := by rw [rngD_len]; exact h
    have e1 := List.getElem?_eq_getElem h2
    obtain ⟨e2, _⟩ := rngD_get e1
    rw [e1, e2]
    simp [h]
  · rw [List.getElem?_eq_none (by rw [rngD_len]; omega), List.getElem?_eq_none (by simp; omega)]
/-- the points of the takes before -/
theorem pts_rng {pre : List T3} {ts : List D} {d : D} {rest : List D} (e : ts = pre.map tk3 ++ d :: rest) {L : List O} (hl : pre.length ≤ 100) {a2 a3 a4 a5 a6 a7 a8 : Option D} :
    mComp [8] (mRng1 (mVar 1)) (gNm 8) mYes (mOp2 oIdx (mOp2 oIdx (mVar 0) (mVar 8)) (mC (.int 1))) (E9 (some (.tup ts)) (some (.int (pre.length : Int))) a2 a3 a4 a5 a6 a7 a8) L = .ok (.ref L.length) (L ++ [.lst ((pre.map (·.2.1)).map D.int)]) := by
  have hr : mRng1 (mVar 1) (E9 (some (.tup ts)) (some (.int (pre.length : Int))) a2 a3 a4 a5 a6 a7 a8) L = .ok ⟨rngD 0 pre.length, none⟩ L := by
    have := mrng1_ok (a := mVar 1) (ε := E9 (some (.tup ts)) (some (.int (pre.length : Int))) a2 a3 a4 a5 a6 a7 a8) (L := L) (L1 := L) (n := (pre.length : Int)) rfl (by omega) (by omega)
    rw [this]
    simp
  have c := comp_at (g := fun (j : Nat) => D.int (j : Int)) (p := fun _ => true) (f := fun (j : Nat) => D.int ((pre[j]?.map fun q => q.2.1).getD 0)) (src := ⟨rngD 0 pre.length, none⟩) (t := gNm 8) (tt := mYes) (te := mOp2 oIdx (mOp2 oIdx (mVar 0) (mVar 8)) (mC (.int 1))) (ε := wipeE (E9 (some (.tup ts)) (some (.int (pre.length : Int))) a2 a3 a4 a5 a6 a7 a8) [8]) (B := L) (fun _ => rfl) (List.range pre.length) [] (fun j hj x => by
    have hj2 : j < pre.length := List.mem_range.mp hj
    have hq : pre[j]? = some pre[j] := List.getElem?_eq_getElem hj2
    refine ⟨E9 (some (.tup ts)) (some (.int (pre.length : Int))) a2 a3 a4 a5 a6 a7 (some (.int (j : Int))), rfl, rfl, ?_⟩
    generalize pre[j] = q at hq
    have hat : atI ts (j : Int) = some (tk3 q) := atI_get (by
      rw [e, List.getElem?_append_left (by simpa using hj2), List.getElem?_map, hq]
      rfl)
    rw [hq]
    exact mop2_ok (x := tk3 q) (y := .int 1) (mop2_ok (x := .tup ts) (y := .int (j : Int)) rfl rfl (by
      show (atI ts (j : Int)).map _ = _
      rw [hat]
      rfl)) rfl rfl) (by simp; omega)
  rw [← rngD_nats] at c
  refine (mcomp_ok hr c).trans ?_
  rw [List.nil_append, List.filter_eq_self.mpr (fun _ _ => rfl)]
  have : (List.range pre.length).map (fun (j : Nat) => D.int ((pre[j]?.map fun q => q.2.1).getD 0)) = (pre.map (·.2.1)).map D.int := by
    apply List.ext_getElem?
    intro i
    by_cases hi : i < pre.length
    · simp [hi]
    · rw [List.getElem?_eq_none (by simp; omega), List.getElem?_eq_none (by simp; omega)]
  rw [this]
theorem sh_words : SeqAt.shaped (.list ((["take", "leap"] : List Str).map PyData.str)) = true ∧ SeqAt.shaped (.list ((["take", "try"] : List Str).map PyData.str)) = true ∧ SeqAt.shaped (.list ((["shared", "alone", "rising"] : List Str).map PyData.str)) = true := by decide +kernel
theorem seq_if {c : MB} {ε : En} {L L1 : List O} {r : D} {m : MS} {res : RS} (h : c ε L = .ok true L1) (hr : res = .rt r L1) : mSeq (mIf c (mRet (mC r)) mNext) m ε L = res := by
  rw [mif_b h, if_pos rfl, hr]
theorem seq_no {c : MB} {ε : En} {L L1 : List O} {r : D} {m : MS} (h : c ε L = .ok false L1) : mSeq (mIf c (mRet (mC r)) mNext) m ε L = m ε L1 := by
  rw [mif_b h, if_neg (by decide)]
theorem law_take_ok {L : List O} {ts : List D} {pre : List T3} {d : D} {rest : List D} {last h : Int} (e : ts = pre.map tk3 ++ d :: rest) (hl : pre.length ≤ 100) (hs : ∀ u ∈ pre, SeqAt.shaped (.str u.2.2) = true) (hd : It L d) :
    ∃ X, Gulaw_is_take [.tup ts, .int (pre.length : Int), .int last, .int h] L = .ok (.bl (lawT pre last h d)) (L ++ X) := by
  let k : Int := pre.length
  have hk := at_k e
  suffices ∃ X, m_law_is_take (E9 (some (.tup ts)) (some (.int k)) (some (.int last)) (some (.int h)) none none none none none) L = .rt (.bl (lawT pre last h d)) (L ++ X) by
    obtain ⟨X, hX⟩ := this
    refine ⟨X, ?_⟩
    show Fulaw_is_take _ _ = _
    exact runF_rt rfl hX
  unfold m_law_is_take
  rw [seq_nx (mset_ok (i := 4) (x := d) (L1 := L) (mop2_ok (x := .tup ts) (y := .int k) rfl rfl (by
    show (atI ts k).map _ = _
    rw [hk]
    rfl)))]
  show ∃ X, mSeq _ _ (E9 (some (.tup ts)) (some (.int k)) (some (.int last)) (some (.int h)) (some d) none none none none) L = _
  have c1 : mNotB (mTru (mIsi (isiT .tup []) (mVar 4))) (E9 (some (.tup ts)) (some (.int k)) (some (.int last)) (some (.int h)) (some d) none none none none) L = .ok (!isTup d) L := mnotb_ok (mtru_ok (isi_tup hd rfl) rfl)
  cases ht : isTup d with
  | false =>
    rw [ht] at c1
    have : lawT pre last h d = false := by
      cases d with
      | tup ds => cases ht
      | _ => rfl
    rw [this]
    exact ⟨[], by rw [List.append_nil]; exact seq_if (morb_t c1) rfl⟩
  | true =>
    rw [ht] at c1
    obtain ⟨ds, rfl⟩ : ∃ ds, d = .tup ds := by
      cases d with
      | tup ds => exact ⟨ds, rfl⟩
      | _ => cases ht
    have c2 : mTst (mOp2 oNe (mFn cLen (mCons (mVar 4) mNil)) (mC (.int 3))) (E9 (some (.tup ts)) (some (.int k)) (some (.int last)) (some (.int h)) (some (.tup ds)) none none none none) L = .ok (!((ds.length : Int) == 3)) L := mtst_ok (mop2_ok (x := .int ds.length) (mfn_ok (mone_ok rfl) rfl) rfl neI_of)
    by_cases h3 : ds.length = 3
    · match ds, h3, hd, c1, c2 with
      | [a, b, c], _, hd, c1, c2 =>
        have ia := hd.parts (d := a) List.mem_cons_self
        have ib := hd.part (d := b) (List.mem_cons_of_mem _ List.mem_cons_self)
        have ic := hd.parts (d := c) (List.mem_cons_of_mem _ (List.mem_cons_of_mem _ List.mem_cons_self))
        rw [seq_no ((morb_f c1).trans c2)]
        rw [seq_nx (masg_ok (x := .tup [a, b, c]) (L1 := L) (ε1 := E9 (some (.tup ts)) (some (.int k)) (some (.int last)) (some (.int h)) (some (.tup [a, b, c])) (some a) (some b) (some c) none) rfl rfl)]
        have i1 : mNotB (mTru (mCall Gulaw_whole (mCons (mVar 6) mNil))) (E9 (some (.tup ts)) (some (.int k)) (some (.int last)) (some (.int h)) (some (.tup [a, b, c])) (some a) (some b) (some c) none) L = .ok (!isI b) L := mnotb_ok (mtru_ok (mcall_ok rfl (Gwhole ib)) rfl)
        cases hi : isI b with
        | false =>
          rw [hi] at i1
          have : lawT pre last h (.tup [a, b, c]) = false := by
            cases a with
            | str s =>
              cases b with
              | int i => cases hi
              | _ => rfl
            | _ => rfl
          rw [this]
          exact ⟨[], by rw [List.append_nil]; exact seq_if (morb_t i1) rfl⟩
        | true =>
          rw [hi] at i1
          obtain ⟨p, rfl⟩ : ∃ i, b = .int i := by
            cases b with
            | int i => exact ⟨i, rfl⟩
            | _ => cases hi
          have i2 : mNotB (mTst (mChain oLe oLe (mC (.int 0)) (mVar 6) (mVar 2))) (E9 (some (.tup ts)) (some (.int k)) (some (.int last)) (some (.int h)) (some (.tup [a, .int p, c])) (some a) (some (.int p)) (some c) none) L = .ok (!(decide (0 ≤ p) && decide (p ≤ last))) L := mnotb_ok (mtst_ok (chainLe (x := 0) (y := p) (z := last) rfl rfl rfl))
          have hlt : decide (p < last + 1) = decide (p ≤ last) := by
            by_cases hh : p ≤ last
            · rw [decide_eq_true hh, decide_eq_true (by omega)]
            · rw [decide_eq_false hh, decide_eq_false (by omega)]
          cases hr : (decide (0 ≤ p) && decide (p ≤ last)) with
          | false =>
            rw [hr] at i2
            have : lawT pre last h (.tup [a, .int p, c]) = false := by
              cases a with
              | str w =>
                cases c with
                | str m =>
                  show ((wordB w && (modeB m && (decide (0 ≤ p) && decide (p < last + 1)))) && _) = false
                  rw [hlt, hr]
                  simp
                | _ => rfl
              | _ => rfl
            rw [this]
            exact ⟨[], by rw [List.append_nil]; exact seq_if ((morb_f i1).trans i2) rfl⟩
          | true =>
            rw [hr] at i2
            rw [seq_no ((morb_f i1).trans i2)]
            -- the word
            have ch : mTst (mChain oLt oLe (mC (.int 0)) (mVar 1) (mVar 3)) (E9 (some (.tup ts)) (some (.int k)) (some (.int last)) (some (.int h)) (some (.tup [a, .int p, c])) (some a) (some (.int p)) (some c) none) L = .ok (hopB k h) L := by
              refine mtst_ok ?_
              unfold mChain
              have v1 : mVar 1 (E9 (some (.tup ts)) (some (.int k)) (some (.int last)) (some (.int h)) (some (.tup [a, .int p, c])) (some a) (some (.int p)) (some c) none) L = .ok (.int k) L := rfl
              have v3 : mVar 3 (E9 (some (.tup ts)) (some (.int k)) (some (.int last)) (some (.int h)) (some (.tup [a, .int p, c])) (some a) (some (.int p)) (some c) none) L = .ok (.int h) L := rfl
              have v0 : mC (.int 0) (E9 (some (.tup ts)) (some (.int k)) (some (.int last)) (some (.int h)) (some (.tup [a, .int p, c])) (some a) (some (.int p)) (some c) none) L = .ok (.int 0) L := rfl
              rw [v0]
              simp only [Rs.bind, v1]
              have h1 : oLt (.int 0) (.int k) L = some (.bl (decide (0 < k)), L) := rfl
              have h2 : oLe (.int k) (.int h) L = some (.bl (decide (k ≤ h)), L) := rfl
              simp only [h1]
              unfold hopB
              by_cases hx : 0 < k
              · rw [decide_eq_true hx, decide_eq_true (show 1 ≤ k by omega)]
                simp only [ofO, v3, h2, Bool.true_and]
              · rw [decide_eq_false hx, decide_eq_false (show ¬ 1 ≤ k by omega)]
                rfl
            let W : Str := if hopB k h = true then "leap" else "try"
            let V : Str := if hopB k h = true then "try" else "leap"
            let L1 := L ++ [O.lst ([("take" : Str), W].map D.str)]
            have hW : SeqAt.shaped (.list ([("take" : Str), W].map PyData.str)) = true := by
              show SeqAt.shaped (.list ([("take" : Str), if hopB k h = true then ("leap" : Str) else "try"].map PyData.str)) = true
              cases hopB k h with
              | true => exact sh_words.1
              | false => exact sh_words.2.1
            have mw : mLst (mCons (mC (.str "take")) (mCons (mIfE (mTst (mChain oLt oLe (mC (.int 0)) (mVar 1) (mVar 3))) (mC (.str "leap")) (mC (.str "try"))) mNil)) (E9 (some (.tup ts)) (some (.int k)) (some (.int last)) (some (.int h)) (some (.tup [a, .int p, c])) (some a) (some (.int p)) (some c) none) L = .ok (.ref L.length) L1 := by
              refine mlst_ok (L1 := L) (xs := [.str "take", .str W]) (mcons_ok (x := .str "take") (L1 := L) rfl (mone_ok ?_)) (show 2 ≤ most by decide)
              show _ = Rs.ok (D.str (if hopB k h = true then ("leap" : Str) else "try")) L
              cases hh : hopB k h with
              | true => rw [hh] at ch; exact (mife_t ch).trans rfl
              | false => rw [hh] at ch; exact (mife_f ch).trans rfl
            have c3 : mTst (mOp2 oNotIn (mVar 5) (mLst (mCons (mC (.str "take")) (mCons (mIfE (mTst (mChain oLt oLe (mC (.int 0)) (mVar 1) (mVar 3))) (mC (.str "leap")) (mC (.str "try"))) mNil)))) (E9 (some (.tup ts)) (some (.int k)) (some (.int last)) (some (.int h)) (some (.tup [a, .int p, c])) (some a) (some (.int p)) (some c) none) L = .ok (!([("take" : Str), W].any fun s => isStr s a)) L1 := mtst_ok (mop2_ok (x := a) rfl mw (in_list (ss := [("take" : Str), W]) at_end hW ia.1 ia.2))
            cases hw : ([("take" : Str), W].any fun s => isStr s a) with
            | false =>
              rw [hw] at c3
              have : lawT pre last h (.tup [a, .int p, c]) = false := by
                cases a with
                | str w =>
                  cases c with
                  | str m =>
                    have hw2 : (decide (w = "take") || (decide (w = (if hopB k h = true then ("leap" : Str) else "try")) || false)) = false := hw
                    show ((wordB w && _) && (!decide (p ∈ _) && (!decide (w = (if hopB k h = true then ("try" : Str) else "leap")) && _))) = false
                    unfold wordB
                    cases hh : hopB k h with
                    | true =>
                      rw [hh] at hw2
                      simp only [if_true, Bool.or_false, Bool.or_eq_false_iff] at hw2 ⊢
                      rw [hw2.1, hw2.2]
                      cases decide (w = "try") <;> simp
                    | false =>
                      rw [hh] at hw2
                      simp only [Bool.false_eq_true, if_false, Bool.or_false, Bool.or_eq_false_iff] at hw2 ⊢
                      rw [hw2.1, hw2.2]
                      cases decide (w = "leap") <;> simp
                  | _ => rfl
                | _ => rfl
              rw [this]
              exact ⟨_, seq_if c3 rfl⟩
            | true =>
              rw [hw] at c3
              rw [seq_no c3]
              obtain ⟨w, rfl⟩ : ∃ s, a = .str s := by
                cases a with
                | str s => exact ⟨s, rfl⟩
                | _ => cases hw
              have hw2 : (decide (w = "take") || (decide (w = (if hopB k h = true then ("leap" : Str) else "try")) || false)) = true := hw
              have hv : wordB w = true ∧ decide (w = (if hopB k h = true then ("try" : Str) else "leap")) = false := by
                unfold wordB
                cases hh : hopB k h with
                | true =>
                  rw [hh] at hw2
                  simp only [if_true, Bool.or_false, Bool.or_eq_true, decide_eq_true_eq] at hw2 ⊢
                  rcases hw2 with rfl | rfl <;> exact ⟨by simp, by decide +kernel⟩
                | false =>
                  rw [hh] at hw2
                  simp only [Bool.false_eq_true, if_false, Bool.or_false, Bool.or_eq_true, decide_eq_true_eq] at hw2 ⊢
                  rcases hw2 with rfl | rfl <;> exact ⟨by simp, by decide +kernel⟩
              let L2 := L1 ++ [O.lst ((["shared", "alone", "rising"] : List Str).map D.str)]
              have c4 : mTst (mOp2 oNotIn (mVar 7) (mLst (mCons (mC (.str "shared")) (mCons (mC (.str "alone")) (mCons (mC (.str "rising")) mNil))))) (E9 (some (.tup ts)) (some (.int k)) (some (.int last)) (some (.int h)) (some (.tup [.str w, .int p, c])) (some (.str w)) (some (.int p)) (some c) none) L1 = .ok (!((["shared", "alone", "rising"] : List Str).any fun s => isStr s c)) L2 := mtst_ok (mop2_ok (x := c) rfl (mlst_ok (xs := [.str "shared", .str "alone", .str "rising"]) rfl (show 3 ≤ most by decide)) (in_list (ss := ["shared", "alone", "rising"]) at_end sh_words.2.2 ic.1 ic.2))
              cases hm : ((["shared", "alone", "rising"] : List Str).any fun s => isStr s c) with
              | false =>
                rw [hm] at c4
                have : lawT pre last h (.tup [.str w, .int p, c]) = false := by
                  cases c with
                  | str m =>
                    have hm2 : (decide (m = "shared") || (decide (m = "alone") || (decide (m = "rising") || false))) = false := hm
                    rw [Bool.or_false] at hm2
                    show ((wordB w && (modeB m && _)) && _) = false
                    rw [show modeB m = false from hm2]
                    simp
                  | _ => rfl
                rw [this]
                exact ⟨[.lst ([("take" : Str), W].map D.str), .lst ((["shared", "alone", "rising"] : List Str).map D.str)], by
                  have : L ++ [.lst ([("take" : Str), W].map D.str), .lst ((["shared", "alone", "rising"] : List Str).map D.str)] = L2 := by simp [L2, L1]
                  rw [this]
                  exact seq_if (morb_t c4) rfl⟩
              | true =>
                rw [hm] at c4
                obtain ⟨m, rfl⟩ : ∃ s, c = .str s := by
                  cases c with
                  | str s => exact ⟨s, rfl⟩
                  | _ => cases hm
                have hm2 : modeB m = true := by
                  have hm2 : (decide (m = "shared") || (decide (m = "alone") || (decide (m = "rising") || false))) = true := hm
                  rw [Bool.or_false] at hm2
                  exact hm2
                let L3 := L2 ++ [O.lst ((pre.map (·.2.1)).map D.int)]
                have c5 : mTst (mOp2 oIn (mVar 6) (mComp [8] (mRng1 (mVar 1)) (gNm 8) mYes (mOp2 oIdx (mOp2 oIdx (mVar 0) (mVar 8)) (mC (.int 1))))) (E9 (some (.tup ts)) (some (.int k)) (some (.int last)) (some (.int h)) (some (.tup [.str w, .int p, .str m])) (some (.str w)) (some (.int p)) (some (.str m)) none) L2 = .ok (decide (p ∈ pre.map (·.2.1))) L3 := mtst_ok (mop2_ok (x := .int p) rfl (pts_rng e hl) in_pts)
                have hL3 : L ++ [.lst ([("take" : Str), W].map D.str), .lst ((["shared", "alone", "rising"] : List Str).map D.str), .lst ((pre.map (·.2.1)).map D.int)] = L3 := by simp [L3, L2, L1]
                refine ⟨[.lst ([("take" : Str), W].map D.str), .lst ((["shared", "alone", "rising"] : List Str).map D.str), .lst ((pre.map (·.2.1)).map D.int)], ?_⟩
                rw [hL3]
                have hT : lawT pre last h (.tup [.str w, .int p, .str m]) = allowS pre (w, p, m) h := by
                  show ((wordB w && (modeB m && (decide (0 ≤ p) && decide (p < last + 1)))) && _) = _
                  rw [hlt, hr, hm2, hv.1]
                  rfl
                rw [hT]
                unfold allowS
                cases hp : decide (p ∈ pre.map (·.2.1)) with
                | true =>
                  rw [hp] at c5
                  exact seq_if ((morb_f c4).trans c5) rfl
                | false =>
                  rw [hp] at c5
                  rw [seq_no ((morb_f c4).trans c5), Bool.not_false, Bool.true_and, show decide (w = (if hopB (pre.length : Int) h = true then ("try" : Str) else "leap")) = false from hv.2, Bool.not_false, Bool.true_and]
                  have im := (It.val (L := L3) ic.1 ic.2).shapedS
                  have g1 : mOp2 oGt (mVar 1) (mVar 3) (E9 (some (.tup ts)) (some (.int k)) (some (.int last)) (some (.int h)) (some (.tup [.str w, .int p, .str m])) (some (.str w)) (some (.int p)) (some (.str m)) none) L3 = .ok (.bl (decide (h < k))) L3 := mop2_ok (x := .int k) (y := .int h) rfl rfl rfl
                  have g2 : mOp2 oGt (mVar 1) (mC (.int 0)) (E9 (some (.tup ts)) (some (.int k)) (some (.int last)) (some (.int h)) (some (.tup [.str w, .int p, .str m])) (some (.str w)) (some (.int p)) (some (.str m)) none) L3 = .ok (.bl (decide (0 < k))) L3 := mop2_ok (x := .int k) (y := .int 0) rfl rfl rfl
                  have eqv2 : (!decide (m = "rising") || (decide (h < k) && (decide (0 < k) && lastB pre))) = (!decide (m = "rising") || (!hopB (pre.length : Int) h && (decide ((0 : Int) < pre.length) && lastB pre))) := by
                    congr 1
                    show (decide (h < k) && (decide (0 < k) && lastB pre)) = (!(decide (1 ≤ k) && decide (k ≤ h)) && (decide (0 < k) && lastB pre))
                    by_cases hx : 0 < k
                    · rw [decide_eq_true (show 1 ≤ k by omega), Bool.true_and]
                      by_cases hy : k ≤ h
                      · rw [decide_eq_true hy, decide_eq_false (by omega)]
                        rfl
                      · rw [decide_eq_false hy, decide_eq_true (by omega)]
                        rfl
                    · rw [decide_eq_false hx]
                      simp
                  rw [← eqv2]
                  refine mret_ok (morv_b (mop2_ok (x := .str m) rfl rfl (neS im sh_rising)) fun _ => mandv_b g1 fun _ => mandv_b g2 fun hpos => ?_)
                  have hpos : (0 : Int) < (pre.length : Int) := of_decide_eq_true hpos
                  have hne : pre ≠ [] := by
                    rintro rfl
                    simp at hpos
                  obtain ⟨ini, u, rfl⟩ : ∃ i z, pre = i ++ [z] := ⟨pre.dropLast, pre.getLast hne, (List.dropLast_concat_getLast hne).symm⟩
                  have hb : lastB (ini ++ [u]) = !decide (u.2.2 = "shared") := by unfold lastB; rw [List.getLast?_concat]
                  rw [hb]
                  have hkk : k - 1 = (ini.length : Int) := by show ((ini ++ [u]).length : Int) - 1 = _; simp
                  have at1 : atI ts (k - 1) = some (tk3 u) := by
                    rw [hkk]
                    refine at_k (pre := ini) (rest := .tup [.str w, .int p, .str m] :: rest) ?_
                    rw [e]
                    simp
                  exact mop2_ok (x := .str u.2.2) (mop2_ok (x := tk3 u) (y := .int 2) (mop2_ok (x := .tup ts) (y := .int (k - 1)) rfl (mop2_ok (x := .int k) (y := .int 1) rfl rfl rfl) (by
                    show (atI ts (k - 1)).map _ = _
                    rw [at1]
                    rfl)) rfl rfl) rfl (neS (hs u (by simp)) sh_shared)
    · have hz : (!((ds.length : Int) == 3)) = true := by
        rw [beq_eq_false_iff_ne.mpr (by omega)]
        rfl
      rw [hz] at c2
      have : lawT pre last h (.tup ds) = false := by
        unfold lawT
        split
        · rename_i ee
          cases ee
          exact absurd rfl h3
        · rfl
      rw [this]
      exact ⟨[], by rw [List.append_nil]; exact seq_if ((morb_f c1).trans c2) rfl⟩
/-! the points -/
def firstBad (k : Nat) : List D → Option Nat
  | [] => none
  | d :: r => if placeS (k : Int) d = true then firstBad (k + 1) r else some k
def cpB : MS := mIf (mNotB (mTru (mCall G_is_place (mCons (mVar 2) (mCons (mVar 1) mNil))))) (mRaise 3 ["part", "index"] (mCons (mC (.str "points")) (mCons (mVar 1) mNil))) mNext
def cpT : MG := gTupM 2 (gsCons (gNm 1) (gsCons (gNm 2) gsNil))
def badAt (s : Str) (k : Int) : List (Str × D) := [("part", .str s), ("index", .int k)]
theorem cp_loop {L : List O} {p : Option D} {src : Src} (hs : src.at_ = none) : ∀ (ps : List D) (k : Nat) (x1 x2 : Option D), (∀ d ∈ ps, It L d) →
    (firstBad k ps = none → ∃ y1 y2, loopF src cpT cpB (enumD (k : Int) ps) [p, x1, x2] L = .nx [p, y1, y2] L) ∧ (∀ j, firstBad k ps = some j → ∃ ε', loopF src cpT cpB (enumD (k : Int) ps) [p, x1, x2] L = .ex 3 (badAt "points" (j : Int)) ε' L)
  | [], k, x1, x2, _ => ⟨fun _ => ⟨x1, x2, by
      show loopF src cpT cpB [] _ _ = _
      unfold loopF
      rw [if_pos (by unfold Src.ok; rw [hs])]⟩, fun j h => by cases h⟩
  | d :: ps, k, x1, x2, hp => by
    have hd := hp d List.mem_cons_self
    have c : mNotB (mTru (mCall G_is_place (mCons (mVar 2) (mCons (mVar 1) mNil)))) [p, some (.int (k : Int)), some d] L = .ok (!placeS (k : Int) d) L := mnotb_ok (mtru_ok (mcall_ok rfl (is_place_ok hd (k : Int))) rfl)
    obtain ⟨h1, h2⟩ := cp_loop hs ps (k + 1) (some (.int (k : Int))) (some d) (fun z hz => hp z (List.mem_cons_of_mem _ hz))
    have step : loopF src cpT cpB (enumD (k : Int) (d :: ps)) [p, x1, x2] L = (match cpB [p, some (.int (k : Int)), some d] L with
        | .nx ε2 L2 => loopF src cpT cpB (enumD ((k : Int) + 1) ps) ε2 L2
        | .ct ε2 L2 => loopF src cpT cpB (enumD ((k : Int) + 1) ps) ε2 L2
        | .bk ε2 L2 => .nx ε2 L2
        | r => r) := by
      show loopF src cpT cpB (.tup [.int (k : Int), d] :: enumD ((k : Int) + 1) ps) _ _ = _
      rw [loopF, if_pos (by unfold Src.ok; rw [hs])]
      rfl
    rw [step]
    cases hb : placeS (k : Int) d with
    | true =>
      rw [hb] at c
      have e : cpB [p, some (.int (k : Int)), some d] L = .nx [p, some (.int (k : Int)), some d] L := (mif_f c).trans rfl
      have hf : firstBad k (d :: ps) = firstBad (k + 1) ps := by
        show (if placeS (k : Int) d = true then _ else _) = _
        rw [hb, if_pos rfl]
      rw [e, hf]
      rw [show ((k : Int) + 1) = ((k + 1 : Nat) : Int) by omega]
      exact ⟨h1, h2⟩
    | false =>
      rw [hb] at c
      have e : cpB [p, some (.int (k : Int)), some d] L = .ex 3 (badAt "points" (k : Int)) [p, some (.int (k : Int)), some d] L := (mif_t c).trans rfl
      have hf : firstBad k (d :: ps) = some k := by
        show (if placeS (k : Int) d = true then _ else _) = _
        rw [hb, if_neg (by decide)]
      rw [e, hf]
      refine ⟨nofun, fun j hj => ?_⟩
      cases hj
      exact ⟨_, rfl⟩
/-- the fault of the points -/
def ptsS : D → Option Int
  | .tup ps => if 4 < ps.length then some (-1) else (firstBad 0 ps).map fun k => (k : Int)
  | _ => some (-1)
def PtsOk (L : List O) : D → Prop
  | .tup ps => ∀ d ∈ ps, It L d
  | d => It L d ∨ ∃ (k : Nat) (ds : List D), d = .ref k ∧ L[k]? = some (.lst ds)
theorem tupIs {L : List O} {p : D} (h : PtsOk L p) {a : ME} {ε : En} (ha : a ε L = .ok p L) : mIsi (isiT .tup []) a ε L = .ok (.bl (isTup p)) L := by
  cases p with
  | tup ps =>
    unfold mIsi
    rw [ha]
    rfl
  | _ =>
    rcases h with h | ⟨k, ds, e, hk⟩
    · exact isi_tup h ha
    · first
      | (cases e; done)
      | (cases e
         unfold mIsi
         rw [ha]
         simp only [Rs.bind, tagD, hk]
         rfl)
theorem checked_points_ok {L : List O} {p : D} (h : PtsOk L p) : G_checked_points [p] L = (match ptsS p with
    | none => .ok .non L
    | some k => .ex 3 (badAt "points" k) L) := by
  have c1 : mNotB (mTru (mIsi (isiT .tup []) (mVar 0))) [some p, none, none] L = .ok (!isTup p) L := mnotb_ok (mtru_ok (tupIs h rfl) rfl)
  have raise : ∀ {c : MB} {m : MS}, c [some p, none, none] L = .ok true L → runF 1 3 (mSeq (mIf c (mRaise 3 ["part", "index"] (mCons (mC (.str "points")) (mCons (mOp1 oNeg (mC (.int 1))) mNil))) mNext) m) [p] L = .ex 3 (badAt "points" (-1)) L := fun {c m} hc => by
    have e : (mIf c (mRaise 3 ["part", "index"] (mCons (mC (.str "points")) (mCons (mOp1 oNeg (mC (.int 1))) mNil))) mNext) [some p, none, none] L = .ex 3 (badAt "points" (-1)) [some p, none, none] L := (mif_t hc).trans rfl
    have e2 : mSeq (mIf c (mRaise 3 ["part", "index"] (mCons (mC (.str "points")) (mCons (mOp1 oNeg (mC (.int 1))) mNil))) mNext) m [some p, none, none] L = .ex 3 (badAt "points" (-1)) [some p, none, none] L := by
      unfold mSeq
      rw [e]
    unfold runF
    rw [if_pos (show [p].length = 1 from rfl)]
    show (match mSeq _ m [some p, none, none] L with
      | .nx _ L' => Rs.ok D.non L'
      | .rt d L' => .ok d L'
      | .ex c fs _ L' => .ex c fs L'
      | _ => .bad) = _
    rw [e2]
  show F_checked_points [p] L = _
  cases ht : isTup p with
  | false =>
    rw [ht] at c1
    have : ptsS p = some (-1) := by
      cases p with
      | tup ps => cases ht
      | _ => rfl
    rw [this]
    exact raise (morb_t c1)
  | true =>
    rw [ht] at c1
    obtain ⟨ps, rfl⟩ : ∃ ps, p = .tup ps := by
      cases p with
      | tup ps => exact ⟨ps, rfl⟩
      | _ => cases ht
    have c2 : mTst (mOp2 oGt (mFn cLen (mCons (mVar 0) mNil)) (mC d_MOST_POINTS)) [some (.tup ps), none, none] L = .ok (decide ((4 : Int) < ps.length)) L := mtst_ok (mop2_ok (x := .int ps.length) (y := .int 4) (mfn_ok (mone_ok rfl) rfl) rfl rfl)
    by_cases h4 : 4 < ps.length
    · have : ptsS (.tup ps) = some (-1) := if_pos h4
      rw [this]
      rw [decide_eq_true (by omega)] at c2
      exact raise ((morb_f c1).trans c2)
    · have hs : ptsS (.tup ps) = (firstBad 0 ps).map fun k => (k : Int) := if_neg h4
      rw [hs]
      rw [decide_eq_false (by omega)] at c2
      obtain ⟨l1, l2⟩ := cp_loop (L := L) (p := some (.tup ps)) (src := ⟨enumD 0 ps, none⟩) rfl ps 0 none none h
      have en : mEnum (mVar 0) [some (.tup ps), none, none] L = .ok ⟨enumD 0 ps, none⟩ L := menum_tup rfl
      have first : (mIf (mOrB (mNotB (mTru (mIsi (isiT .tup []) (mVar 0)))) (mTst (mOp2 oGt (mFn cLen (mCons (mVar 0) mNil)) (mC d_MOST_POINTS)))) (mRaise 3 ["part", "index"] (mCons (mC (.str "points")) (mCons (mOp1 oNeg (mC (.int 1))) mNil))) mNext) [some (.tup ps), none, none] L = .nx [some (.tup ps), none, none] L := (mif_f ((morb_f c1).trans c2)).trans rfl
      cases hf : firstBad 0 ps with
      | none =>
        obtain ⟨y1, y2, e⟩ := l1 hf
        exact runF_nx (ε := [some (.tup ps), y1, y2]) rfl ((seq_nx first).trans (mfor_ok en e))
      | some j =>
        obtain ⟨ε', e⟩ := l2 j hf
        have e2 : m_checked_points [some (.tup ps), none, none] L = .ex 3 (badAt "points" (j : Int)) ε' L := (seq_nx first).trans (mfor_ok en e)
        show runF 1 3 m_checked_points [.tup ps] L = _
        unfold runF
        rw [if_pos (show [D.tup ps].length = 1 from rfl)]
        show (match m_checked_points [some (.tup ps), none, none] L with
          | .nx _ L' => Rs.ok D.non L'
          | .rt d L' => .ok d L'
          | .ex c fs _ L' => .ex c fs L'
          | _ => .bad) = _
        rw [e2]
        rfl
/-! the law's fault: its points -/
def lfB : MS := mIf (mNotB (mTru (mCall Gulaw_is_place (mCons (mOp2 oIdx (mVar 0) (mVar 3)) (mCons (mVar 3) mNil))))) (mRet (mTup (mCons (mC (.str "points")) (mCons (mVar 3) mNil)))) mNext
abbrev E4 (a0 a1 a2 a3 : Option D) : En := [a0, a1, a2, a3]
theorem rngD_succ (lo : Int) (n : Nat) : rngD lo (n + 1) = .int lo :: rngD (lo + 1) n := by
  unfold rngD
  rw [List.range_succ_eq_map, List.map_cons, List.map_map]
  congr 1
  · simp
  · apply List.map_congr_left
    intro i _
    show D.int (lo + ((i + 1 : Nat) : Int)) = D.int (lo + 1 + (i : Int))
    congr 1
    omega
theorem lf_loop {L : List O} {ps : List D} {a1 a2 : Option D} {src : Src} (hs : src.at_ = none) : ∀ (more pre : List D) (x3 : Option D), ps = pre ++ more → (∀ d ∈ more, It L d) →
    (firstBad pre.length more = none → ∃ y3, loopF src (gNm 3) lfB (rngD (pre.length : Int) more.length) (E4 (some (.tup ps)) a1 a2 x3) L = .nx (E4 (some (.tup ps)) a1 a2 y3) L) ∧
    (∀ j, firstBad pre.length more = some j → loopF src (gNm 3) lfB (rngD (pre.length : Int) more.length) (E4 (some (.tup ps)) a1 a2 x3) L = .rt (.tup [.str "points", .int (j : Int)]) L)
  | [], pre, x3, _, _ => ⟨fun _ => ⟨x3, by
      show loopF src (gNm 3) lfB [] _ _ = _
      unfold loopF
      rw [if_pos (by unfold Src.ok; rw [hs])]⟩, fun j h => by cases h⟩
  | d :: more, pre, x3, e, hp => by
    have hd := hp d List.mem_cons_self
    have hat : atI ps (pre.length : Int) = some d := atI_get (by
      rw [e, List.getElem?_append_right (Nat.le_refl _), Nat.sub_self]
      rfl)
    have x0 : mOp2 oIdx (mVar 0) (mVar 3) (E4 (some (.tup ps)) a1 a2 (some (.int (pre.length : Int)))) L = .ok d L := mop2_ok (x := .tup ps) (y := .int (pre.length : Int)) rfl rfl (by
      show (atI ps (pre.length : Int)).map _ = _
      rw [hat]
      rfl)
    have c : mNotB (mTru (mCall Gulaw_is_place (mCons (mOp2 oIdx (mVar 0) (mVar 3)) (mCons (mVar 3) mNil)))) (E4 (some (.tup ps)) a1 a2 (some (.int (pre.length : Int)))) L = .ok (!placeS (pre.length : Int) d) L := mnotb_ok (mtru_ok (mcall_ok (mcons_ok x0 (mone_ok rfl)) (law_place_ok hd (pre.length : Int))) rfl)
    obtain ⟨h1, h2⟩ := lf_loop (ps := ps) (a1 := a1) (a2 := a2) hs more (pre ++ [d]) (some (.int (pre.length : Int))) (by rw [e, List.append_assoc]; rfl) (fun z hz => hp z (List.mem_cons_of_mem _ hz))
    rw [show (pre ++ [d]).length = pre.length + 1 by simp] at h1 h2
    have step : loopF src (gNm 3) lfB (rngD (pre.length : Int) (d :: more).length) (E4 (some (.tup ps)) a1 a2 x3) L = (match lfB (E4 (some (.tup ps)) a1 a2 (some (.int (pre.length : Int)))) L with
        | .nx ε2 L2 => loopF src (gNm 3) lfB (rngD ((pre.length : Int) + 1) more.length) ε2 L2
        | .ct ε2 L2 => loopF src (gNm 3) lfB (rngD ((pre.length : Int) + 1) more.length) ε2 L2
        | .bk ε2 L2 => .nx ε2 L2
        | r => r) := by
      rw [show (d :: more).length = more.length + 1 from rfl, rngD_succ, loopF, if_pos (by unfold Src.ok; rw [hs])]
      rfl
    rw [step]
    cases hb : placeS (pre.length : Int) d with
    | true =>
      rw [hb] at c
      have ee : lfB (E4 (some (.tup ps)) a1 a2 (some (.int (pre.length : Int)))) L = .nx (E4 (some (.tup ps)) a1 a2 (some (.int (pre.length : Int)))) L := (mif_f c).trans rfl
      have hf : firstBad pre.length (d :: more) = firstBad (pre.length + 1) more := by
        show (if placeS (pre.length : Int) d = true then _ else _) = _
        rw [hb, if_pos rfl]
      rw [ee, hf]
      rw [show ((pre.length : Int) + 1) = ((pre.length + 1 : Nat) : Int) by omega]
      exact ⟨h1, h2⟩
    | false =>
      rw [hb] at c
      have ee : lfB (E4 (some (.tup ps)) a1 a2 (some (.int (pre.length : Int)))) L = .rt (.tup [.str "points", .int (pre.length : Int)]) L := (mif_t c).trans (mret_ok (mtup_ok (xs := [.str "points", .int (pre.length : Int)]) rfl (show 2 ≤ most by decide)))
      have hf : firstBad pre.length (d :: more) = some pre.length := by
        show (if placeS (pre.length : Int) d = true then _ else _) = _
        rw [hb, if_neg (by decide)]
      rw [ee, hf]
      refine ⟨nofun, fun j hj => ?_⟩
      cases hj
      rfl
/-! the takes -/
theorem It.app {L : List O} {d : D} (h : It L d) (X : List O) : It (L ++ X) d := by
  cases h with
  | val a b => exact .val a b
  | lst a b c => exact .lst (ap a) b c
  | dic a => exact .dic (ap a)
def tkOf : D → Option T3
  | .tup [.str w, .int p, .str m] => some (w, p, m)
  | _ => none
theorem tkOf_some {d : D} {t : T3} (h : tkOf d = some t) : d = tk3 t := by
  unfold tkOf at h
  split at h
  · cases h; rfl
  · cases h
theorem takeS_tk {d : D} {n : Int} (h : takeS n d = true) : ∃ t, tkOf d = some t := by
  unfold takeS at h
  split at h
  · exact ⟨_, rfl⟩
  · cases h
def firstBadT (last h : Int) (pre : List T3) : List D → Option Nat
  | [] => none
  | d :: r => match tkOf d with
    | some t => if lawT pre last h d = true then firstBadT last h (pre ++ [t]) r else some pre.length
    | none => some pre.length
def ctC : MB := mOrB (mNotB (mTru (mCall G_is_take (mCons (mVar 4) (mCons (mOp2 oAdd (mFn cLen (mCons (mVar 0) mNil)) (mC (.int 1))) mNil))))) (mNotB (mTru (mCall G_is_allowed (mCons (mVar 1) (mCons (mVar 3) (mCons (mVar 2) mNil))))))
def ctB : MS := mIf ctC (mRaise 3 ["part", "index"] (mCons (mC (.str "takes")) (mCons (mVar 3) mNil))) mNext
def ctT : MG := gTupM 2 (gsCons (gNm 3) (gsCons (gNm 4) gsNil))
abbrev E5 (a0 a1 a2 a3 a4 : Option D) : En := [a0, a1, a2, a3, a4]
theorem ctC_ok {L : List O} {ps ts : List D} {pre : List T3} {d : D} {rest : List D} {h : Int} (e : ts = pre.map tk3 ++ d :: rest) (hl : pre.length ≤ 100) (hs : ∀ u ∈ pre, SeqAt.shaped (.str u.2.2) = true) (hd : It L d) :
    ∃ X, ctC (E5 (some (.tup ps)) (some (.tup ts)) (some (.int h)) (some (.int (pre.length : Int))) (some d)) L = .ok (!lawT pre (ps.length : Int) h d) (L ++ X) := by
  have ln : mOp2 oAdd (mFn cLen (mCons (mVar 0) mNil)) (mC (.int 1)) (E5 (some (.tup ps)) (some (.tup ts)) (some (.int h)) (some (.int (pre.length : Int))) (some d)) L = .ok (.int ((ps.length : Int) + 1)) L := mop2_ok (x := .int ps.length) (y := .int 1) (mfn_ok (mone_ok rfl) rfl) rfl rfl
  have c1 : mNotB (mTru (mCall G_is_take (mCons (mVar 4) (mCons (mOp2 oAdd (mFn cLen (mCons (mVar 0) mNil)) (mC (.int 1))) mNil)))) (E5 (some (.tup ps)) (some (.tup ts)) (some (.int h)) (some (.int (pre.length : Int))) (some d)) L = .ok (!takeS ((ps.length : Int) + 1) d) L := mnotb_ok (mtru_ok (mcall_ok (mcons_ok rfl (mone_ok ln)) (is_take_ok hd _)) rfl)
  cases ht : takeS ((ps.length : Int) + 1) d with
  | false =>
    rw [ht] at c1
    have : lawT pre (ps.length : Int) h d = false := by
      unfold lawT
      split
      · rw [ht]
        rfl
      · rfl
    rw [this]
    exact ⟨[], by rw [List.append_nil]; exact morb_t c1⟩
  | true =>
    rw [ht] at c1
    obtain ⟨t, htk⟩ := takeS_tk ht
    obtain rfl := tkOf_some htk
    have i1 := (hd.part (d := .str t.1) (by simp)).shapedS
    have i3 := (hd.part (d := .str t.2.2) (by simp)).shapedS
    obtain ⟨X, hX⟩ := is_allowed_ok (L := L) (h := h) e hl hs i1 i3
    refine ⟨X, ?_⟩
    have : lawT pre (ps.length : Int) h (tk3 t) = allowS pre t h := by
      show (takeS ((ps.length : Int) + 1) (tk3 t) && _) = _
      rw [ht]
      rfl
    rw [this]
    exact (morb_f c1).trans (mnotb_ok (mtru_ok (mcall_ok rfl hX) rfl))
theorem ct_loop {ps ts : List D} {h : Int} {src : Src} (hs : src.at_ = none) (hlen : ts.length ≤ 100) : ∀ (more : List D) (pre : List T3) (L : List O) (x3 x4 : Option D), ts = pre.map tk3 ++ more → (∀ u ∈ pre, SeqAt.shaped (.str u.2.2) = true) → (∀ d ∈ more, It L d) →
    (firstBadT (ps.length : Int) h pre more = none → ∃ y3 y4 X, loopF src ctT ctB (enumD (pre.length : Int) more) (E5 (some (.tup ps)) (some (.tup ts)) (some (.int h)) x3 x4) L = .nx (E5 (some (.tup ps)) (some (.tup ts)) (some (.int h)) y3 y4) (L ++ X)) ∧
    (∀ j, firstBadT (ps.length : Int) h pre more = some j → ∃ ε' X, loopF src ctT ctB (enumD (pre.length : Int) more) (E5 (some (.tup ps)) (some (.tup ts)) (some (.int h)) x3 x4) L = .ex 3 (badAt "takes" (j : Int)) ε' (L ++ X))
  | [], pre, L, x3, x4, _, _, _ => ⟨fun _ => ⟨x3, x4, [], by
      rw [List.append_nil]
      show loopF src ctT ctB [] _ _ = _
      unfold loopF
      rw [if_pos (by unfold Src.ok; rw [hs])]⟩, fun j h => by cases h⟩
  | d :: more, pre, L, x3, x4, e, hsh, hp => by
    have hd := hp d List.mem_cons_self
    have hpl : pre.length ≤ 100 := by
      have := congrArg List.length e
      simp at this
      omega
    obtain ⟨X, c⟩ := ctC_ok (ps := ps) (h := h) e hpl hsh hd
    have step : loopF src ctT ctB (enumD (pre.length : Int) (d :: more)) (E5 (some (.tup ps)) (some (.tup ts)) (some (.int h)) x3 x4) L = (match ctB (E5 (some (.tup ps)) (some (.tup ts)) (some (.int h)) (some (.int (pre.length : Int))) (some d)) L with
        | .nx ε2 L2 => loopF src ctT ctB (enumD ((pre.length : Int) + 1) more) ε2 L2
        | .ct ε2 L2 => loopF src ctT ctB (enumD ((pre.length : Int) + 1) more) ε2 L2
        | .bk ε2 L2 => .nx ε2 L2
        | r => r) := by
      show loopF src ctT ctB (.tup [.int (pre.length : Int), d] :: enumD ((pre.length : Int) + 1) more) _ _ = _
      rw [loopF, if_pos (by unfold Src.ok; rw [hs])]
      rfl
    rw [step]
    cases hb : lawT pre (ps.length : Int) h d with
    | true =>
      rw [hb] at c
      obtain ⟨t, htk⟩ : ∃ t, tkOf d = some t := by
        unfold lawT at hb
        split at hb
        · exact ⟨_, rfl⟩
        · cases hb
      have hdt := tkOf_some htk
      have ee : ctB (E5 (some (.tup ps)) (some (.tup ts)) (some (.int h)) (some (.int (pre.length : Int))) (some d)) L = .nx (E5 (some (.tup ps)) (some (.tup ts)) (some (.int h)) (some (.int (pre.length : Int))) (some d)) (L ++ X) := (mif_f c).trans rfl
      have hf : firstBadT (ps.length : Int) h pre (d :: more) = firstBadT (ps.length : Int) h (pre ++ [t]) more := by
        rw [firstBadT, htk]
        simp only
        rw [if_pos hb]
      have i3 : SeqAt.shaped (.str t.2.2) = true := by
        rw [hdt] at hd
        exact (hd.part (d := .str t.2.2) (by simp)).shapedS
      obtain ⟨h1, h2⟩ := ct_loop (ps := ps) (ts := ts) (h := h) hs hlen more (pre ++ [t]) (L ++ X) (some (.int (pre.length : Int))) (some d) (by rw [e, hdt]; simp) (fun u hu => by
        rcases List.mem_append.mp hu with hu | hu
        · exact hsh u hu
        · rw [List.mem_singleton.mp hu]; exact i3) (fun z hz => (hp z (List.mem_cons_of_mem _ hz)).app X)
      rw [show ((pre ++ [t]).length : Int) = (pre.length : Int) + 1 by simp] at h1 h2
      rw [ee, hf]
      refine ⟨fun z => ?_, fun j z => ?_⟩
      · obtain ⟨y3, y4, Y, hy⟩ := h1 z
        exact ⟨y3, y4, X ++ Y, by rw [← List.append_assoc]; exact hy⟩
      · obtain ⟨ε', Y, hy⟩ := h2 j z
        exact ⟨ε', X ++ Y, by rw [← List.append_assoc]; exact hy⟩
    | false =>
      rw [hb] at c
      have ee : ctB (E5 (some (.tup ps)) (some (.tup ts)) (some (.int h)) (some (.int (pre.length : Int))) (some d)) L = .ex 3 (badAt "takes" (pre.length : Int)) (E5 (some (.tup ps)) (some (.tup ts)) (some (.int h)) (some (.int (pre.length : Int))) (some d)) (L ++ X) := (mif_t c).trans rfl
      have hf : firstBadT (ps.length : Int) h pre (d :: more) = some pre.length := by
        rw [firstBadT]
        split
        · rw [if_neg (by rw [hb]; decide)]
        · rfl
      rw [ee, hf]
      refine ⟨nofun, fun j hj => ?_⟩
      cases hj
      exact ⟨_, X, rfl⟩
/-! the law's fault: its takes -/
def ltB : MS := mIf (mNotB (mTru (mCall Gulaw_is_take (mCons (mVar 1) (mCons (mVar 3) (mCons (mFn cLen (mCons (mVar 0) mNil)) (mCons (mVar 2) mNil))))))) (mRet (mTup (mCons (mC (.str "takes")) (mCons (mVar 3) mNil)))) mNext
theorem lt_loop {ps ts : List D} {h : Int} {src : Src} (hs : src.at_ = none) (hlen : ts.length ≤ 100) : ∀ (more : List D) (pre : List T3) (L : List O) (x3 : Option D), ts = pre.map tk3 ++ more → (∀ u ∈ pre, SeqAt.shaped (.str u.2.2) = true) → (∀ d ∈ more, It L d) →
    (firstBadT (ps.length : Int) h pre more = none → ∃ y3 X, loopF src (gNm 3) ltB (rngD (pre.length : Int) more.length) (E4 (some (.tup ps)) (some (.tup ts)) (some (.int h)) x3) L = .nx (E4 (some (.tup ps)) (some (.tup ts)) (some (.int h)) y3) (L ++ X)) ∧
    (∀ j, firstBadT (ps.length : Int) h pre more = some j → ∃ X, loopF src (gNm 3) ltB (rngD (pre.length : Int) more.length) (E4 (some (.tup ps)) (some (.tup ts)) (some (.int h)) x3) L = .rt (.tup [.str "takes", .int (j : Int)]) (L ++ X))
  | [], pre, L, x3, _, _, _ => ⟨fun _ => ⟨x3, [], by
      rw [List.append_nil]
      show loopF src (gNm 3) ltB [] _ _ = _
      unfold loopF
      rw [if_pos (by unfold Src.ok; rw [hs])]⟩, fun j h => by cases h⟩
  | d :: more, pre, L, x3, e, hsh, hp => by
    have hd := hp d List.mem_cons_self
    have hpl : pre.length ≤ 100 := by
      have := congrArg List.length e
      simp at this
      omega
    obtain ⟨X, ek⟩ := law_take_ok (last := (ps.length : Int)) (h := h) e hpl hsh hd
    have ln : mFn cLen (mCons (mVar 0) mNil) (E4 (some (.tup ps)) (some (.tup ts)) (some (.int h)) (some (.int (pre.length : Int)))) L = .ok (.int ps.length) L := mfn_ok (mone_ok rfl) rfl
    have c : mNotB (mTru (mCall Gulaw_is_take (mCons (mVar 1) (mCons (mVar 3) (mCons (mFn cLen (mCons (mVar 0) mNil)) (mCons (mVar 2) mNil)))))) (E4 (some (.tup ps)) (some (.tup ts)) (some (.int h)) (some (.int (pre.length : Int)))) L = .ok (!lawT pre (ps.length : Int) h d) (L ++ X) := mnotb_ok (mtru_ok (mcall_ok (mcons_ok rfl (mcons_ok rfl (mcons_ok ln (mone_ok rfl)))) ek) rfl)
    have step : loopF src (gNm 3) ltB (rngD (pre.length : Int) (d :: more).length) (E4 (some (.tup ps)) (some (.tup ts)) (some (.int h)) x3) L = (match ltB (E4 (some (.tup ps)) (some (.tup ts)) (some (.int h)) (some (.int (pre.length : Int)))) L with
        | .nx ε2 L2 => loopF src (gNm 3) ltB (rngD ((pre.length : Int) + 1) more.length) ε2 L2
        | .ct ε2 L2 => loopF src (gNm 3) ltB (rngD ((pre.length : Int) + 1) more.length) ε2 L2
        | .bk ε2 L2 => .nx ε2 L2
        | r => r) := by
      rw [show (d :: more).length = more.length + 1 from rfl, rngD_succ, loopF, if_pos (by unfold Src.ok; rw [hs])]
      rfl
    rw [step]
    cases hb : lawT pre (ps.length : Int) h d with
    | true =>
      rw [hb] at c
      obtain ⟨t, htk⟩ : ∃ t, tkOf d = some t := by
        unfold lawT at hb
        split at hb
        · exact ⟨_, rfl⟩
        · cases hb
      have hdt := tkOf_some htk
      have ee : ltB (E4 (some (.tup ps)) (some (.tup ts)) (some (.int h)) (some (.int (pre.length : Int)))) L = .nx (E4 (some (.tup ps)) (some (.tup ts)) (some (.int h)) (some (.int (pre.length : Int)))) (L ++ X) := (mif_f c).trans rfl
      have hf : firstBadT (ps.length : Int) h pre (d :: more) = firstBadT (ps.length : Int) h (pre ++ [t]) more := by
        rw [firstBadT, htk]
        simp only
        rw [if_pos hb]
      have i3 : SeqAt.shaped (.str t.2.2) = true := by
        rw [hdt] at hd
        exact (hd.part (d := .str t.2.2) (by simp)).shapedS
      obtain ⟨h1, h2⟩ := lt_loop (ps := ps) (ts := ts) (h := h) hs hlen more (pre ++ [t]) (L ++ X) (some (.int (pre.length : Int))) (by rw [e, hdt]; simp) (fun u hu => by
        rcases List.mem_append.mp hu with hu | hu
        · exact hsh u hu
        · rw [List.mem_singleton.mp hu]; exact i3) (fun z hz => (hp z (List.mem_cons_of_mem _ hz)).app X)
      rw [show ((pre ++ [t]).length : Int) = (pre.length : Int) + 1 by simp] at h1 h2
      rw [ee, hf]
      refine ⟨fun z => ?_, fun j z => ?_⟩
      · obtain ⟨y3, Y, hy⟩ := h1 z
        exact ⟨y3, X ++ Y, by rw [← List.append_assoc]; exact hy⟩
      · obtain ⟨Y, hy⟩ := h2 j z
        exact ⟨X ++ Y, by rw [← List.append_assoc]; exact hy⟩
    | false =>
      rw [hb] at c
      have ee : ltB (E4 (some (.tup ps)) (some (.tup ts)) (some (.int h)) (some (.int (pre.length : Int)))) L = .rt (.tup [.str "takes", .int (pre.length : Int)]) (L ++ X) := (mif_t c).trans (mret_ok (mtup_ok (xs := [.str "takes", .int (pre.length : Int)]) rfl (show 2 ≤ most by decide)))
      have hf : firstBadT (ps.length : Int) h pre (d :: more) = some pre.length := by
        rw [firstBadT]
        split
        · rw [if_neg (by rw [hb]; decide)]
        · rfl
      rw [ee, hf]
      refine ⟨nofun, fun j hj => ?_⟩
      cases hj
      exact ⟨X, rfl⟩
/-! checked_takes -/
theorem seq_ex {a b : MS} {ε ε1 : En} {L L1 : List O} {c : Nat} {fs : List (Str × D)} (h : a ε L = .ex c fs ε1 L1) : mSeq a b ε L = .ex c fs ε1 L1 := by
  unfold mSeq
  rw [h]
theorem runF_ex {n N : Nat} {m : MS} {ds : List D} {ε : En} {L L1 : List O} {c : Nat} {fs : List (Str × D)} (hl : ds.length = n) (h : m (ds.map some ++ List.replicate (N - n) none) L = .ex c fs ε L1) : runF n N m ds L = .ex c fs L1 := by
  unfold runF
  rw [if_pos hl, h]
def tksS (n : Nat) (t h : D) : Option (Str × Int) := match h with
  | .int i => if i < 0 then some (("hops" : Str), (-1 : Int)) else match t with
    | .tup ts => if ts.length = 0 ∨ 5 < ts.length then some (("takes" : Str), (-1 : Int)) else if (ts.length : Int) ≤ i then some (("hops" : Str), (-1 : Int)) else (firstBadT (n : Int) i [] ts).map fun k => (("takes" : Str), (k : Int))
    | _ => some (("takes" : Str), (-1 : Int))
  | _ => some (("hops" : Str), (-1 : Int))
def mBadW (s : Str) : MS := mRaise 3 ["part", "index"] (mCons (mC (.str s)) (mCons (mOp1 oNeg (mC (.int 1))) mNil))
theorem bad_t {c : MB} {s : Str} {ε : En} {L L1 : List O} {m : MS} (h : c ε L = .ok true L1) : mSeq (mIf c (mBadW s) mNext) m ε L = .ex 3 (badAt s (-1)) ε L1 := seq_ex ((mif_t h).trans rfl)
theorem bad_f {c : MB} {s : Str} {ε : En} {L L1 : List O} {m : MS} (h : c ε L = .ok false L1) : mSeq (mIf c (mBadW s) mNext) m ε L = m ε L1 := seq_nx ((mif_f h).trans rfl)
def ctH : MB := mOrB (mNotB (mTru (mCall G_is_integer (mCons (mVar 2) mNil)))) (mTst (mOp2 oLt (mVar 2) (mC (.int 0))))
def ctK : MB := mOrB (mNotB (mTru (mIsi (isiT .tup []) (mVar 1)))) (mNotB (mTst (mChain oLe oLe (mC (.int 1)) (mFn cLen (mCons (mVar 1) mNil)) (mC d_MOST_TAKES))))
def ctG : MB := mTst (mOp2 oGe (mVar 2) (mFn cLen (mCons (mVar 1) mNil)))
theorem ct_eq : m_checked_takes = mSeq (mIf ctH (mBadW "hops") mNext) (mSeq (mIf ctK (mBadW "takes") mNext) (mSeq (mIf ctG (mBadW "hops") mNext) (mFor (mEnum (mVar 1)) ctT ctB))) := rfl
theorem checked_takes_ok {L : List O} {ps : List D} {t h : D} (ht : PtsOk L t) (hh : It L h) : ∃ X, G_checked_takes [.tup ps, t, h] L = (match tksS ps.length t h with
    | none => .ok .non (L ++ X)
    | some (s, k) => .ex 3 (badAt s k) (L ++ X)) := by
  have same : ∀ s k, (∃ ε, m_checked_takes (E5 (some (.tup ps)) (some t) (some h) none none) L = .ex 3 (badAt s k) ε L) → ∃ X, G_checked_takes [.tup ps, t, h] L = .ex 3 (badAt s k) (L ++ X) := fun s k ⟨ε, e⟩ => ⟨[], by
    rw [List.append_nil]
    show F_checked_takes _ _ = _
    exact runF_ex rfl e⟩
  have i0 : mNotB (mTru (mCall G_is_integer (mCons (mVar 2) mNil))) (E5 (some (.tup ps)) (some t) (some h) none none) L = .ok (!isI h) L := mnotb_ok (mtru_ok (mcall_ok rfl (Gint hh)) rfl)
  cases hi : isI h with
  | false =>
    rw [hi] at i0
    have : tksS ps.length t h = some (("hops" : Str), (-1 : Int)) := by
      cases h with
      | int i => cases hi
      | _ => rfl
    rw [this]
    exact same "hops" (-1) ⟨_, by rw [ct_eq]; exact bad_t (morb_t i0)⟩
  | true =>
    rw [hi] at i0
    obtain ⟨i, rfl⟩ : ∃ i, h = .int i := by
      cases h with
      | int i => exact ⟨i, rfl⟩
      | _ => cases hi
    have i1 : mTst (mOp2 oLt (mVar 2) (mC (.int 0))) (E5 (some (.tup ps)) (some t) (some (.int i)) none none) L = .ok (decide (i < 0)) L := mtst_ok (mop2_ok (x := .int i) (y := .int 0) rfl rfl rfl)
    by_cases h0 : i < 0
    · rw [decide_eq_true h0] at i1
      have : tksS ps.length t (.int i) = some (("hops" : Str), (-1 : Int)) := if_pos h0
      rw [this]
      exact same "hops" (-1) ⟨_, by rw [ct_eq]; exact bad_t ((morb_f i0).trans i1)⟩
    · rw [decide_eq_false h0] at i1
      have k0 : mNotB (mTru (mIsi (isiT .tup []) (mVar 1))) (E5 (some (.tup ps)) (some t) (some (.int i)) none none) L = .ok (!isTup t) L := mnotb_ok (mtru_ok (tupIs ht rfl) rfl)
      cases htt : isTup t with
      | false =>
        rw [htt] at k0
        have : tksS ps.length t (.int i) = some (("takes" : Str), (-1 : Int)) := by
          show (if i < 0 then _ else _) = _
          rw [if_neg h0]
          cases t with
          | tup ts => cases htt
          | _ => rfl
        rw [this]
        exact same "takes" (-1) ⟨_, by rw [ct_eq, bad_f (c := ctH) ((morb_f i0).trans i1)]; exact bad_t (morb_t k0)⟩
      | true =>
        rw [htt] at k0
        obtain ⟨ts, rfl⟩ : ∃ ts, t = .tup ts := by
          cases t with
          | tup ts => exact ⟨ts, rfl⟩
          | _ => cases htt
        have hS : tksS ps.length (.tup ts) (.int i) = (if ts.length = 0 ∨ 5 < ts.length then some (("takes" : Str), (-1 : Int)) else if (ts.length : Int) ≤ i then some (("hops" : Str), (-1 : Int)) else (firstBadT (ps.length : Int) i [] ts).map fun k => (("takes" : Str), (k : Int))) := by
          show (if i < 0 then _ else _) = _
          rw [if_neg h0]
        have ln : mFn cLen (mCons (mVar 1) mNil) (E5 (some (.tup ps)) (some (.tup ts)) (some (.int i)) none none) L = .ok (.int ts.length) L := mfn_ok (mone_ok rfl) rfl
        have k1 : mNotB (mTst (mChain oLe oLe (mC (.int 1)) (mFn cLen (mCons (mVar 1) mNil)) (mC d_MOST_TAKES))) (E5 (some (.tup ps)) (some (.tup ts)) (some (.int i)) none none) L = .ok (!(decide ((1 : Int) ≤ ts.length) && decide ((ts.length : Int) ≤ 5))) L := mnotb_ok (mtst_ok (chainLe (x := 1) (z := 5) rfl ln rfl))
        by_cases hl : ts.length = 0 ∨ 5 < ts.length
        · rw [hS, if_pos hl]
          have : (!(decide ((1 : Int) ≤ ts.length) && decide ((ts.length : Int) ≤ 5))) = true := by
            rcases hl with hl | hl
            · rw [decide_eq_false (by omega)]; rfl
            · rw [decide_eq_false (show ¬ (ts.length : Int) ≤ 5 by omega), Bool.and_false]; rfl
          rw [this] at k1
          exact same "takes" (-1) ⟨_, by rw [ct_eq, bad_f (c := ctH) ((morb_f i0).trans i1)]; exact bad_t ((morb_f k0).trans k1)⟩
        · rw [hS, if_neg hl]
          have : (!(decide ((1 : Int) ≤ ts.length) && decide ((ts.length : Int) ≤ 5))) = false := by
            rw [decide_eq_true (by omega), decide_eq_true (by omega)]; rfl
          rw [this] at k1
          have g1 : ctG (E5 (some (.tup ps)) (some (.tup ts)) (some (.int i)) none none) L = .ok (decide ((ts.length : Int) ≤ i)) L := mtst_ok (mop2_ok (x := .int i) rfl ln rfl)
          by_cases hg : (ts.length : Int) ≤ i
          · rw [if_pos hg]
            rw [decide_eq_true hg] at g1
            exact same "hops" (-1) ⟨_, by rw [ct_eq, bad_f (c := ctH) ((morb_f i0).trans i1), bad_f (c := ctK) ((morb_f k0).trans k1)]; exact bad_t g1⟩
          · rw [if_neg hg]
            rw [decide_eq_false hg] at g1
            obtain ⟨l1, l2⟩ := ct_loop (ps := ps) (ts := ts) (h := i) (src := ⟨enumD 0 ts, none⟩) rfl (by omega) ts [] L none none rfl (fun u hu => by cases hu) ht
            have en : mEnum (mVar 1) (E5 (some (.tup ps)) (some (.tup ts)) (some (.int i)) none none) L = .ok ⟨enumD 0 ts, none⟩ L := menum_tup rfl
            cases hf : firstBadT (ps.length : Int) i [] ts with
            | none =>
              obtain ⟨y3, y4, X, e⟩ := l1 hf
              refine ⟨X, ?_⟩
              show F_checked_takes _ _ = _
              refine runF_nx (ε := E5 (some (.tup ps)) (some (.tup ts)) (some (.int i)) y3 y4) rfl ?_
              show m_checked_takes (E5 (some (.tup ps)) (some (.tup ts)) (some (.int i)) none none) L = _
              rw [ct_eq, bad_f (c := ctH) ((morb_f i0).trans i1), bad_f (c := ctK) ((morb_f k0).trans k1), bad_f g1]
              exact mfor_ok en e
            | some j =>
              obtain ⟨ε', X, e⟩ := l2 j hf
              refine ⟨X, ?_⟩
              show F_checked_takes _ _ = _
              refine runF_ex (ε := ε') rfl ?_
              show m_checked_takes (E5 (some (.tup ps)) (some (.tup ts)) (some (.int i)) none none) L = _
              rw [ct_eq, bad_f (c := ctH) ((morb_f i0).trans i1), bad_f (c := ctK) ((morb_f k0).trans k1), bad_f g1]
              exact mfor_ok en e
/-! the law's fault -/
def faultS (p t h : D) : Option (Str × Int) := match ptsS p with
  | some k => some (("points" : Str), k)
  | none => match p with
    | .tup ps => tksS ps.length t h
    | _ => none
def fD : Option (Str × Int) → D
  | none => .non
  | some (s, k) => .tup [.str s, .int k]
def mRetW (s : Str) : MS := mRet (mTup (mCons (mC (.str s)) (mCons (mOp1 oNeg (mC (.int 1))) mNil)))
theorem ret_t {c : MB} {s : Str} {ε : En} {L L1 : List O} {m : MS} (h : c ε L = .ok true L1) : mSeq (mIf c (mRetW s) mNext) m ε L = .rt (.tup [.str s, .int (-1)]) L1 := seq_rt ((mif_t h).trans (mret_ok (mtup_ok (xs := [.str s, .int (-1)]) rfl (show 2 ≤ most by decide))))
theorem ret_f {c : MB} {s : Str} {ε : En} {L L1 : List O} {m : MS} (h : c ε L = .ok false L1) : mSeq (mIf c (mRetW s) mNext) m ε L = m ε L1 := seq_nx ((mif_f h).trans rfl)
def lfP : MB := mOrB (mNotB (mTru (mIsi (isiT .tup []) (mVar 0)))) (mTst (mOp2 oGt (mFn cLen (mCons (mVar 0) mNil)) (mC (.int 4))))
def lfH : MB := mOrB (mNotB (mTru (mCall Gulaw_whole (mCons (mVar 2) mNil)))) (mTst (mOp2 oLt (mVar 2) (mC (.int 0))))
def lfK : MB := mOrB (mNotB (mTru (mIsi (isiT .tup []) (mVar 1)))) (mNotB (mTst (mChain oLe oLe (mC (.int 1)) (mFn cLen (mCons (mVar 1) mNil)) (mC (.int 5)))))
def lfG : MB := mTst (mOp2 oGe (mVar 2) (mFn cLen (mCons (mVar 1) mNil)))
theorem lf_eq : m_law_fault = mSeq (mIf lfP (mRetW "points") mNext) (mSeq (mFor (mRng1 (mFn cLen (mCons (mVar 0) mNil))) (gNm 3) lfB) (mSeq (mIf lfH (mRetW "hops") mNext) (mSeq (mIf lfK (mRetW "takes") mNext) (mSeq (mIf lfG (mRetW "hops") mNext) (mSeq (mFor (mRng1 (mFn cLen (mCons (mVar 1) mNil))) (gNm 3) ltB) (mRet (mC .non))))))) := rfl
theorem law_fault_ok {L : List O} {p t h : D} (hp : PtsOk L p) (ht : PtsOk L t) (hh : It L h) : ∃ X, Gulaw_fault [p, t, h] L = .ok (fD (faultS p t h)) (L ++ X) := by
  suffices ∃ X, m_law_fault (E4 (some p) (some t) (some h) none) L = .rt (fD (faultS p t h)) (L ++ X) by
    obtain ⟨X, hX⟩ := this
    refine ⟨X, ?_⟩
    show Fulaw_fault _ _ = _
    exact runF_rt rfl hX
  rw [lf_eq]
  have same : ∀ r, m_law_fault (E4 (some p) (some t) (some h) none) L = .rt r L → ∃ X, m_law_fault (E4 (some p) (some t) (some h) none) L = .rt r (L ++ X) := fun r e => ⟨[], by rw [List.append_nil]; exact e⟩
  rw [lf_eq] at same
  have c1 : mNotB (mTru (mIsi (isiT .tup []) (mVar 0))) (E4 (some p) (some t) (some h) none) L = .ok (!isTup p) L := mnotb_ok (mtru_ok (tupIs hp rfl) rfl)
  cases htp : isTup p with
  | false =>
    rw [htp] at c1
    have : faultS p t h = some (("points" : Str), -1) := by
      cases p with
      | tup ps => cases htp
      | _ => rfl
    rw [this]
    exact same _ (ret_t (c := lfP) (morb_t c1))
  | true =>
    rw [htp] at c1
    obtain ⟨ps, rfl⟩ : ∃ ps, p = .tup ps := by
      cases p with
      | tup ps => exact ⟨ps, rfl⟩
      | _ => cases htp
    have ln0 : ∀ y M, mFn cLen (mCons (mVar 0) mNil) (E4 (some (.tup ps)) (some t) (some h) y) M = .ok (.int ps.length) M := fun y M => mfn_ok (mone_ok rfl) rfl
    have c2 : mTst (mOp2 oGt (mFn cLen (mCons (mVar 0) mNil)) (mC (.int 4))) (E4 (some (.tup ps)) (some t) (some h) none) L = .ok (decide ((4 : Int) < ps.length)) L := mtst_ok (mop2_ok (x := .int ps.length) (y := .int 4) (ln0 _ _) rfl rfl)
    by_cases h4 : 4 < ps.length
    · have : faultS (.tup ps) t h = some (("points" : Str), -1) := by
        unfold faultS
        rw [show ptsS (.tup ps) = some (-1) from if_pos h4]
      rw [this]
      rw [decide_eq_true (by omega)] at c2
      exact same _ (ret_t (c := lfP) ((morb_f c1).trans c2))
    · rw [decide_eq_false (by omega)] at c2
      have hs : ptsS (.tup ps) = (firstBad 0 ps).map fun k => (k : Int) := if_neg h4
      obtain ⟨l1, l2⟩ := lf_loop (L := L) (ps := ps) (a1 := some t) (a2 := some h) (src := ⟨rngD 0 ps.length, none⟩) rfl ps [] none rfl hp
      have rg : mRng1 (mFn cLen (mCons (mVar 0) mNil)) (E4 (some (.tup ps)) (some t) (some h) none) L = .ok ⟨rngD 0 ps.length, none⟩ L := by
        have := mrng1_ok (ln0 none L) (by omega) (by omega)
        rw [this]
        simp
      rw [ret_f (c := lfP) ((morb_f c1).trans c2)]
      cases hf : firstBad 0 ps with
      | some j =>
        have e := l2 j hf
        have : faultS (.tup ps) t h = some (("points" : Str), (j : Int)) := by
          unfold faultS
          rw [hs, hf]
          rfl
        rw [this]
        exact ⟨[], by rw [List.append_nil]; exact seq_rt (mfor_ok rg e)⟩
      | none =>
        obtain ⟨y3, e⟩ := l1 hf
        have hF : faultS (.tup ps) t h = tksS ps.length t h := by
          unfold faultS
          rw [hs, hf]
          rfl
        rw [seq_nx (mfor_ok rg e), hF]
        have i0 : mNotB (mTru (mCall Gulaw_whole (mCons (mVar 2) mNil))) (E4 (some (.tup ps)) (some t) (some h) y3) L = .ok (!isI h) L := mnotb_ok (mtru_ok (mcall_ok rfl (Gwhole hh)) rfl)
        cases hi : isI h with
        | false =>
          rw [hi] at i0
          have : tksS ps.length t h = some (("hops" : Str), (-1 : Int)) := by
            cases h with
            | int i => cases hi
            | _ => rfl
          rw [this]
          exact ⟨[], by rw [List.append_nil]; exact ret_t (c := lfH) (morb_t i0)⟩
        | true =>
          rw [hi] at i0
          obtain ⟨i, rfl⟩ : ∃ i, h = .int i := by
            cases h with
            | int i => exact ⟨i, rfl⟩
            | _ => cases hi
          have i1 : mTst (mOp2 oLt (mVar 2) (mC (.int 0))) (E4 (some (.tup ps)) (some t) (some (.int i)) y3) L = .ok (decide (i < 0)) L := mtst_ok (mop2_ok (x := .int i) (y := .int 0) rfl rfl rfl)
          by_cases h0 : i < 0
          · rw [decide_eq_true h0] at i1
            have : tksS ps.length t (.int i) = some (("hops" : Str), (-1 : Int)) := if_pos h0
            rw [this]
            exact ⟨[], by rw [List.append_nil]; exact ret_t (c := lfH) ((morb_f i0).trans i1)⟩
          · rw [decide_eq_false h0] at i1
            rw [ret_f (c := lfH) ((morb_f i0).trans i1)]
            have k0 : mNotB (mTru (mIsi (isiT .tup []) (mVar 1))) (E4 (some (.tup ps)) (some t) (some (.int i)) y3) L = .ok (!isTup t) L := mnotb_ok (mtru_ok (tupIs ht rfl) rfl)
            cases htt : isTup t with
            | false =>
              rw [htt] at k0
              have : tksS ps.length t (.int i) = some (("takes" : Str), (-1 : Int)) := by
                show (if i < 0 then _ else _) = _
                rw [if_neg h0]
                cases t with
                | tup ts => cases htt
                | _ => rfl
              rw [this]
              exact ⟨[], by rw [List.append_nil]; exact ret_t (c := lfK) (morb_t k0)⟩
            | true =>
              rw [htt] at k0
              obtain ⟨ts, rfl⟩ : ∃ ts, t = .tup ts := by
                cases t with
                | tup ts => exact ⟨ts, rfl⟩
                | _ => cases htt
              have hS : tksS ps.length (.tup ts) (.int i) = (if ts.length = 0 ∨ 5 < ts.length then some (("takes" : Str), (-1 : Int)) else if (ts.length : Int) ≤ i then some (("hops" : Str), (-1 : Int)) else (firstBadT (ps.length : Int) i [] ts).map fun k => (("takes" : Str), (k : Int))) := by
                show (if i < 0 then _ else _) = _
                rw [if_neg h0]
              have ln : mFn cLen (mCons (mVar 1) mNil) (E4 (some (.tup ps)) (some (.tup ts)) (some (.int i)) y3) L = .ok (.int ts.length) L := mfn_ok (mone_ok rfl) rfl
              have k1 : mNotB (mTst (mChain oLe oLe (mC (.int 1)) (mFn cLen (mCons (mVar 1) mNil)) (mC (.int 5)))) (E4 (some (.tup ps)) (some (.tup ts)) (some (.int i)) y3) L = .ok (!(decide ((1 : Int) ≤ ts.length) && decide ((ts.length : Int) ≤ 5))) L := mnotb_ok (mtst_ok (chainLe (x := 1) (z := 5) rfl ln rfl))
              by_cases hl : ts.length = 0 ∨ 5 < ts.length
              · rw [hS, if_pos hl]
                have : (!(decide ((1 : Int) ≤ ts.length) && decide ((ts.length : Int) ≤ 5))) = true := by
                  rcases hl with hl | hl
                  · rw [decide_eq_false (by omega)]; rfl
                  · rw [decide_eq_false (show ¬ (ts.length : Int) ≤ 5 by omega), Bool.and_false]; rfl
                rw [this] at k1
                exact ⟨[], by rw [List.append_nil]; exact ret_t (c := lfK) ((morb_f k0).trans k1)⟩
              · rw [hS, if_neg hl]
                have : (!(decide ((1 : Int) ≤ ts.length) && decide ((ts.length : Int) ≤ 5))) = false := by
                  rw [decide_eq_true (by omega), decide_eq_true (by omega)]; rfl
                rw [this] at k1
                rw [ret_f (c := lfK) ((morb_f k0).trans k1)]
                have g1 : lfG (E4 (some (.tup ps)) (some (.tup ts)) (some (.int i)) y3) L = .ok (decide ((ts.length : Int) ≤ i)) L := mtst_ok (mop2_ok (x := .int i) rfl ln rfl)
                by_cases hg : (ts.length : Int) ≤ i
                · rw [if_pos hg]
                  rw [decide_eq_true hg] at g1
                  exact ⟨[], by rw [List.append_nil]; exact ret_t g1⟩
                · rw [if_neg hg]
                  rw [decide_eq_false hg] at g1
                  rw [ret_f g1]
                  obtain ⟨m1, m2⟩ := lt_loop (ps := ps) (ts := ts) (h := i) (src := ⟨rngD 0 ts.length, none⟩) rfl (by omega) ts [] L y3 rfl (fun u hu => by cases hu) ht
                  have rt : mRng1 (mFn cLen (mCons (mVar 1) mNil)) (E4 (some (.tup ps)) (some (.tup ts)) (some (.int i)) y3) L = .ok ⟨rngD 0 ts.length, none⟩ L := by
                    have := mrng1_ok ln (by omega) (by omega)
                    rw [this]
                    simp
                  cases hft : firstBadT (ps.length : Int) i [] ts with
                  | none =>
                    obtain ⟨y4, X, e5⟩ := m1 hft
                    exact ⟨X, (seq_nx (mfor_ok rt e5)).trans (mret_ok rfl)⟩
                  | some j =>
                    obtain ⟨X, e5⟩ := m2 j hft
                    exact ⟨X, seq_rt (mfor_ok rt e5)⟩
/-! a way is made -/
theorem it_mono {L L' : List O} (h : ∀ (n : Nat) (o : O), L[n]? = some o → L'[n]? = some o) {d : D} (i : It L d) : It L' d := by
  cases i with
  | val a b => exact .val a b
  | lst a b c => exact .lst (h _ _ a) b c
  | dic a => exact .dic (h _ _ a)
theorem pts_mono {L L' : List O} (h : ∀ (n : Nat) (o : O), L[n]? = some o → L'[n]? = some o) {p : D} (i : PtsOk L p) : PtsOk L' p := by
  cases p with
  | tup ps => exact fun d hd => it_mono h (i d hd)
  | _ =>
    rcases i with i | ⟨k, ds, e, hk⟩
    · exact .inl (it_mono h i)
    · exact .inr ⟨k, ds, e, h _ _ hk⟩
def wayO (p t h : D) : O := .ins 12 [("places", p), ("locks", t), ("walked", h)]
theorem fldset_ok {n i : Nat} {f : Str} {fs : List (Str × D)} {y : D} {ε : En} {L : List O} (hl : fs.length < 100) (hn : L[n]? = some (.ins 12 fs)) (h0 : ε[0]? = some (some (.ref n))) (hi : ε[i]? = some (some y)) :
    mFldSet 12 f (mVar 0) (mVar i) ε L = .nx ε (L.set n (.ins 12 (putD f y fs))) := by
  have v0 : mVar 0 ε L = .ok (.ref n) L := by unfold mVar; rw [h0]
  have vi : mVar i ε L = .ok y L := by unfold mVar; rw [hi]
  unfold mFldSet
  rw [vi]
  show (mVar 0 ε L).bindS ε _ = _
  rw [v0]
  show (match L[n]? with
    | some (.ins c' fs) => if c' = 12 ∧ fs.length < 100 then RS.nx ε (L.set n (.ins 12 (putD f y fs))) else .bad
    | _ => .bad) = _
  rw [hn]
  exact if_pos ⟨rfl, hl⟩
theorem initu_ok {L : List O} {n : Nat} {p t h : D} (hn : L[n]? = some (.ins 12 [])) (hp : PtsOk L p) (ht : PtsOk L t) (hh : It L h) : ∃ X, G_Wayu_initu [.ref n, p, t, h] L = (match faultS p t h with
    | none => .ok .non ((L ++ X).set n (wayO p t h))
    | some (s, k) => .ex 3 (badAt s k) (L ++ X)) := by
  have q := checked_points_ok hp
  unfold faultS
  cases hS : ptsS p with
  | some k =>
    rw [hS] at q
    refine ⟨[], ?_⟩
    rw [List.append_nil]
    show F_Wayu_initu _ _ = _
    refine runF_ex (ε := [some (.ref n), some p, some t, some h]) rfl ?_
    show m_Wayu_initu [some (.ref n), some p, some t, some h] L = _
    have e : mCall G_checked_points (mCons (mVar 1) mNil) [some (.ref n), some p, some t, some h] L = .ex 3 (badAt "points" k) L := q
    unfold m_Wayu_initu mSeq mDrop
    rw [e]
    rfl
  | none =>
    rw [hS] at q
    obtain ⟨ps, rfl⟩ : ∃ ps, p = .tup ps := by
      cases p with
      | tup ps => exact ⟨ps, rfl⟩
      | _ => cases hS
    have e : mDrop (mCall G_checked_points (mCons (mVar 1) mNil)) [some (.ref n), some (.tup ps), some t, some h] L = .nx [some (.ref n), some (.tup ps), some t, some h] L := by
      have e1 : mCall G_checked_points (mCons (mVar 1) mNil) [some (.ref n), some (.tup ps), some t, some h] L = .ok .non L := q
      unfold mDrop
      rw [e1]
      rfl
    obtain ⟨X, hX⟩ := checked_takes_ok (ps := ps) ht hh
    refine ⟨X, ?_⟩
    have e1 : mCall G_checked_takes (mCons (mVar 1) (mCons (mVar 2) (mCons (mVar 3) mNil))) [some (.ref n), some (.tup ps), some t, some h] L = G_checked_takes [.tup ps, t, h] L := rfl
    show F_Wayu_initu _ _ = _
    show _ = (match tksS ps.length t h with
      | none => Rs.ok D.non ((L ++ X).set n (wayO (.tup ps) t h))
      | some (s, k) => Rs.ex 3 (badAt s k) (L ++ X))
    cases hT : tksS ps.length t h with
    | some sk =>
      obtain ⟨s, k⟩ := sk
      rw [hT] at hX
      refine runF_ex (ε := [some (.ref n), some (.tup ps), some t, some h]) rfl ?_
      show m_Wayu_initu [some (.ref n), some (.tup ps), some t, some h] L = _
      refine (seq_nx e).trans ?_
      unfold mSeq mDrop
      rw [e1, hX]
      rfl
    | none =>
      rw [hT] at hX
      refine runF_nx (ε := [some (.ref n), some (.tup ps), some t, some h]) rfl ?_
      show m_Wayu_initu [some (.ref n), some (.tup ps), some t, some h] L = _
      refine (seq_nx e).trans ?_
      have e2 : mDrop (mCall G_checked_takes (mCons (mVar 1) (mCons (mVar 2) (mCons (mVar 3) mNil)))) [some (.ref n), some (.tup ps), some t, some h] L = .nx [some (.ref n), some (.tup ps), some t, some h] (L ++ X) := by
        unfold mDrop
        rw [e1, hX]
        rfl
      refine (seq_nx e2).trans ?_
      have g0 : (L ++ X)[n]? = some (.ins 12 []) := ap hn
      refine (seq_nx (fldset_ok (f := "places") (i := 1) (y := .tup ps) (by decide) g0 rfl rfl)).trans ?_
      refine (seq_nx (fldset_ok (f := "locks") (i := 2) (y := t) (by show 1 < 100; omega) (set_self g0) rfl rfl)).trans ?_
      refine (fldset_ok (f := "walked") (i := 3) (y := h) (by show 2 < 100; omega) (set_self (set_self g0)) rfl rfl).trans ?_
      rw [List.set_set, List.set_set]
      rfl
def okT (r : Rs D) : Bool := match r with
  | .ok (.bl true) _ => true
  | _ => false
theorem okT_of {r : Rs D} (h : okT r = true) : ∃ X, r = .ok (.bl true) X := by
  unfold okT at h
  split at h
  · exact ⟨_, rfl⟩
  · cases h
theorem alone_7 : okT (Fulaw_alone 3 [.cls hotN, .int 7] []) = true := by decide +kernel
theorem alone_ok {fs : List (Str × D)} {ε : En} {L : List O} : xCallX 2 Fulaw_alone (xCons (xPure (mC (.int 7))) xNil) 3 fs ε L = .ok (.bl true) L := by
  obtain ⟨X, hX⟩ := okT_of alone_7
  have hr : xCons (xPure (mC (.int 7))) xNil 3 fs ε L = .ok [.int 7] L := rfl
  unfold xCallX
  rw [hr]
  simp only [Rs.bind]
  rw [if_pos ⟨rfl, rfl⟩, hX]
  rfl
/-! asked -/
abbrev E5a (a0 a1 a2 a3 a4 : Option D) : En := [a0, a1, a2, a3, a4]
def akM : MS := mSet 3 (mMakeK 12 G_Wayu_initu gd_Way_K2_hops (mCons (mVar 0) (mCons (mVar 1) mNil)) (mCons (mVar 2) mNil))
def akS : SM := xIfE (xTru (xCallX 2 Fulaw_alone (xCons (xPure (mC (.int 7))) xNil))) (xTup (xCons (xPure (mC (.str "fault"))) (xCons (xFld 3 "part") (xCons (xFld 3 "index") xNil)))) (xPure (mTup (mCons (mC (.str "else")) mNil)))
def akR : MS := mRet (mTup (mCons (mC (.str "made")) (mCons (mProp 12 G_Way_points (mVar 3)) (mCons (mProp 12 G_Way_takes (mVar 3)) (mCons (mProp 12 G_Way_hops (mVar 3)) mNil)))))
theorem ak_eq : m_law_asked = mSeq (mTry (subL [(3, true)]) 4 akM akS) akR := rfl
theorem snoc_get {L : List O} {o : O} : (L ++ [o])[L.length]? = some o := by simp
theorem ak_make {L : List O} {p t h : D} (hp : PtsOk L p) (ht : PtsOk L t) (hh : It L h) : ∃ X, akM (E5a (some p) (some t) (some h) none none) L = (match faultS p t h with
    | none => RS.nx (E5a (some p) (some t) (some h) (some (.ref L.length)) none) ((L ++ [O.ins 12 []] ++ X).set L.length (wayO p t h))
    | some (s, k) => RS.ex 3 (badAt s k) (E5a (some p) (some t) (some h) none none) (L ++ [O.ins 12 []] ++ X)) := by
  have hm : ∀ (n : Nat) (o : O), L[n]? = some o → (L ++ [O.ins 12 []])[n]? = some o := fun n o e => ap e
  obtain ⟨X, hX⟩ := initu_ok (L := L ++ [O.ins 12 []]) snoc_get (pts_mono hm hp) (pts_mono hm ht) (it_mono hm hh)
  refine ⟨X, ?_⟩
  have e0 : mMakeK 12 G_Wayu_initu gd_Way_K2_hops (mCons (mVar 0) (mCons (mVar 1) mNil)) (mCons (mVar 2) mNil) (E5a (some p) (some t) (some h) none none) L = (G_Wayu_initu [.ref L.length, p, t, h] (L ++ [O.ins 12 []])).bind fun d L' => match d with
    | .non => .ok (.ref L.length) L'
    | _ => .bad := rfl
  unfold akM mSet
  rw [e0, hX]
  cases faultS p t h with
  | none => rfl
  | some sk => rfl
theorem asked_no {L : List O} {p t h : D} (hp : PtsOk L p) (ht : PtsOk L t) (hh : It L h) {s : Str} {k : Int} (hf : faultS p t h = some (s, k)) : ∃ X, Gulaw_asked [p, t, h] L = .ok (.tup [.str "fault", .str s, .int k]) (L ++ X) := by
  obtain ⟨X, hX⟩ := ak_make hp ht hh
  rw [hf] at hX
  refine ⟨[O.ins 12 []] ++ X, ?_⟩
  rw [← List.append_assoc]
  show Fulaw_asked [p, t, h] L = _
  refine runF_rt rfl ?_
  show m_law_asked (E5a (some p) (some t) (some h) none none) L = _
  rw [ak_eq]
  have sS : akS 3 (badAt s k) (E5a (some p) (some t) (some h) none none) (L ++ [O.ins 12 []] ++ X) = .ok (.tup [.str "fault", .str s, .int k]) (L ++ [O.ins 12 []] ++ X) := by
    unfold akS xIfE
    have c : xTru (xCallX 2 Fulaw_alone (xCons (xPure (mC (.int 7))) xNil)) 3 (badAt s k) (E5a (some p) (some t) (some h) none none) (L ++ [O.ins 12 []] ++ X) = .ok true (L ++ [O.ins 12 []] ++ X) := mtru_ok alone_ok rfl
    exact (mife_t c).trans rfl
  refine seq_rt ?_
  unfold mTry
  rw [hX]
  show (if 4 < 5 then (match akS 3 (badAt s k) (E5a (some p) (some t) (some h) none none) (L ++ [O.ins 12 []] ++ X) with
    | .ok d L2 => RS.rt d L2
    | _ => .bad) else .bad) = _
  rw [sS]
  rfl
theorem fld_ok {f : Str} {n : Nat} {fs : List (Str × D)} {d : D} {ε : En} {L : List O} (h0 : ε[0]? = some (some (.ref n))) (hn : L[n]? = some (.ins 12 fs)) (hf : mFld 12 f (mC (.ref n)) ε L = .ok d L) : mFld 12 f (mVar 0) ε L = .ok d L := by
  have v0 : mVar 0 ε L = .ok (.ref n) L := by unfold mVar; rw [h0]
  unfold mFld at hf ⊢
  rw [v0]
  exact hf
theorem way_refs {p t h : D} (hp : refsD p = []) (ht : refsD t = []) (hh : refsD h = []) : refsO (wayO p t h) = [] := by
  simp [wayO, refsO, refsDs, hp, ht, hh]
theorem way_points {L : List O} {n : Nat} {p t h : D} (hn : L[n]? = some (wayO p t h)) (hp : refsD p = []) (ht : refsD t = []) (hh : refsD h = []) : G_Way_points [.ref n] L = .ok p L := by
  have := lrun_bag (F := F_Way_points) (rest := []) (X := []) (d := p) (o' := wayO p t h) rfl hn (way_refs hp ht hh) (runF_rt rfl rfl) (way_refs hp ht hh) hp
  rw [set_same hn] at this
  exact this
theorem way_takes {L : List O} {n : Nat} {p t h : D} (hn : L[n]? = some (wayO p t h)) (hp : refsD p = []) (ht : refsD t = []) (hh : refsD h = []) : G_Way_takes [.ref n] L = .ok t L := by
  have := lrun_bag (F := F_Way_takes) (rest := []) (X := []) (d := t) (o' := wayO p t h) rfl hn (way_refs hp ht hh) (runF_rt rfl rfl) (way_refs hp ht hh) ht
  rw [set_same hn] at this
  exact this
theorem way_hops {L : List O} {n : Nat} {p t h : D} (hn : L[n]? = some (wayO p t h)) (hp : refsD p = []) (ht : refsD t = []) (hh : refsD h = []) : G_Way_hops [.ref n] L = .ok h L := by
  have := lrun_bag (F := F_Way_hops) (rest := []) (X := []) (d := h) (o' := wayO p t h) rfl hn (way_refs hp ht hh) (runF_rt rfl rfl) (way_refs hp ht hh) hh
  rw [set_same hn] at this
  exact this
theorem asked_yes {L : List O} {p t h : D} (hp : PtsOk L p) (ht : PtsOk L t) (hh : It L h) (hf : faultS p t h = none) (rp : refsD p = []) (rt : refsD t = []) (rh : refsD h = []) : ∃ X, Gulaw_asked [p, t, h] L = .ok (.tup [.str "made", p, t, h]) X ∧ ∀ (n : Nat) (o : O), L[n]? = some o → X[n]? = some o := by
  obtain ⟨M, hX, hM, hG⟩ : ∃ M : List O, akM (E5a (some p) (some t) (some h) none none) L = RS.nx (E5a (some p) (some t) (some h) (some (.ref L.length)) none) M ∧ M[L.length]? = some (wayO p t h) ∧ ∀ (n : Nat) (o : O), L[n]? = some o → M[n]? = some o := by
    obtain ⟨X, hX⟩ := ak_make hp ht hh
    rw [hf] at hX
    exact ⟨_, hX, set_self (ap snoc_get), fun n o e => set_other (ap (ap e)) (by have := lt_of e; omega)⟩
  refine ⟨M, ?_, hG⟩
  show Fulaw_asked [p, t, h] L = _
  refine runF_rt rfl ?_
  show m_law_asked (E5a (some p) (some t) (some h) none none) L = _
  rw [ak_eq]
  have s : mTry (subL [(3, true)]) 4 akM akS (E5a (some p) (some t) (some h) none none) L = .nx (E5a (some p) (some t) (some h) (some (.ref L.length)) none) M := by
    unfold mTry
    rw [hX]
  have ii : isIns 12 Str.empty M (.ref L.length) = true := by
    show (match M[L.length]? with
      | some (.ins c' fs) => decide (c' = 12) && (fs.lookup Str.empty).isNone
      | _ => false) = true
    rw [hM]
    rfl
  have a1 : mProp 12 G_Way_points (mVar 3) (E5a (some p) (some t) (some h) (some (.ref L.length)) none) M = .ok p M := mprop_ok rfl ii (way_points hM rp rt rh)
  have a2 : mProp 12 G_Way_takes (mVar 3) (E5a (some p) (some t) (some h) (some (.ref L.length)) none) M = .ok t M := mprop_ok rfl ii (way_takes hM rp rt rh)
  have a3 : mProp 12 G_Way_hops (mVar 3) (E5a (some p) (some t) (some h) (some (.ref L.length)) none) M = .ok h M := mprop_ok rfl ii (way_hops hM rp rt rh)
  refine (seq_nx s).trans ?_
  refine mret_ok ?_
  have c3 := mcons_ok a3 (rfl : mNil (E5a (some p) (some t) (some h) (some (.ref L.length)) none) M = .ok [] M)
  have c2 := mcons_ok a2 c3
  have c1 := mcons_ok a1 c2
  have c0 := mcons_ok (a := mC (.str "made")) (x := .str "made") (L1 := M) rfl c1
  unfold mTup
  rw [c0]
  rfl
/-! what is right holds no references -/
theorem place_refs {k : Int} {d : D} (h : placeS k d = true) : refsD d = [] := by
  unfold placeS at h
  split at h
  · rfl
  · rfl
  · cases h
theorem fb_refs : ∀ {ps : List D} {k : Nat}, firstBad k ps = none → refsDs ps = []
  | [], _, _ => rfl
  | d :: r, k, h => by
    unfold firstBad at h
    split at h
    · rename_i e
      show refsD d ++ refsDs r = []
      rw [place_refs e, fb_refs h]
      rfl
    · cases h
theorem tkOf_refs {d : D} {t : T3} (h : tkOf d = some t) : refsD d = [] := by
  unfold tkOf at h
  split at h
  · rfl
  · cases h
theorem fbT_refs : ∀ {ts : List D} {last h : Int} {pre : List T3}, firstBadT last h pre ts = none → refsDs ts = []
  | [], _, _, _, _ => rfl
  | d :: r, last, h, pre, e => by
    unfold firstBadT at e
    split at e
    · rename_i t e1
      split at e
      · show refsD d ++ refsDs r = []
        rw [tkOf_refs e1, fbT_refs e]
        rfl
      · cases e
    · cases e
theorem fault_refs {p t h : D} (e : faultS p t h = none) : refsD p = [] ∧ refsD t = [] ∧ refsD h = [] := by
  unfold faultS at e
  cases hS : ptsS p with
  | some k =>
    rw [hS] at e
    cases e
  | none =>
    rw [hS] at e
    cases p with
    | tup ps =>
      have e1 : tksS ps.length t h = none := e
      have h1 : refsD (.tup ps) = [] := by
        have h2 : (if 4 < ps.length then some (-1 : Int) else (firstBad 0 ps).map fun k => (k : Int)) = none := hS
        split at h2
        · cases h2
        · cases hf : firstBad 0 ps with
          | none => exact fb_refs hf
          | some j =>
            rw [hf] at h2
            cases h2
      refine ⟨h1, ?_⟩
      unfold tksS at e1
      split at e1
      · split at e1
        · cases e1
        · split at e1
          · rename_i ts
            split at e1
            · cases e1
            · split at e1
              · cases e1
              · refine ⟨?_, rfl⟩
                cases hf : firstBadT (ps.length : Int) _ [] ts with
                | none => exact fbT_refs hf
                | some j =>
                  rw [hf] at e1
                  cases e1
          · cases e1
      · cases e1
    | _ => cases hS
theorem asked_ok {L : List O} {p t h : D} (hp : PtsOk L p) (ht : PtsOk L t) (hh : It L h) : ∃ X, Gulaw_asked [p, t, h] L = .ok (match faultS p t h with
    | none => .tup [.str "made", p, t, h]
    | some (s, k) => .tup [.str "fault", .str s, .int k]) X ∧ ∀ (n : Nat) (o : O), L[n]? = some o → X[n]? = some o := by
  cases hf : faultS p t h with
  | none =>
    obtain ⟨rp, rt, rh⟩ := fault_refs hf
    exact asked_yes hp ht hh hf rp rt rh
  | some sk =>
    obtain ⟨s, k⟩ := sk
    obtain ⟨X, hX⟩ := asked_no hp ht hh hf
    exact ⟨_, hX, fun n o e => ap e⟩
/-! what is shown, whatever stands in the heap beside -/
structure Sw (L : List O) (k B : Nat) (d : D) : Prop where
  ex : ∃ p : PyData, (∀ n, k ≤ n → toPyS L (n + 1) d = some p) ∧ p.showable = true ∧ p.depth ≤ k ∧ p.shown.length ≤ B
theorem Sw.le {L : List O} {k j B C : Nat} {d : D} (h : Sw L k B d) (h1 : k ≤ j) (h2 : B ≤ C) : Sw L j C d := by
  obtain ⟨p, a, b, c, e⟩ := h.ex
  exact ⟨p, fun n hn => a n (by omega), b, by omega, by omega⟩
theorem sum_le : ∀ {ts : List Str} {B : Nat}, (∀ t ∈ ts, t.length ≤ B) → (ts.map (·.length)).sum ≤ ts.length * B
  | [], B, _ => by simp
  | t :: ts, B, h => by
    have h1 := h t List.mem_cons_self
    have h2 := sum_le (ts := ts) (B := B) fun s hs => h s (List.mem_cons_of_mem _ hs)
    simp only [List.map_cons, List.sum_cons, List.length_cons, Nat.add_mul, Nat.one_mul]
    omega
theorem sw_all {L : List O} {k B : Nat} : ∀ {ds : List D}, (∀ d ∈ ds, Sw L k B d) → ∃ ps : List PyData, (∀ n, k ≤ n → optAll (toPyS L (n + 1)) ds = some ps) ∧ PyData.showableAll ps = true ∧ PyData.depthAll ps ≤ k ∧ ps.length = ds.length ∧ (∀ t ∈ PyData.shownAll ps, t.length ≤ B) ∧ (PyData.shownAll ps).length = ds.length
  | [], _ => ⟨[], fun _ _ => rfl, rfl, by simp [PyData.depthAll], rfl, by simp [PyData.shownAll], by simp [PyData.shownAll]⟩
  | d :: ds, h => by
    obtain ⟨p, a, b, c, e⟩ := (h d List.mem_cons_self).ex
    obtain ⟨ps, a2, b2, c2, e2, f2, g2⟩ := sw_all (ds := ds) fun x hx => h x (List.mem_cons_of_mem _ hx)
    refine ⟨p :: ps, fun n hn => optAll_cons (a n hn) (a2 n hn), by simp [PyData.showableAll, b, b2], ?_, by simp [e2], ?_, by simp [PyData.shownAll, g2]⟩
    · simp only [PyData.depthAll]
      omega
    · intro t ht
      simp only [PyData.shownAll, List.mem_cons] at ht
      rcases ht with rfl | ht
      · exact e
      · exact f2 t ht
theorem sw_tup {L : List O} {k B : Nat} {ds : List D} (h : ∀ d ∈ ds, Sw L k B d) : Sw L (k + 1) (ds.length * (B + 2) + 3) (.tup ds) := by
  obtain ⟨ps, a, b, c, e, f, g⟩ := sw_all h
  refine ⟨.tuple ps, fun n hn => ?_, by simpa [PyData.showable] using b, by simp only [PyData.depth]; omega, ?_⟩
  · cases n with
    | zero => omega
    | succ n =>
      show (optAll (toPyS L (n + 1)) ds).map PyData.tuple = _
      rw [a n (by omega)]
      rfl
  · have h1 := tupleText_len_le (PyData.shownAll ps)
    have h2 := sum_le f
    have e3 : (PyData.tuple ps).shown = tupleText (PyData.shownAll ps) := by simp only [PyData.shown]
    rw [e3]
    rw [g] at h1 h2
    rw [Nat.mul_add]
    omega
theorem sw_lst {L : List O} {k B m : Nat} {ds : List D} (hm : L[m]? = some (.lst ds)) (h : ∀ d ∈ ds, Sw L k B d) : Sw L (k + 1) (ds.length * (B + 2) + 3) (.ref m) := by
  obtain ⟨ps, a, b, c, e, f, g⟩ := sw_all h
  refine ⟨.list ps, fun n hn => ?_, by simpa [PyData.showable] using b, by simp only [PyData.depth]; omega, ?_⟩
  · cases n with
    | zero => omega
    | succ n =>
      unfold toPyS
      simp only [hm]
      rw [a n (by omega)]
      rfl
  · have h1 := listText_len_le (PyData.shownAll ps)
    have h2 := sum_le f
    have e3 : (PyData.list ps).shown = listText (PyData.shownAll ps) := by simp only [PyData.shown]
    rw [e3]
    rw [g] at h1 h2
    rw [Nat.mul_add]
    omega
theorem sw_dic {L : List O} {m : Nat} (hm : L[m]? = some (.dic false [])) : Sw L 1 2 (.ref m) := by
  refine ⟨.dict [], fun n hn => ?_, by decide +kernel, by decide +kernel, by decide +kernel⟩
  cases n with
  | zero => omega
  | succ n =>
    unfold toPyS
    simp only [hm]
    rfl
/-- shown alike in a heap that has grown -/
theorem sw_repr {L : List O} {d : D} {p : PyData} (h : toPyS L pyDeep d = some p) (h1 : isSeqP p = true) (h2 : p.showable = true) (h3 : p.depth ≤ 16) (h4 : p.shown.length ≤ most) : cReprD [d] L = some (.str p.shown, L) := by
  unfold cReprD
  simp only [h]
  rw [if_pos ⟨h1, h2, h3, h4⟩]
/-! leaves -/
inductive Leaf : D → Prop
  | non : Leaf .non
  | bl (b : Bool) : Leaf (.bl b)
  | int {i : Int} : i.natAbs < 2 ^ 90 → Leaf (.int i)
  | str {s : Str} : (PyData.str s).canLay0 = true → (PyData.str s).showable = true → (PyData.str s).shown.length ≤ 100 → Leaf (.str s)
theorem Leaf.nice {d : D} (h : Leaf d) : Nice 0 d := by
  cases h with
  | non => exact ⟨.none, fun L n h => by cases n with | zero => omega | succ n => rfl, by simp [PyData.canLay0], by simp [PyData.depth]⟩
  | bl b => exact ⟨_, nice_bl b⟩
  | int h => exact ⟨_, nice_int _⟩
  | str h _ _ => exact ⟨_, nice_str h⟩
theorem Leaf.plain {d : D} (h : Leaf d) : plainD d = true := by cases h <;> rfl
theorem Leaf.refs {d : D} (h : Leaf d) : refsD d = [] := by cases h <;> rfl
theorem Leaf.sw {d : D} (h : Leaf d) (L : List O) : Sw L 0 2000 d := by
  cases h with
  | non => exact ⟨.none, fun n _ => rfl, by decide +kernel, by decide +kernel, by decide +kernel⟩
  | bl b => exact ⟨.bool b, fun n _ => rfl, by cases b <;> decide +kernel, by cases b <;> decide +kernel, by cases b <;> decide +kernel⟩
  | @int i h =>
    have hl : i.natAbs.log2 < 1920 := by
      by_cases h0 : i.natAbs = 0
      · rw [h0]; decide
      · exact Nat.lt_of_lt_of_le ((Nat.log2_lt h0).mpr h) (by decide)
    refine ⟨.int i, fun n _ => rfl, by simpa [PyData.showable] using hl, by simp [PyData.depth], ?_⟩
    have := PyProof.Rows.int_text_len_1921 hl
    show (Str.ofString (toString i)).length ≤ 2000
    omega
  | @str s h1 h2 h3 => exact ⟨.str s, fun n _ => rfl, h2, by simp [PyData.depth], by omega⟩
theorem leaf_str {s : Str} (h : ((PyData.str s).canLay0 && (PyData.str s).showable && decide ((PyData.str s).shown.length ≤ 100)) = true) : Leaf (.str s) := by
  simp only [Bool.and_eq_true, decide_eq_true_eq] at h
  exact .str h.1.1 h.1.2 h.2
theorem plain_all {ds : List D} (h : ∀ d ∈ ds, plainD d = true) : plainDs ds = true := by
  induction ds with
  | nil => rfl
  | cons d ds ih => simp only [plainDs, h d List.mem_cons_self, ih fun e he => h e (List.mem_cons_of_mem _ he), Bool.and_self]
/-! an item of points or takes -/
inductive Itm (nb : Nat) (L : List O) : D → Prop
  | leaf {d : D} : Leaf d → Itm nb L d
  | tup {ds : List D} : (∀ d ∈ ds, Leaf d) → ds.length ≤ 3 → Itm nb L (.tup ds)
  | two : Itm nb L (.tup [.tup [.str "parent"]])
  | lst {k : Nat} {ds : List D} : k ≠ nb → L[k]? = some (.lst ds) → (∀ d ∈ ds, Leaf d) → ds.length ≤ 3 → Itm nb L (.ref k)
  | dic {k : Nat} : k ≠ nb → L[k]? = some (.dic false []) → Itm nb L (.ref k)
theorem leaf_parent : Leaf (.str "parent") := leaf_str (by decide +kernel)
theorem Itm.it {nb : Nat} {L : List O} {d : D} (h : Itm nb L d) : It L d := by
  cases h with
  | leaf h => exact .val (by obtain ⟨p, q⟩ := h.nice; exact ⟨p, q.up (by decide)⟩) h.plain
  | tup h _ => exact .val (by obtain ⟨p, q⟩ := nice_tup fun d hd => (h d hd).nice; exact ⟨p, q.up (by decide)⟩) (by simp only [plainD]; exact plain_all fun d hd => (h d hd).plain)
  | two => exact .val (by
      obtain ⟨p, q⟩ := nice_tup (k := 1) (ds := [.tup [.str "parent"]]) (by
        intro d hd
        rcases List.mem_singleton.mp hd with rfl
        exact nice_tup (by
          intro d hd
          rcases List.mem_singleton.mp hd with rfl
          exact leaf_parent.nice))
      exact ⟨p, q.up (by decide)⟩) rfl
  | lst _ a b c => exact .lst a (fun d hd => by obtain ⟨p, q⟩ := (b d hd).nice; exact ⟨p, q.up (by decide)⟩) (plain_all fun d hd => (b d hd).plain)
  | dic _ a => exact .dic a
theorem mul_le3 {n : Nat} (h : n ≤ 3) : n * (2000 + 2) + 3 ≤ 6009 := by omega
theorem Itm.sw {nb : Nat} {L : List O} {d : D} (h : Itm nb L d) : Sw L 2 6009 d := by
  cases h with
  | leaf h => exact (h.sw L).le (by decide) (by decide)
  | tup h c => exact (sw_tup fun d hd => (h d hd).sw L).le (by decide) (mul_le3 c)
  | two => exact (sw_tup (k := 1) (B := 2005) (ds := [.tup [.str "parent"]]) (by
      intro d hd
      rcases List.mem_singleton.mp hd with rfl
      exact (sw_tup (k := 0) (B := 2000) (ds := [.str "parent"]) (by
        intro d hd
        rcases List.mem_singleton.mp hd with rfl
        exact leaf_parent.sw L)).le (by decide) (by decide))).le (by decide) (by decide)
  | lst _ a b c => exact (sw_lst a fun d hd => (b d hd).sw L).le (by decide) (mul_le3 c)
  | dic _ a => exact (sw_dic a).le (by decide) (by decide)
/-- all but the bag stands -/
def Grow (nb : Nat) (L L' : List O) : Prop := ∀ (n : Nat) (o : O), n ≠ nb → L[n]? = some o → L'[n]? = some o
theorem Grow.refl {nb : Nat} {L : List O} : Grow nb L L := fun _ _ _ h => h
theorem Grow.trans {nb : Nat} {L L' L2 : List O} (h : Grow nb L L') (h2 : Grow nb L' L2) : Grow nb L L2 := fun n o hn e => h2 n o hn (h n o hn e)
theorem Grow.app {nb : Nat} {L X : List O} : Grow nb L (L ++ X) := fun _ _ _ h => ap h
theorem Grow.set {nb : Nat} {L : List O} {o : O} : Grow nb L (L.set nb o) := fun _ _ hn h => set_other h (Ne.symm hn)
theorem Itm.mono {nb : Nat} {L L' : List O} {d : D} (i : Itm nb L d) (h : Grow nb L L') : Itm nb L' d := by
  cases i with
  | leaf a => exact .leaf a
  | tup a b => exact .tup a b
  | two => exact .two
  | lst e a b c => exact .lst e (h _ _ e a) b c
  | dic e a => exact .dic e (h _ _ e a)
/-! points or takes as a whole -/
inductive Whl (nb : Nat) (L : List O) (N : Nat) : D → Prop
  | tup {ds : List D} : (∀ d ∈ ds, Itm nb L d) → ds.length ≤ N → Whl nb L N (.tup ds)
  | itm {d : D} : (∀ ds, d ≠ .tup ds) → Itm nb L d → Whl nb L N d
  | lst {k : Nat} {ds : List D} : k ≠ nb → L[k]? = some (.lst ds) → (∀ d ∈ ds, Itm nb L d) → ds.length ≤ N → Whl nb L N (.ref k)
theorem Whl.pts {nb : Nat} {L : List O} {N : Nat} {d : D} (h : Whl nb L N d) : PtsOk L d := by
  cases h with
  | tup a _ => exact fun d hd => (a d hd).it
  | itm a b =>
    cases d with
    | tup ds => exact absurd rfl (a ds)
    | _ => exact .inl b.it
  | lst _ a _ _ => exact .inr ⟨_, _, rfl, a⟩
theorem Whl.of {nb : Nat} {L : List O} {N : Nat} {d : D} (h : Itm nb L d) (hN : 3 ≤ N) : Whl nb L N d := by
  cases d with
  | tup ds =>
    cases h with
    | leaf a => cases a
    | tup a b => exact .tup (fun d hd => .leaf (a d hd)) (by omega)
    | two => exact .tup (fun d hd => by
        rcases List.mem_singleton.mp hd with rfl
        exact .tup (fun d hd => by
          rcases List.mem_singleton.mp hd with rfl
          exact leaf_parent) (by decide)) (by simp; omega)
  | _ => exact .itm (by simp) h
theorem Whl.sw {nb : Nat} {L : List O} {N : Nat} {d : D} (h : Whl nb L N d) (hN : 1 ≤ N) : Sw L 3 (N * 6011 + 3) d := by
  cases h with
  | tup a b => exact (sw_tup fun d hd => (a d hd).sw).le (by decide) (by have := Nat.mul_le_mul_right 6011 b; omega)
  | itm a b => exact b.sw.le (by decide) (by omega)
  | lst _ a b c => exact (sw_lst a fun d hd => (b d hd).sw).le (by decide) (by have := Nat.mul_le_mul_right 6011 c; omega)
theorem Whl.le {nb : Nat} {L : List O} {N M : Nat} {d : D} (h : Whl nb L N d) (hN : N ≤ M) : Whl nb L M d := by
  cases h with
  | tup a b => exact .tup a (by omega)
  | itm a b => exact .itm a b
  | lst e a b c => exact .lst e a b (by omega)
theorem Whl.mono {nb : Nat} {L L' : List O} {N : Nat} {d : D} (i : Whl nb L N d) (h : Grow nb L L') : Whl nb L' N d := by
  cases i with
  | tup a b => exact .tup (fun d hd => (a d hd).mono h) b
  | itm a b => exact .itm a (b.mono h)
  | lst e a b c => exact .lst e (h _ _ e a) (fun d hd => (b d hd).mono h) c
local macro_rules
  | `(tactic| o_reads) => `(tactic| first
    | with_reducible refine wp_set ?_
    | with_reducible refine wp_ret ?_
    | with_reducible refine wp_drop ?_
    | with_reducible refine wp_if ?_
    | with_reducible refine wp_asg ?_
    | with_reducible refine wp_par ?_
    | with_reducible refine wp_fldset ?_
    | with_reducible refine wp_put ?_
    | with_reducible refine wp_raise ?_
    | with_reducible refine wp_next ?_
    | with_reducible refine wp_brk ?_
    | with_reducible refine wp_cnt ?_
    | with_reducible refine wp_retN ?_
    | with_reducible refine wp_for ?_
    | with_reducible refine wp_cons ?_
    | with_reducible refine wp_nil ?_
    | with_reducible refine wp_C ?_
    | ((with_reducible apply wp_var); focus (exact rfl))
    | with_reducible refine wp_op2 ?_
    | with_reducible refine wp_op1 ?_
    | with_reducible refine wp_fn ?_
    | with_reducible refine wp_call ?_
    | ((with_reducible apply wp_chain_pure); (focus (exact rfl)); (focus (exact rfl)); (focus (exact rfl)); (focus (exact rfl)); (focus (exact rfl)))
    | with_reducible refine wp_chain ?_
    | with_reducible refine wp_nopart ?_
    | with_reducible refine wp_part ?_
    | with_reducible refine wp_sl ?_
    | with_reducible refine wp_tup ?_
    | with_reducible refine wp_lst ?_
    | with_reducible refine wp_dic0 ?_
    | with_reducible refine wp_nd0 ?_
    | with_reducible refine wp_tst ?_
    | with_reducible refine wp_tru ?_
    | with_reducible refine wp_notB ?_
    | with_reducible refine wp_andB ?_
    | with_reducible refine wp_orB ?_
    | with_reducible refine wp_yes ?_
    | with_reducible refine wp_andV ?_
    | with_reducible refine wp_orV ?_
    | with_reducible refine wp_notV ?_
    | with_reducible refine wp_ifE ?_
    | with_reducible refine wp_fld ?_
    | with_reducible refine wp_bmL ?_
    | with_reducible refine wp_meth ?_
    | with_reducible refine wp_prop ?_
    | with_reducible refine wp_listRg1 ?_
    | with_reducible refine wp_rng1 ?_
    | with_reducible refine wp_rng2 ?_
    | with_reducible refine wp_zip ?_
    | with_reducible refine wp_comp ?_
    | with_reducible refine qbl ?_
    | with_reducible refine qif_t rfl ?_
    | with_reducible refine qif_f rfl ?_
    | ((with_reducible apply qtr); focus (exact rfl))
    | with_reducible refine wpo oEq_int ?_
    | ((with_reducible apply wpo_len); focus assumption)
    | with_reducible refine wpo oNe_int ?_
    | ((with_reducible apply wpo); focus (exact rfl))
    | refine ⟨_, rfl, ?_⟩
    | ((with_reducible refine And.intro ?_ ?_); focus (first | exact Nat.le_of_ble_eq_true rfl | exact ⟨by omega, by omega⟩ | assumption)))
local macro_rules
  | `(tactic| o_readsAll) => `(tactic| repeat' (first | with_reducible refine wp_seq ?_ | o_reads))
local macro_rules
  | `(tactic| o_shape) => `(tactic| repeat' o_reads)
/-! the bag, with what holds behind -/
def Bag (nb : Nat) (k : Int) (L : List O) : Prop := ∃ o, L[nb]? = some o ∧ BagI k o
theorem Bag.app {nb : Nat} {k : Int} {L X : List O} (h : Bag nb k L) : Bag nb k (L ++ X) := by
  obtain ⟨o, e, b⟩ := h
  exact ⟨o, ap e, b⟩
theorem Bag.less {nb : Nat} {k j : Int} {L : List O} (h : Bag nb k L) (h0 : 0 ≤ j) (hj : j ≤ k) : Bag nb j L := by
  obtain ⟨o, e, b⟩ := h
  exact ⟨o, e, b.mono h0 hj⟩
theorem Bag.put {nb n : Nat} {k : Int} {L : List O} {o : O} (h : Bag nb k L) (hn : n ≠ nb) : Bag nb k (L.set n o) := by
  obtain ⟨p, e, b⟩ := h
  exact ⟨p, set_other e hn, b⟩
theorem Bag.lt {nb : Nat} {k : Int} {L : List O} (h : Bag nb k L) : nb < L.length := by
  obtain ⟨o, e, _⟩ := h
  exact lt_of e
/-- one step further -/
structure Drew (nb : Nat) (k : Int) (L L' : List O) : Prop where
  bag : Bag nb k L'
  grow : Grow nb L L'
  len : L'.length = L.length
theorem take_wp {nb : Nat} {k m : Int} {L : List O} (h : Bag nb k L) (hk : 1 ≤ k) (hm : 0 < m) (hm2 : m ≤ 1000000000) : Wp (Gulaw_take [.ref nb, .int m] L) (fun d L' => ∃ r : Int, d = .int r ∧ 0 ≤ r ∧ r < m ∧ Drew nb (k - 1) L L') noX := by
  obtain ⟨o, e, b⟩ := h
  obtain ⟨r, o', e2, r0, r1, b2⟩ := Gtake (k := k - 1) (m := m) e (by rw [Int.sub_add_cancel]; exact b) (by omega) hm hm2
  exact wp_eq e2 ⟨r, rfl, r0, r1, ⟨o', set_self e, b2⟩, .set, by simp⟩
theorem wp_of {r : Rs D} {P Q : D → List O → Prop} {E : XQ} (h : Wp r P noX) (k : ∀ d L', P d L' → Q d L') : Wp r Q E := h.imp k fun _ _ _ e => e.elim
theorem of_wp {nb n : Nat} {k : Int} {L : List O} {xs : List D} (h : Bag nb k L) (hk : 1 ≤ k) (hn : L[n]? = some (.lst xs)) (hne : n ≠ nb) (h0 : 0 < xs.length) (h1 : xs.length ≤ 1000) : Wp (Gulaw_of [.ref nb, .ref n] L) (fun d L' => d ∈ xs ∧ Drew nb (k - 1) L L') noX := by
  show Wp (Fulaw_of _ _) _ _
  refine wp_runF rfl ?_
  show WpS (m_law_of [some (.ref nb), some (.ref n)] L) _ _ _ _ _
  unfold m_law_of
  o_readsAll
  refine wp_of (take_wp h hk (by omega) (by omega)) ?_
  rintro _ L' ⟨r, rfl, r0, r1, dr⟩
  obtain ⟨x, hx⟩ : ∃ x, xs[r.toNat]? = some x := ⟨_, List.getElem?_eq_getElem (by omega)⟩
  refine wpo_idxL (dr.grow _ _ hne hn) (by have := atI_get hx; rwa [show ((r.toNat : Nat) : Int) = r by omega] at this) ?_
  exact ⟨List.mem_of_getElem? hx, dr⟩
/-- a run in a heap of its own with the bag alone -/
theorem lrun_wp {F : FS} {nb : Nat} {k j : Int} {rest : List D} {L : List O} {P : D → Prop} (hr : refsDs rest = []) (h : Bag nb k L) (hF : ∀ o, BagI k o → Wp (F (.ref 0 :: rest) [o]) (fun d L' => P d ∧ refsD d = [] ∧ Bag 0 j L') noX) : Wp (lrun F (.ref nb :: rest) L) (fun d L' => P d ∧ Drew nb j L L') noX := by
  obtain ⟨o, e, b⟩ := h
  obtain ⟨d, L', e2, p, hd, o', e3, b'⟩ := wp_ok (hF o b)
  cases L' with
  | nil => cases e3
  | cons x X =>
    cases e3
    exact wp_eq (lrun_bag hr e b.pure e2 b'.pure hd) ⟨p, ⟨o', set_self e, b'⟩, .set, by simp⟩
/-! points -/
theorem leaf_int {i : Int} (h0 : 0 ≤ i) (h1 : i ≤ 1000000000) : Leaf (.int i) := .int (by
  have : i.natAbs ≤ 1000000000 := by omega
  exact Nat.lt_of_le_of_lt this (by decide))
theorem app_ok {n : Nat} {L : List O} {xs : List D} {y : D} (h : L[n]? = some (.lst xs)) (hl : xs.length < most) : oAppend (.ref n) [y] L = some (.non, L.set n (.lst (xs ++ [y]))) := by
  unfold oAppend
  simp only [h]
  rw [if_pos hl]
theorem isLst_at {n : Nat} {L : List O} {xs : List D} (h : L[n]? = some (.lst xs)) : isLst L (.ref n) = true := by simp [isLst, h]
def Pl (d : D) : Prop := ∃ ds, d = .tup ds ∧ (∀ e ∈ ds, Leaf e) ∧ ds.length ≤ 3
theorem pl_par : Pl (.tup [.str "parent"]) := ⟨_, rfl, fun e he => by rcases List.mem_singleton.mp he with rfl; exact leaf_parent, by decide⟩
theorem leaf_child : Leaf (.str "child") := leaf_str (by decide +kernel)
theorem pl_child {i : Int} (h0 : 0 ≤ i) (h1 : i ≤ 1000000000) : Pl (.tup [.str "child", .int i]) := ⟨_, rfl, fun e he => by
  simp only [List.mem_cons, List.not_mem_nil, or_false] at he
  rcases he with rfl | rfl
  · exact leaf_child
  · exact leaf_int h0 h1, Nat.le_of_ble_eq_true rfl⟩
theorem Pl.refs {d : D} (h : Pl d) : refsD d = [] := by
  obtain ⟨ds, rfl, h, _⟩ := h
  exact refs_all fun d hd => (h d hd).refs
theorem Fpoints {o : O} {k : Int} (h : BagI k o) (hk : 20 ≤ k) : Wp (Fulaw_points [.ref 0, .int 4] [o]) (fun d L' => (∃ ds, d = .tup ds ∧ (∀ e ∈ ds, Pl e) ∧ ds.length ≤ 4) ∧ refsD d = [] ∧ Bag 0 (k - 20) L') noX := by
  have hb : Bag 0 k ([o] ++ [O.lst []]) := ⟨o, rfl, h⟩
  refine wp_runF rfl ?_
  show WpS (m_law_points [some (.ref 0), some (.int 4), none, none] [o]) _ _ _ _ _
  unfold m_law_points
  o_readsAll
  refine wp_of (take_wp hb (by omega) (by omega) (by omega)) ?_
  rintro _ L1 ⟨n, rfl, n0, n1, d1⟩
  refine ⟨_, rfl, ⟨by omega, by omega⟩, ?_⟩
  refine wp_loop0 (fun i ε L => ∃ x3 ds, ε = [some (.ref 0), some (.int 4), some (.ref 1), x3] ∧ L[1]? = some (.lst ds) ∧ ds.length = i ∧ (∀ e ∈ ds, Pl e) ∧ Bag 0 (k - 1 - 2 * i) L) (fun _ _ _ _ => rfl) ⟨none, [], rfl, d1.grow _ _ (by decide) rfl, rfl, (by simp), by simpa using d1.bag⟩ ?_ ?_
  · rintro i d ε L hd ⟨x3, ds, rfl, hl, hi, hp, hb⟩
    obtain ⟨rfl, hn⟩ := rngD_get hd
    have hn4 : i < 5 := by omega
    refine ⟨_, rfl, ?_⟩
    o_readsAll
    refine ⟨isLst_at hl, ?_⟩
    o_readsAll
    refine wp_of (take_wp hb (by omega) (by omega) (by omega)) ?_
    rintro _ L2 ⟨r, rfl, r0, r1, d2⟩
    o_readsAll
    have fin : ∀ (L3 : List O) (y : D), Pl y → L3[1]? = some (.lst ds) → Bag 0 (k - 1 - 2 * i - 2) L3 → WpO (oAppend (.ref 1) [y] L3) (fun _ L1 => ∃ x3 ds, [some (D.ref 0), some (D.int 4), some (D.ref 1), some (.int (0 + (i : Int)))] = [some (.ref 0), some (.int 4), some (.ref 1), x3] ∧ L1[1]? = some (.lst ds) ∧ ds.length = i + 1 ∧ (∀ e ∈ ds, Pl e) ∧ Bag 0 (k - 1 - 2 * ((i + 1 : Nat) : Int)) L1) := by
      intro L3 y hy h3 hb3
      refine wpo (app_ok h3 (by unfold most; omega)) ?_
      refine ⟨_, ds ++ [y], rfl, set_self h3, by simp [hi], ?_, (hb3.put (by decide)).less (by omega) (by omega)⟩
      intro e he
      rcases List.mem_append.mp he with he | he
      · exact hp e he
      · rcases List.mem_singleton.mp he with rfl
        exact hy
    refine qif_dec (fun _ => ?_) (fun _ => ?_)
    · o_readsAll
      exact fin _ _ pl_par (d2.grow _ _ (by decide) hl) (d2.bag.less (by omega) (by omega))
    · o_readsAll
      refine wp_of (take_wp d2.bag (by omega) (by omega) (by omega)) ?_
      rintro _ L3 ⟨s, rfl, s0, s1, d3⟩
      o_readsAll
      exact fin _ _ (pl_child s0 (by omega)) (d3.grow _ _ (by decide) (d2.grow _ _ (by decide) hl)) (d3.bag.less (by omega) (by omega))
  · rintro ε L ⟨x3, ds, rfl, hl, hi, hp, hb⟩
    rw [rngD_len] at hi hb
    o_readsAll
    refine wpo (show cTuple [.ref 1] L = some (.tup ds, L) by simp [cTuple, seqD, hl]) ?_
    exact ⟨⟨ds, rfl, hp, by omega⟩, refs_all fun e he => (hp e he).refs, hb.less (by omega) (by omega)⟩
/-! takes -/
def Tk (d : D) : Prop := ∃ (w m : Str) (p : Int), d = .tup [.str w, .int p, .str m] ∧ (w = "take" ∨ w = "leap" ∨ w = "try") ∧ (m = "shared" ∨ m = "alone" ∨ m = "rising") ∧ 0 ≤ p ∧ p < 1000
theorem Tk.pl {d : D} (h : Tk d) : Pl d := by
  obtain ⟨w, m, p, rfl, hw, hm, p0, p1⟩ := h
  refine ⟨_, rfl, fun e he => ?_, Nat.le_of_ble_eq_true rfl⟩
  simp only [List.mem_cons, List.not_mem_nil, or_false] at he
  rcases he with rfl | rfl | rfl
  · rcases hw with rfl | rfl | rfl <;> exact leaf_str (by decide +kernel)
  · exact leaf_int p0 (by omega)
  · rcases hm with rfl | rfl | rfl <;> exact leaf_str (by decide +kernel)
theorem seqIx {r : Int} {n : Nat} (h0 : 0 ≤ r) (h1 : r < n) : seqIndex? r n = some r.toNat := by
  unfold seqIndex?
  simp only [show ¬ r < 0 by omega, if_false]
  rw [if_pos (by simp; omega)]
theorem pop_ok {n : Nat} {L : List O} {xs : List D} {r : Int} {y : D} (h : L[n]? = some (.lst xs)) (h0 : 0 ≤ r) (h1 : r ≤ 1000000) (hy : xs[r.toNat]? = some y) : oPop (.ref n) [.int r] L = some (y, L.set n (.lst (xs.eraseIdx r.toNat))) := by
  have hl := (List.getElem?_eq_some_iff.mp hy).1
  unfold oPop
  simp only [h]
  rw [if_pos (show -1000000 ≤ r ∧ r ≤ 1000000 from ⟨by omega, h1⟩), seqIx h0 (by omega)]
  simp only [hy]
theorem at_last {α : Type} {xs : List α} {x : α} : atI (xs ++ [x]) (-1) = some x := by
  have h : (xs ++ [x])[xs.length]? = some x := by simp
  unfold atI ixN
  simp only [List.length_append, List.length_cons, List.length_nil]
  rw [if_neg (by omega), if_pos (by omega)]
  show (xs ++ [x])[(-1 + ((xs.length + (0 + 1) : Nat) : Int)).toNat]? = _
  rw [show (-1 + ((xs.length + (0 + 1) : Nat) : Int)).toNat = xs.length by omega]
  exact h
theorem ne_shared {m : Str} (h : m = "shared" ∨ m = "alone" ∨ m = "rising") (L : List O) : ∃ b, oNe (.str m) (.str "shared") L = some (.bl b, L) := by
  rcases h with rfl | rfl | rfl
  · exact ⟨_, neS (by decide +kernel) (by decide +kernel)⟩
  · exact ⟨_, neS (by decide +kernel) (by decide +kernel)⟩
  · exact ⟨_, neS (by decide +kernel) (by decide +kernel)⟩
def Takes (d : D) : Prop := ∃ (ds : List D) (h : Int), d = .tup [.tup ds, .int h] ∧ (∀ e ∈ ds, Tk e) ∧ 1 ≤ ds.length ∧ ds.length ≤ 5 ∧ 0 ≤ h ∧ h < 10
abbrev E11 (a0 a1 a2 a3 a4 a5 a6 a7 a8 a9 a10 : Option D) : En := [a0, a1, a2, a3, a4, a5, a6, a7, a8, a9, a10]
theorem Ftakes {o : O} {k : Int} {many : Nat} (h : BagI k o) (hk : 20 ≤ k) (m1 : 1 ≤ many) (m5 : many ≤ 5) : Wp (Fulaw_takes [.ref 0, .int (many : Int)] [o]) (fun d L' => Takes d ∧ refsD d = [] ∧ Bag 0 (k - 20) L') noX := by
  refine wp_runF rfl ?_
  show WpS (m_law_takes (E11 (some (.ref 0)) (some (.int (many : Int))) none none none none none none none none none) [o]) _ _ _ _ _
  unfold m_law_takes
  o_readsAll
  have hb : Bag 0 k (([o] ++ [O.lst (rngD 0 (many : Int).toNat)]) ++ [O.lst []]) := ⟨o, rfl, h⟩
  refine ⟨_, _, rfl, ?_⟩
  o_readsAll
  rw [show (if (many : Int) < 5 then (many : Int) else 5) = many by split <;> omega]
  refine wp_of (take_wp hb (by omega) (by omega) (by omega)) ?_
  rintro _ L1 ⟨n, rfl, n0, n1, d1⟩
  o_readsAll
  refine wp_of (take_wp d1.bag (by omega) (by omega) (by omega)) ?_
  rintro _ L2 ⟨h2, rfl, h20, h21, d2⟩
  o_readsAll
  refine wp_of (of_wp (d2.bag.app (X := [O.lst [.int 0, .int 0, .int h2]])) (by omega) at_end (by have := d2.bag.lt; omega) (Nat.le_of_ble_eq_true rfl) (Nat.le_of_ble_eq_true rfl)) ?_
  rintro paces L3 ⟨hp, d3⟩
  obtain ⟨hops, rfl, hp0, hp1⟩ : ∃ i : Int, paces = .int i ∧ 0 ≤ i ∧ i < 5 := by
    simp only [List.mem_cons, List.not_mem_nil, or_false] at hp
    rcases hp with rfl | rfl | rfl
    · exact ⟨_, rfl, by omega, by omega⟩
    · exact ⟨_, rfl, by omega, by omega⟩
    · exact ⟨_, rfl, by omega, by omega⟩
  o_readsAll
  have g1 : L3[1]? = some (.lst (rngD 0 (many : Int).toNat)) := d3.grow _ _ (by decide) (ap (d2.grow _ _ (by decide) (d1.grow _ _ (by decide) rfl)))
  have g2 : L3[2]? = some (.lst []) := d3.grow _ _ (by decide) (ap (d2.grow _ _ (by decide) (d1.grow _ _ (by decide) rfl)))
  refine wp_loop0 (fun i ε L => ∃ a6 a7 a8 a9 a10 left ds, ε = E11 (some (.ref 0)) (some (.int (many : Int))) (some (.ref 1)) (some (.ref 2)) (some (.int (1 + n))) (some (.int hops)) a6 a7 a8 a9 a10 ∧ L[1]? = some (.lst left) ∧ (∀ e ∈ left, ∃ p : Int, e = .int p ∧ 0 ≤ p ∧ p < 1000) ∧ left.length + i = many ∧ L[2]? = some (.lst ds) ∧ ds.length = i ∧ (∀ e ∈ ds, Tk e) ∧ Bag 0 (k - 3 - 3 * i) L) (fun _ _ _ _ => rfl) ⟨none, none, none, none, none, rngD 0 (many : Int).toNat, [], rfl, g1, ?_, ?_, g2, rfl, by simp, ?_⟩ ?_ ?_
  · intro e he
    obtain ⟨j, hj⟩ := List.getElem?_of_mem he
    obtain ⟨rfl, hj2⟩ := rngD_get hj
    exact ⟨_, rfl, by omega, by omega⟩
  · rw [rngD_len]
    omega
  · exact d3.bag.less (by omega) (by omega)
  · rintro i d ε L hd ⟨a6, a7, a8, a9, a10, left, ds, rfl, hl, hle, hli, hds, hi, hp, hb⟩
    obtain ⟨rfl, hn⟩ := rngD_get hd
    refine ⟨_, rfl, ?_⟩
    refine wp_seq_cut (fun ε L => ∃ (p : Int) (left2 : List D), ε = E11 (some (.ref 0)) (some (.int (many : Int))) (some (.ref 1)) (some (.ref 2)) (some (.int (1 + n))) (some (.int hops)) (some (.int (0 + (i : Int)))) (some (.int p)) a8 a9 a10 ∧ 0 ≤ p ∧ p < 1000 ∧ L[1]? = some (.lst left2) ∧ (∀ e ∈ left2, ∃ p : Int, e = .int p ∧ 0 ≤ p ∧ p < 1000) ∧ left2.length + (i + 1) = many ∧ L[2]? = some (.lst ds) ∧ Bag 0 (k - 3 - 3 * i - 1) L) ?_ ?_
    · o_shape
      refine ⟨isLst_at hl, ?_⟩
      o_shape
      refine wp_of (take_wp hb (by omega) (by omega) (by omega)) ?_
      rintro _ L4 ⟨r, rfl, r0, r1, d4⟩
      o_shape
      obtain ⟨x, hx⟩ : ∃ x, left[r.toNat]? = some x := ⟨_, List.getElem?_eq_getElem (by omega)⟩
      obtain ⟨p, rfl, p0, p1⟩ := hle x (List.mem_of_getElem? hx)
      have h14 := d4.grow _ _ (by decide) hl
      refine wpo (pop_ok h14 r0 (by omega) hx) ?_
      refine ⟨p, _, rfl, p0, p1, set_self h14, fun e he => hle e (List.mem_of_mem_eraseIdx he), ?_, set_other (d4.grow _ _ (by decide) hds) (by decide), d4.bag.put (by decide)⟩
      rw [List.length_eraseIdx]
      split <;> omega
    rintro ε L4 ⟨p, left2, rfl, p0, p1, hl2, hle2, hli2, hds2, hb2⟩
    refine wp_seq ?_
    o_shape
    refine wp_seq_cut (fun ε L => ∃ (w : Str) (b : Bool), ε = E11 (some (.ref 0)) (some (.int (many : Int))) (some (.ref 1)) (some (.ref 2)) (some (.int (1 + n))) (some (.int hops)) (some (.int (0 + (i : Int)))) (some (.int p)) (some (.bl b)) (some (.str w)) a10 ∧ (w = "take" ∨ w = "leap" ∨ w = "try") ∧ L[1]? = some (.lst left2) ∧ L[2]? = some (.lst ds) ∧ Bag 0 (k - 3 - 3 * i - 2) L) ?_ ?_
    · have fin : ∀ (L5 : List O) (ws : List Str), L5 = L4 ++ [O.lst (ws.map D.str)] → (∀ w ∈ ws, w = "take" ∨ w = "leap" ∨ w = "try") → 0 < ws.length → ws.length ≤ 10 → Wp (Gulaw_of [.ref 0, .ref L4.length] L5) (fun d L => ∃ w : Str, d = .str w ∧ (w = "take" ∨ w = "leap" ∨ w = "try") ∧ L[1]? = some (.lst left2) ∧ L[2]? = some (.lst ds) ∧ Bag 0 (k - 3 - 3 * i - 2) L) noX := by
        rintro L5 ws rfl hw l0 l1
        refine wp_of (of_wp hb2.app (by omega) at_end (by have := hb2.lt; omega) (by simpa using l0) (by simp; omega)) ?_
        rintro d L6 ⟨hd, d6⟩
        obtain ⟨w, hw2, rfl⟩ := List.mem_map.mp hd
        exact ⟨w, rfl, hw w hw2, d6.grow _ _ (by decide) (ap hl2), d6.grow _ _ (by decide) (ap hds2), d6.bag.less (by omega) (by omega)⟩
      o_shape
      refine qif (fun _ => ?_) (fun _ => ?_)
      · o_shape
        refine wp_of (fin _ ["take", "take", "take", "take", "leap"] rfl (by simp) (by decide) (by decide)) ?_
        rintro _ L6 ⟨w, rfl, q⟩
        exact ⟨w, _, rfl, q⟩
      · o_shape
        refine wp_of (fin _ ["take", "take", "take", "take", "try"] rfl (by simp) (by decide) (by decide)) ?_
        rintro _ L6 ⟨w, rfl, q⟩
        exact ⟨w, _, rfl, q⟩
    rintro ε L5 ⟨w, b, rfl, hw, hl3, hds3, hb3⟩
    refine wp_seq ?_
    o_shape
    refine wp_seq_cut (fun ε L => ∃ (ms : List Str), ε = E11 (some (.ref 0)) (some (.int (many : Int))) (some (.ref 1)) (some (.ref 2)) (some (.int (1 + n))) (some (.int hops)) (some (.int (0 + (i : Int)))) (some (.int p)) (some (.bl b)) (some (.str w)) (some (.ref L5.length)) ∧ (∀ m ∈ ms, m = "shared" ∨ m = "alone" ∨ m = "rising") ∧ 0 < ms.length ∧ ms.length ≤ 10 ∧ L[L5.length]? = some (.lst (ms.map D.str)) ∧ L[1]? = some (.lst left2) ∧ L[2]? = some (.lst ds) ∧ Bag 0 (k - 3 - 3 * i - 2) L) ?_ ?_
    · have no : ∃ (ms : List Str), E11 (some (.ref 0)) (some (.int (many : Int))) (some (.ref 1)) (some (.ref 2)) (some (.int (1 + n))) (some (.int hops)) (some (.int (0 + (i : Int)))) (some (.int p)) (some (.bl b)) (some (.str w)) (some (.ref L5.length)) = E11 (some (.ref 0)) (some (.int (many : Int))) (some (.ref 1)) (some (.ref 2)) (some (.int (1 + n))) (some (.int hops)) (some (.int (0 + (i : Int)))) (some (.int p)) (some (.bl b)) (some (.str w)) (some (.ref L5.length)) ∧ (∀ m ∈ ms, m = "shared" ∨ m = "alone" ∨ m = "rising") ∧ 0 < ms.length ∧ ms.length ≤ 10 ∧ (L5 ++ [O.lst [.str "shared", .str "alone", .str "alone"]])[L5.length]? = some (.lst (ms.map D.str)) ∧ (L5 ++ [O.lst [.str "shared", .str "alone", .str "alone"]])[1]? = some (.lst left2) ∧ (L5 ++ [O.lst [.str "shared", .str "alone", .str "alone"]])[2]? = some (.lst ds) ∧ Bag 0 (k - 3 - 3 * i - 2) (L5 ++ [O.lst [.str "shared", .str "alone", .str "alone"]]) :=
        ⟨["shared", "alone", "alone"], rfl, by simp, by decide, by decide, at_end, ap hl3, ap hds3, hb3.app⟩
      o_shape
      refine qif_dec (fun h0 => ?_) (fun _ => ?_)
      · o_shape
        refine qif (fun _ => ?_) (fun _ => ?_)
        · o_shape
          obtain ⟨ds0, y, rfl⟩ : ∃ ds0 y, ds = ds0 ++ [y] := ⟨_, _, (List.dropLast_concat_getLast (by rintro rfl; simp at hi; omega)).symm⟩
          obtain ⟨w1, m1, p1', rfl, _, hm1, _⟩ := hp y (by simp)
          refine wpo_idxL (ap hds3) at_last ?_
          o_shape
          obtain ⟨b2, e2⟩ := ne_shared hm1 (L5 ++ [O.lst [.str "shared", .str "alone", .str "alone"]])
          refine wpo e2 ?_
          o_shape
          cases b2 with
          | false => exact no
          | true =>
            o_shape
            refine ⟨isLst_at at_end, ?_⟩
            o_shape
            refine wpo (app_ok at_end (by decide)) ?_
            refine ⟨["shared", "alone", "alone", "rising"], rfl, by simp, by decide, by decide, set_self at_end, set_other (ap hl3) (by have := lt_of hl3; omega), set_other (ap hds3) (by have := lt_of hds3; omega), hb3.app.put (by have := hb3.lt; omega)⟩
        · o_shape
          exact no
      · o_shape
        exact no
    rintro ε L6 ⟨ms, rfl, hms, ms0, ms1, h6, hl4, hds4, hb4⟩
    o_shape
    refine ⟨isLst_at hds4, ?_⟩
    o_shape
    refine wp_of (of_wp hb4 (by omega) h6 (by have := hb3.lt; omega) (by simpa using ms0) (by simp; omega)) ?_
    rintro d L7 ⟨hd7, d7⟩
    obtain ⟨m, hm2, rfl⟩ := List.mem_map.mp hd7
    o_shape
    have h27 := d7.grow _ _ (by decide) hds4
    refine wpo (app_ok h27 (by unfold most; omega)) ?_
    refine ⟨_, _, _, _, _, left2, ds ++ [.tup [.str w, .int p, .str m]], rfl, set_other (d7.grow _ _ (by decide) hl4) (by decide), hle2, hli2, set_self h27, by simp [hi], ?_, (d7.bag.put (by decide)).less (by omega) (by omega)⟩
    intro e he
    rcases List.mem_append.mp he with he | he
    · exact hp e he
    · rcases List.mem_singleton.mp he with rfl
      exact ⟨w, m, p, rfl, hw, hms m hm2, p0, p1⟩
  · rintro ε L ⟨a6, a7, a8, a9, a10, left, ds, rfl, hl, hle, hli, hds, hi, hp, hb⟩
    have hi2 : ds.length = (1 + n).toNat := by rw [hi]; exact rngD_len _ _
    rw [show (Src.mk (rngD 0 (1 + n).toNat) none).ds.length = (1 + n).toNat from rngD_len _ _] at hb
    o_shape
    refine wpo (show cTuple [.ref 2] L = some (.tup ds, L) by simp [cTuple, seqD, hds]) ?_
    o_shape
    refine ⟨⟨ds, hops, rfl, hp, by omega, by omega, hp0, by omega⟩, ?_, hb.less (by omega) (by omega)⟩
    show refsDs ds ++ [] = []
    rw [refs_all fun e he => (hp e he).pl.refs]
    rfl
/-! parts, any value, with another item -/
def Parts (d : D) : Prop := ∃ (ps ts : List D) (h : Int), d = .tup [.tup ps, .tup ts, .int h] ∧ (∀ e ∈ ps, Pl e) ∧ ps.length ≤ 4 ∧ (∀ e ∈ ts, Tk e) ∧ 1 ≤ ts.length ∧ ts.length ≤ 5 ∧ 0 ≤ h ∧ h < 10
theorem Gpoints {nb : Nat} {k : Int} {L : List O} (h : Bag nb k L) (hk : 20 ≤ k) : Wp (Gulaw_points [.ref nb, .int 4] L) (fun d L' => (∃ ds, d = .tup ds ∧ (∀ e ∈ ds, Pl e) ∧ ds.length ≤ 4) ∧ Drew nb (k - 20) L L') noX := lrun_wp rfl h fun o ho => Fpoints ho hk
theorem Gtakes {nb : Nat} {k : Int} {L : List O} {many : Nat} (h : Bag nb k L) (hk : 20 ≤ k) (m1 : 1 ≤ many) (m5 : many ≤ 5) : Wp (Gulaw_takes [.ref nb, .int (many : Int)] L) (fun d L' => Takes d ∧ Drew nb (k - 20) L L') noX := lrun_wp rfl h fun o ho => Ftakes ho hk m1 m5
theorem Parts.refs {d : D} (h : Parts d) : refsD d = [] := by
  obtain ⟨ps, ts, h, rfl, a, b, c, _⟩ := h
  show refsDs ps ++ (refsDs ts ++ ([] ++ [])) = []
  rw [refs_all fun e he => (a e he).refs, refs_all fun e he => (c e he).pl.refs]
  rfl
theorem Fparts {o : O} {k : Int} (h : BagI k o) (hk : 40 ≤ k) : Wp (Fulaw_parts [.ref 0] [o]) (fun d L' => Parts d ∧ refsD d = [] ∧ Bag 0 (k - 40) L') noX := by
  refine wp_runF rfl ?_
  show WpS (m_law_parts [some (.ref 0), none, none, none] [o]) _ _ _ _ _
  unfold m_law_parts
  o_readsAll
  refine wp_of (Gpoints (k := k) ⟨o, rfl, h⟩ (by omega)) ?_
  rintro _ L1 ⟨⟨ps, rfl, hp, hl⟩, d1⟩
  o_readsAll
  refine wp_of (Gtakes (many := ps.length + 1) d1.bag (by omega) (by omega) (by omega)) ?_
  rintro _ L2 ⟨⟨ts, h, rfl, ht, t1, t5, h0, h1⟩, d2⟩
  o_readsAll
  have q : Parts (.tup [.tup ps, .tup ts, .int h]) := ⟨ps, ts, h, rfl, hp, hl, ht, t1, t5, h0, h1⟩
  exact ⟨q, q.refs, d2.bag.less (by omega) (by omega)⟩
theorem Gparts {nb : Nat} {k : Int} {L : List O} (h : Bag nb k L) (hk : 40 ≤ k) : Wp (Gulaw_parts [.ref nb] L) (fun d L' => Parts d ∧ Drew nb (k - 40) L L') noX := lrun_wp rfl h fun o ho => Fparts ho hk
/-- a tuple with another item -/
theorem cut_from {xs : List D} {i : Nat} (h : i ≤ xs.length) : cutD xs (some (i : Int)) none = xs.drop i := by
  unfold cutD
  have h1 : HT.sIx xs.length xs.length none = xs.length := rfl
  have h2 : HT.sIx xs.length 0 (some (i : Int)) = i := by
    rw [HT.sIx_nat]
    omega
  rw [h1, h2]
  exact List.take_of_length_le (by simp)
theorem addL {L : List O} {n m : Nat} {xs ys : List D} (h : L[n]? = some (.lst xs)) (h2 : L[m]? = some (.lst ys)) (hl : xs.length + ys.length ≤ 1000) : oAdd (.ref n) (.ref m) L = some (.ref L.length, L ++ [.lst (xs ++ ys)]) := by
  unfold oAdd
  simp only [h, h2]
  rw [if_pos (Nat.le_trans hl (by decide))]
theorem addT {L : List O} {xs ys : List D} (hl : xs.length + ys.length ≤ 1000) : oAdd (.tup xs) (.tup ys) L = some (.tup (xs ++ ys), L) := by
  unfold oAdd
  exact if_pos (Nat.le_trans hl (by decide))
theorem with_wp {xs : List D} {y : D} {i : Nat} {L : List O} (hi : i < xs.length) (hl : xs.length ≤ 500) : Wp (Gulaw_with [.tup xs, .int (i : Int), y] L) (fun d L' => d = .tup (xs.take i ++ [y] ++ xs.drop (i + 1)) ∧ L' = L) noX := by
  show Wp (Fulaw_with _ _) _ _
  refine wp_runF rfl ?_
  show WpS (m_law_with [some (.tup xs), some (.int (i : Int)), some y] L) _ _ _ _ _
  unfold m_law_with
  o_shape
  rw [cut_to (by omega)]
  refine wpo (addT (by simp; omega)) ?_
  o_shape
  rw [show ((i : Int) + 1) = ((i + 1 : Nat) : Int) by omega, cut_from (by omega)]
  refine wpo (addT (by simp; omega)) ?_
  exact ⟨rfl, rfl⟩
def leafB : D → Bool
  | .non => true
  | .bl _ => true
  | .int i => decide (i.natAbs < 2 ^ 90)
  | .str s => (PyData.str s).canLay0 && (PyData.str s).showable && decide ((PyData.str s).shown.length ≤ 100)
  | _ => false
theorem leaf_of {d : D} (h : leafB d = true) : Leaf d := by
  cases d with
  | non => exact .non
  | bl b => exact .bl b
  | int i => exact .int (of_decide_eq_true h)
  | str s => exact leaf_str h
  | _ => cases h
def itmB : D → Bool
  | .tup ds => (ds.all leafB && decide (ds.length ≤ 3)) || beqDs ds [.tup [.str "parent"]]
  | d => leafB d
theorem itm_of {nb : Nat} {L : List O} {d : D} (h : itmB d = true) : Itm nb L d := by
  cases d with
  | tup ds =>
    simp only [itmB, Bool.or_eq_true, Bool.and_eq_true, decide_eq_true_eq, List.all_eq_true] at h
    rcases h with h | h
    · exact .tup (fun d hd => leaf_of (h.1 d hd)) h.2
    · have : beqD (.tup ds) (.tup [.tup [.str "parent"]]) = true := h
      rw [beqD_eq _ _ this]
      exact .two
  | _ => exact .leaf (leaf_of h)
/-- a list of items, made new -/
def Lit (nb : Nat) (k : Int) (m : Nat) (L : List O) (d : D) (L' : List O) : Prop := ∃ n xs, d = .ref n ∧ n ≠ nb ∧ L'[n]? = some (.lst xs) ∧ (∀ x ∈ xs, Itm nb L' x) ∧ 0 < xs.length ∧ xs.length ≤ m ∧ Grow nb L L' ∧ Bag nb k L'
theorem lit_cat {nb m m2 : Nat} {k : Int} {L0 L1 L2 : List O} {n : Nat} {xs : List D} {d : D} (h0 : n ≠ nb) (h1 : L1[n]? = some (.lst xs)) (h2 : ∀ x ∈ xs, Itm nb L1 x) (h3 : xs.length ≤ m) (hg : Grow nb L0 L1) (h : Lit nb k m2 L1 d L2) (hm : m + m2 ≤ 1000) {Q : D → List O → Prop} (q : ∀ d L3, Lit nb k (m + m2) L0 d L3 → Q d L3) : WpO (oAdd (.ref n) d L2) Q := by
  obtain ⟨n2, ys, rfl, a, b, c, e, f, g, bg⟩ := h
  refine wpo (addL (g _ _ h0 h1) b (by omega)) ?_
  refine q _ _ ⟨_, _, rfl, by have := bg.lt; omega, at_end, ?_, by simp; omega, by simp; omega, hg.trans (g.trans .app), bg.app⟩
  intro x hx
  rcases List.mem_append.mp hx with hx | hx
  · exact ((h2 x hx).mono g).mono .app
  · exact (c x hx).mono .app
theorem addL_any {n : Nat} {d : D} {L : List O} : oAdd (.ref n) d L = oAdd (.ref n) d L := rfl
def anyA : ME := mLst (mCons (mC .non) (mCons (mC (.bl true)) (mCons (mC (.bl false)) (mCons (mC (.int 0)) (mCons (mOp1 oNeg (mC (.int 1))) (mCons (mC (.int 5)) (mCons (mOp2 oSub (mOp2 oPow (mC (.int 10)) (mC (.int 20))) (mC (.int 1))) (mCons (mC (.str "")) (mCons (mC (.str "child")) (mCons (mC (.str "parent")) (mCons (mC (.str "take")) (mCons (mC (.str "shared")) (mCons (mLst mNil) (mCons (mTup mNil) (mCons mDic0 mNil)))))))))))))))
def anyB : ME := mLst (mCons (mTup (mCons (mC (.str "parent")) mNil)) (mCons (mTup (mCons (mC (.str "parent")) (mCons (mC (.int 0)) mNil))) (mCons (mLst (mCons (mC (.str "parent")) mNil)) (mCons (mTup (mCons (mC (.str "child")) (mCons (mC (.bl true)) mNil))) (mCons (mTup (mCons (mC (.str "child")) (mCons (mC (.str "0")) mNil))) (mCons (mTup (mCons (mC (.str "child")) (mCons (mOp1 oNeg (mC (.int 1))) mNil))) (mCons (mTup (mCons (mC (.str "child")) mNil)) mNil)))))))
def anyC : ME := mLst (mCons (mTup (mCons (mC (.str "take")) (mCons (mC (.int 0)) (mCons (mC (.str "alone")) mNil)))) (mCons (mTup (mCons (mC (.str "take")) (mCons (mC (.int 0)) mNil))) (mCons (mLst (mCons (mC (.str "take")) (mCons (mC (.int 0)) (mCons (mC (.str "alone")) mNil)))) (mCons (mTup (mCons (mC (.str "take")) (mCons (mC (.bl true)) (mCons (mC (.str "alone")) mNil)))) (mCons (mTup (mCons (mC (.int 1)) (mCons (mC (.int 2)) (mCons (mC (.int 3)) mNil)))) mNil)))))
def anyD : ME := mLst (mCons (mTup (mCons (mC (.str "hop")) (mCons (mC (.int 0)) (mCons (mC (.str "alone")) mNil)))) (mCons (mTup (mCons (mC (.str "take")) (mCons (mC (.int 9)) (mCons (mC (.str "shared")) mNil)))) (mCons (mTup (mCons (mC (.str "try")) (mCons (mC (.int 0)) (mCons (mC (.str "Alone")) mNil)))) (mCons (mTup (mCons (mC (.str "leap")) (mCons (mC (.int 0)) (mCons (mC (.str "alone")) mNil)))) mNil))))
def anyE : ME := mLst (mCons (mTup (mCons (mTup (mCons (mC (.str "parent")) mNil)) mNil)) mNil)
theorem any_eq : m_law_any = mSeq (mSet 1 anyA) (mSeq (mSet 1 (mOp2 oAdd (mVar 1) anyB)) (mSeq (mSet 1 (mOp2 oAdd (mVar 1) anyC)) (mSeq (mSet 1 (mOp2 oAdd (mVar 1) anyD)) (mRet (mCall Gulaw_of (mCons (mVar 0) (mCons (mOp2 oAdd (mVar 1) anyE) mNil))))))) := rfl
theorem leaf_nil {P : D → Prop} : ∀ x ∈ ([] : List D), P x := fun _ h => nomatch h
theorem anyA_wp {nb : Nat} {k : Int} {L : List O} {ε : En} (h : Bag nb k L) : Wp (anyA ε L) (Lit nb k 15 L) noX := by
  have hlt := h.lt
  unfold anyA
  o_shape
  refine ⟨_, _, rfl, by simp only [List.length_append, List.length_cons, List.length_nil]; omega, at_end, ?_, Nat.le_of_ble_eq_true rfl, Nat.le_of_ble_eq_true rfl, (Grow.app.trans .app).trans .app, h.app.app.app⟩
  have r1 : Itm nb (L ++ [O.lst []] ++ [O.dic false []]) (.ref L.length) := .lst (by omega) (ap at_end) leaf_nil (by decide)
  have r2 : Itm nb (L ++ [O.lst []] ++ [O.dic false []]) (.ref (L ++ [O.lst []]).length) := .dic (by simp only [List.length_append, List.length_cons, List.length_nil]; omega) at_end
  intro x hx
  refine Itm.mono (L := L ++ [O.lst []] ++ [O.dic false []]) ?_ .app
  revert x
  repeat' first
    | exact leaf_nil
    | exact r1
    | exact r2
    | exact itm_of (by decide +kernel)
    | refine List.forall_mem_cons.mpr ⟨?_, ?_⟩
theorem anyB_wp {nb : Nat} {k : Int} {L : List O} {ε : En} (h : Bag nb k L) : Wp (anyB ε L) (Lit nb k 7 L) noX := by
  have hlt := h.lt
  unfold anyB
  o_shape
  refine ⟨_, _, rfl, by simp only [List.length_append, List.length_cons, List.length_nil]; omega, at_end, ?_, Nat.le_of_ble_eq_true rfl, Nat.le_of_ble_eq_true rfl, Grow.app.trans .app, h.app.app⟩
  have r1 : Itm nb (L ++ [O.lst [D.str "parent"]]) (.ref L.length) := .lst (by omega) at_end (by intro d hd; rcases List.mem_singleton.mp hd with rfl; exact leaf_parent) (by decide)
  intro x hx
  refine Itm.mono (L := L ++ [O.lst [D.str "parent"]]) ?_ .app
  revert x
  repeat' first
    | exact leaf_nil
    | exact r1
    | exact itm_of (by decide +kernel)
    | refine List.forall_mem_cons.mpr ⟨?_, ?_⟩
theorem anyC_wp {nb : Nat} {k : Int} {L : List O} {ε : En} (h : Bag nb k L) : Wp (anyC ε L) (Lit nb k 5 L) noX := by
  have hlt := h.lt
  unfold anyC
  o_shape
  refine ⟨_, _, rfl, by simp only [List.length_append, List.length_cons, List.length_nil]; omega, at_end, ?_, Nat.le_of_ble_eq_true rfl, Nat.le_of_ble_eq_true rfl, Grow.app.trans .app, h.app.app⟩
  have r1 : Itm nb (L ++ [O.lst [D.str "take", D.int 0, D.str "alone"]]) (.ref L.length) := .lst (by omega) at_end (by
    repeat' first
      | exact leaf_nil
      | exact leaf_of (by decide +kernel)
      | refine List.forall_mem_cons.mpr ⟨?_, ?_⟩) (by decide)
  intro x hx
  refine Itm.mono (L := L ++ [O.lst [D.str "take", D.int 0, D.str "alone"]]) ?_ .app
  revert x
  repeat' first
    | exact leaf_nil
    | exact r1
    | exact itm_of (by decide +kernel)
    | refine List.forall_mem_cons.mpr ⟨?_, ?_⟩
theorem anyD_wp {nb : Nat} {k : Int} {L : List O} {ε : En} (h : Bag nb k L) : Wp (anyD ε L) (Lit nb k 4 L) noX := by
  have hlt := h.lt
  unfold anyD
  o_shape
  refine ⟨_, _, rfl, by omega, at_end, ?_, Nat.le_of_ble_eq_true rfl, Nat.le_of_ble_eq_true rfl, .app, h.app⟩
  repeat' first
    | exact leaf_nil
    | exact itm_of (by decide +kernel)
    | refine List.forall_mem_cons.mpr ⟨?_, ?_⟩
theorem anyE_wp {nb : Nat} {k : Int} {L : List O} {ε : En} (h : Bag nb k L) : Wp (anyE ε L) (Lit nb k 1 L) noX := by
  have hlt := h.lt
  unfold anyE
  o_shape
  refine ⟨_, _, rfl, by omega, at_end, ?_, Nat.le_of_ble_eq_true rfl, Nat.le_of_ble_eq_true rfl, .app, h.app⟩
  repeat' first
    | exact leaf_nil
    | exact itm_of (by decide +kernel)
    | refine List.forall_mem_cons.mpr ⟨?_, ?_⟩
theorem any_wp {nb : Nat} {k : Int} {L : List O} (h : Bag nb k L) (hk : 1 ≤ k) : Wp (Gulaw_any [.ref nb] L) (fun d L' => Itm nb L' d ∧ Bag nb (k - 1) L' ∧ Grow nb L L') noX := by
  show Wp (Fulaw_any _ _) _ _
  refine wp_runF rfl ?_
  show WpS (m_law_any [some (.ref nb), none] L) _ _ _ _ _
  rw [any_eq]
  refine wp_seq (wp_set (wp_of (anyA_wp h) ?_))
  rintro _ L1 ⟨n1, x1, rfl, a1, b1, c1, d1, e1, g1, B1⟩
  o_readsAll
  refine wp_of (anyB_wp B1) fun d L2 q2 => lit_cat a1 b1 c1 e1 g1 q2 (by decide) ?_
  rintro _ L3 ⟨n3, x3, rfl, a3, b3, c3, d3, e3, g3, B3⟩
  o_readsAll
  refine wp_of (anyC_wp B3) fun d L2 q2 => lit_cat a3 b3 c3 e3 g3 q2 (by decide) ?_
  rintro _ L4 ⟨n4, x4, rfl, a4, b4, c4, d4, e4, g4, B4⟩
  o_readsAll
  refine wp_of (anyD_wp B4) fun d L2 q2 => lit_cat a4 b4 c4 e4 g4 q2 (by decide) ?_
  rintro _ L5 ⟨n5, x5, rfl, a5, b5, c5, d5, e5, g5, B5⟩
  o_readsAll
  refine wp_of (anyE_wp B5) fun d L2 q2 => lit_cat a5 b5 c5 e5 g5 q2 (by decide) ?_
  rintro _ L6 ⟨n6, x6, rfl, a6, b6, c6, d6, e6, g6, B6⟩
  o_readsAll
  refine wp_of (of_wp B6 hk b6 a6 d6 (by omega)) ?_
  rintro d L7 ⟨hd, d7⟩
  exact ⟨(c6 d hd).mono d7.grow, d7.bag, g6.trans d7.grow⟩
/-! the parts spoilt -/
theorem oEqT0_int {a b : Int} {L : List O} : oEqT0 oEq (.int a) (.int b) L = some (.bl (decide (a = b)), L) := oEq_int
local macro_rules
  | `(tactic| o_reads) => `(tactic| with_reducible refine wpo oEqT0_int ?_)
def Is3 (d : D) : Prop := ∃ a b c, d = .tup [a, b, c]
abbrev E12 (a0 a1 a2 a3 a4 a5 a6 a7 a8 a9 a10 a11 : Option D) : En := [a0, a1, a2, a3, a4, a5, a6, a7, a8, a9, a10, a11]
def Spoilt (nb : Nat) (k : Int) (N M : Nat) (L : List O) (d : D) (L' : List O) : Prop := ∃ p t h, d = .tup [p, t, h] ∧ Whl nb L' N p ∧ Whl nb L' M t ∧ Leaf h ∧ Bag nb k L' ∧ Grow nb L L'
theorem Itm.three {nb : Nat} {L : List O} {a b c : D} (h : Itm nb L (.tup [a, b, c])) : Leaf a ∧ Leaf b ∧ Leaf c := by
  cases h with
  | leaf h => cases h
  | tup h _ => exact ⟨h _ (by simp), h _ (by simp), h _ (by simp)⟩
theorem itm3 {nb : Nat} {L : List O} {a b c : D} (ha : Leaf a) (hb : Leaf b) (hc : Leaf c) : Itm nb L (.tup [a, b, c]) := .tup (by
  intro d hd
  simp only [List.mem_cons, List.not_mem_nil, or_false] at hd
  rcases hd with rfl | rfl | rfl <;> assumption) (Nat.le_of_ble_eq_true rfl)
theorem mulT {xs : List D} {L : List O} (h : 0 < xs.length) (hl : xs.length ≤ 1000) : oMul (.tup xs) (.int 5) L = some (.tup (List.replicate 5 xs).flatten, L) := by
  have hne : xs ≠ [] := by rintro rfl; cases h
  show (if xs ≠ [] ∧ 2 ≤ (5 : Int) ∧ (5 : Int) ≤ 1000 ∧ xs.length ≤ 1000 then some (D.tup (List.replicate (5 : Int).toNat xs).flatten, L) else none) = _
  rw [if_pos ⟨hne, by decide, by decide, hl⟩]
  rfl
theorem atI_ex {xs : List D} {i : Int} (h0 : 0 ≤ i) (h1 : i < xs.length) : ∃ x, atI xs i = some x ∧ x ∈ xs := by
  obtain ⟨j, rfl⟩ : ∃ j : Nat, i = j := ⟨i.toNat, by omega⟩
  have hx : xs[j]? = some (xs[j]'(by omega)) := List.getElem?_eq_getElem (by omega)
  exact ⟨_, atI_get hx, List.mem_of_getElem? hx⟩
theorem atI_neg {xs : List D} (h : 0 < xs.length) : ∃ x, atI xs (-1) = some x ∧ x ∈ xs := by
  have : xs ≠ [] := by rintro rfl; cases h
  refine ⟨xs.getLast this, ?_, List.getLast_mem this⟩
  have e := List.dropLast_concat_getLast this
  generalize xs.getLast this = x at e
  rw [← e]
  exact at_last
theorem spoilt_wp {nb : Nat} {k : Int} {L : List O} {ps ts : List D} {h : Int} (hb : Bag nb k L) (hk : 6 ≤ k) (hp : ∀ e ∈ ps, Itm nb L e) (hpl : ps.length ≤ 20) (ht : ∀ e ∈ ts, Itm nb L e ∧ Is3 e) (t0 : 1 ≤ ts.length) (t1 : ts.length ≤ 25) (h0 : 0 ≤ h) (h1 : h < 10) :
    Wp (Gulaw_spoilt [.ref nb, .tup ps, .tup ts, .int h] L) (Spoilt nb (k - 6) (ps.length + 5) (5 * ts.length) L) noX := by
  have hP : ∀ L', Grow nb L L' → Whl nb L' (ps.length + 5) (.tup ps) := fun L' g => .tup (fun e he => (hp e he).mono g) (by omega)
  have hT : ∀ L', Grow nb L L' → Whl nb L' (5 * ts.length) (.tup ts) := fun L' g => .tup (fun e he => (ht e he).1.mono g) (by omega)
  have hH : Leaf (.int h) := leaf_int h0 (by omega)
  have hlt := hb.lt
  show Wp (Fulaw_spoilt _ _) _ _
  refine wp_runF rfl ?_
  show WpS (m_law_spoilt (E12 (some (.ref nb)) (some (.tup ps)) (some (.tup ts)) (some (.int h)) none none none none none none none none) L) _ _ _ _ _
  unfold m_law_spoilt
  refine wp_seq ?_
  o_shape
  refine wp_of (take_wp hb (by omega) (by omega) (by omega)) ?_
  rintro _ L1 ⟨r, rfl, r0, r1, d1⟩
  have hlt1 := d1.bag.lt
  refine wp_seq ?_
  o_shape
  refine qif_dec (fun _ => ?_) (fun _ => ?_)
  · refine wp_seq ?_
    o_shape
    refine wpo (addT (by simp <;> omega)) ?_
    o_shape
    refine wp_of (any_wp d1.bag.app (by omega)) ?_
    rintro a L2 ⟨ia, B2, g2⟩
    o_shape
    refine wp_of (of_wp B2.app (by omega) at_end (by have := B2.lt; omega) (Nat.le_of_ble_eq_true rfl) (Nat.le_of_ble_eq_true rfl)) ?_
    rintro d L3 ⟨hd, d3⟩
    o_shape
    have gg : Grow nb L L3 := d1.grow.trans ((Grow.app.trans g2).trans (Grow.app.trans d3.grow))
    refine ⟨_, _, _, rfl, ?_, hT _ gg, hH, d3.bag.less (by omega) (by omega), gg⟩
    simp only [List.mem_cons, List.not_mem_nil, or_false] at hd
    rcases hd with rfl | rfl | rfl | rfl
    · refine .tup ?_ (by simp <;> omega)
      intro e he
      rcases List.mem_append.mp he with he | he
      · exact (hp e he).mono gg
      · have : e = .tup [.str "parent"] := by simpa using he
        subst this
        exact itm_of (by decide +kernel)
    · exact .lst (by omega) ((Grow.trans g2 (Grow.app.trans d3.grow)) _ _ (by omega) at_end) (fun e he => (hp e he).mono gg) (by omega)
    · exact .of (.leaf .non) (by omega)
    · exact .of (ia.mono (Grow.app.trans d3.grow)) (by omega)
  -- one item of the points
  have hwith : ∀ (xs : List D) (N : Nat) (i : Int) (y : D) (L2 L3 : List O), (∀ e ∈ xs, Itm nb L3 e) → Itm nb L3 y → 0 ≤ i → i < xs.length → xs.length ≤ N → xs.length ≤ 500 → Wp (Gulaw_with [.tup xs, .int i, y] L2) (fun d L4 => ∃ zs, d = .tup zs ∧ Whl nb L3 N (.tup zs) ∧ L4 = L2) noX := by
    intro xs N i y L2 L3 hx hy i0 i1 hN h5
    obtain ⟨j, rfl⟩ : ∃ j : Nat, i = j := ⟨i.toNat, by omega⟩
    refine wp_of (with_wp (by omega) h5) ?_
    rintro _ L4 ⟨rfl, rfl⟩
    refine ⟨_, rfl, .tup ?_ (by simp only [List.length_append, List.length_take, List.length_drop, List.length_cons, List.length_nil]; omega), rfl⟩
    intro e he
    rcases List.mem_append.mp he with he | he
    · rcases List.mem_append.mp he with he | he
      · exact hx e (List.mem_of_mem_take he)
      · rcases List.mem_singleton.mp he with rfl
        exact hy
    · exact hx e (List.mem_of_mem_drop he)
  refine wp_seq_cut (fun ε L' => ε = E12 (some (.ref nb)) (some (.tup ps)) (some (.tup ts)) (some (.int h)) (some (.int r)) none none none none none none none ∧ L' = L1) ?_ ?_
  · o_shape
    refine qif_dec (fun _ => ?_) (fun _ => ?_)
    · o_shape
      refine qif (fun hne => ?_) (fun _ => ?_)
      · have hne : 0 < ps.length := by
          cases ps with
          | nil => cases hne
          | cons a b => simp
        o_shape
        refine wp_of (take_wp d1.bag (by omega) (by omega) (by omega)) ?_
        rintro _ L2 ⟨i, rfl, i0, i1, d2⟩
        o_shape
        refine wp_of (any_wp d2.bag (by omega)) ?_
        rintro a L3 ⟨ia, B3, g3⟩
        have gg : Grow nb L L3 := d1.grow.trans (d2.grow.trans g3)
        o_shape
        refine wp_of (hwith ps (ps.length + 5) i a L3 L3 (fun e he => (hp e he).mono gg) ia i0 i1 (by omega) (by omega)) ?_
        rintro _ L4 ⟨zs, rfl, hz, rfl⟩
        o_shape
        exact ⟨_, _, _, rfl, hz, hT _ gg, hH, B3.less (by omega) (by omega), gg⟩
      · o_shape
        exact ⟨rfl, rfl⟩
    · o_shape
      exact ⟨rfl, rfl⟩
  rintro ε _ ⟨rfl, rfl⟩
  refine wp_seq ?_
  o_shape
  refine qif_dec (fun _ => ?_) (fun _ => ?_)
  · refine wp_seq ?_
    o_shape
    refine wp_of (take_wp d1.bag (by omega) (by omega) (by omega)) ?_
    rintro _ L2 ⟨i, rfl, i0, i1, d2⟩
    refine wp_seq ?_
    o_shape
    refine wp_of (take_wp d2.bag (by omega) (by omega) (by omega)) ?_
    rintro _ L3 ⟨j, rfl, j0, j1, d3⟩
    have gg : Grow nb L L3 := d1.grow.trans (d2.grow.trans d3.grow)
    obtain ⟨i, rfl⟩ : ∃ n : Nat, i = n := ⟨i.toNat, by omega⟩
    o_shape
    rw [cut_to (by omega)]
    refine wpo (addT (by simp <;> omega)) ?_
    o_shape
    rw [cut_from (by omega)]
    refine wpo (addT (by simp <;> omega)) ?_
    o_shape
    refine ⟨_, _, _, rfl, .tup ?_ (by simp only [List.length_append, List.length_take, List.length_drop, List.length_cons, List.length_nil]; omega), hT _ gg, hH, d3.bag.less (by omega) (by omega), gg⟩
    intro e he
    rcases List.mem_append.mp he with he | he
    · rcases List.mem_append.mp he with he | he
      · exact (hp e (List.mem_of_mem_take he)).mono gg
      · rcases List.mem_singleton.mp he with rfl
        exact .tup (by
          intro d hd
          simp only [List.mem_cons, List.not_mem_nil, or_false] at hd
          rcases hd with rfl | rfl
          · exact leaf_child
          · exact leaf_int (by omega) (by omega)) (Nat.le_of_ble_eq_true rfl)
    · exact (hp e (List.mem_of_mem_drop he)).mono gg
  refine wp_seq ?_
  o_shape
  refine qif_dec (fun _ => ?_) (fun _ => ?_)
  · refine wp_seq ?_
    o_shape
    refine wp_of (of_wp d1.bag.app (by omega) at_end (by omega) (Nat.le_of_ble_eq_true rfl) (Nat.le_of_ble_eq_true rfl)) ?_
    rintro d L3 ⟨hd, d3⟩
    have gg : Grow nb L L3 := d1.grow.trans (Grow.app.trans d3.grow)
    o_shape
    refine ⟨_, _, _, rfl, hP _ gg, hT _ gg, ?_, d3.bag.less (by omega) (by omega), gg⟩
    simp only [List.mem_cons, List.not_mem_nil, or_false] at hd
    rcases hd with rfl | rfl | rfl | rfl | rfl | rfl | rfl | rfl
    · exact leaf_of (by decide +kernel)
    · exact leaf_int (by omega) (by omega)
    · exact leaf_int (by omega) (by omega)
    · exact leaf_of (by decide +kernel)
    · exact leaf_of (by decide +kernel)
    · exact leaf_of (by decide +kernel)
    · exact leaf_of (by decide +kernel)
    · exact leaf_int (by omega) (by omega)
  refine wp_seq ?_
  o_shape
  refine qif_dec (fun _ => ?_) (fun _ => ?_)
  · refine wp_seq ?_
    o_shape
    refine wpo (addT (by omega)) ?_
    o_shape
    refine wpo (mulT (by omega) (by omega)) ?_
    o_shape
    refine wp_of (any_wp d1.bag.app (by omega)) ?_
    rintro a L2 ⟨ia, B2, g2⟩
    o_shape
    refine wp_of (of_wp B2.app (by omega) at_end (by have := B2.lt; omega) (Nat.le_of_ble_eq_true rfl) (Nat.le_of_ble_eq_true rfl)) ?_
    rintro d L3 ⟨hd, d3⟩
    o_shape
    have gg : Grow nb L L3 := d1.grow.trans ((Grow.app.trans g2).trans (Grow.app.trans d3.grow))
    refine ⟨_, _, _, rfl, hP _ gg, ?_, hH, d3.bag.less (by omega) (by omega), gg⟩
    simp only [List.mem_cons, List.not_mem_nil, or_false] at hd
    rcases hd with rfl | rfl | rfl | rfl | rfl | rfl
    · exact .tup leaf_nil (by simp)
    · exact .lst (by omega) ((Grow.trans g2 (Grow.app.trans d3.grow)) _ _ (by omega) at_end) (fun e he => (ht e he).1.mono gg) (by omega)
    · exact .of (.leaf .non) (by omega)
    · refine .tup ?_ (by simp only [List.length_append]; omega)
      intro e he
      rcases List.mem_append.mp he with he | he <;> exact (ht e he).1.mono gg
    · refine .tup ?_ (by simp; omega)
      intro e he
      obtain ⟨l, hl, hel⟩ := List.mem_flatten.mp he
      obtain ⟨_, rfl⟩ := List.mem_replicate.mp hl
      exact (ht e hel).1.mono gg
    · exact .of (ia.mono (Grow.app.trans d3.grow)) (by omega)
  refine wp_seq ?_
  o_shape
  refine wp_of (take_wp d1.bag (by omega) (by omega) (by omega)) ?_
  rintro _ L2 ⟨i, rfl, i0, i1, d2⟩
  have hlt2 := d2.bag.lt
  refine wp_seq ?_
  o_shape
  refine qif_dec (fun _ => ?_) (fun _ => ?_)
  · o_shape
    refine wp_of (any_wp d2.bag (by omega)) ?_
    rintro a L3 ⟨ia, B3, g3⟩
    have gg : Grow nb L L3 := d1.grow.trans (d2.grow.trans g3)
    o_shape
    refine wp_of (hwith ts (5 * ts.length) i a L3 L3 (fun e he => (ht e he).1.mono gg) ia i0 i1 (by omega) (by omega)) ?_
    rintro _ L4 ⟨zs, rfl, hz, rfl⟩
    o_shape
    exact ⟨_, _, _, rfl, hP _ gg, hz, hH, B3.less (by omega) (by omega), gg⟩
  obtain ⟨x, hx, hxm⟩ := atI_ex i0 i1
  obtain ⟨itx, a, b, c, rfl⟩ := ht x hxm
  obtain ⟨la, lb, lc⟩ := itx.three
  have hnew : ∀ (y : D) (L3 : List O), Itm nb L3 y → Drew nb (k - 6) L2 L3 ∨ (Bag nb (k - 6) L3 ∧ Grow nb L L3) → Wp (Gulaw_with [.tup ts, .int i, y] L3) (fun d L' => Spoilt nb (k - 6) (ps.length + 5) (5 * ts.length) L (.tup [.tup ps, d, .int h]) L') noX := by
    intro y L3 iy hh
    have gg : Grow nb L L3 := hh.elim (fun d => d1.grow.trans (d2.grow.trans d.grow)) (fun d => d.2)
    have bb : Bag nb (k - 6) L3 := hh.elim (fun d => d.bag) (fun d => d.1)
    refine wp_of (hwith ts (5 * ts.length) i y L3 L3 (fun e he => (ht e he).1.mono gg) iy i0 i1 (by omega) (by omega)) ?_
    rintro _ L4 ⟨zs, rfl, hz, rfl⟩
    exact ⟨_, _, _, rfl, hP _ gg, hz, hH, bb, gg⟩
  refine wp_seq ?_
  o_shape
  refine qif_dec (fun _ => ?_) (fun _ => ?_)
  · refine wp_seq ?_
    o_shape
    refine wp_of (of_wp d2.bag.app (by omega) at_end (by omega) (Nat.le_of_ble_eq_true rfl) (Nat.le_of_ble_eq_true rfl)) ?_
    rintro w L3 ⟨hw, d3⟩
    have lw : Leaf w := by
      simp only [List.mem_cons, List.not_mem_nil, or_false] at hw
      rcases hw with rfl | rfl | rfl | rfl | rfl <;> exact leaf_of (by decide +kernel)
    o_shape
    refine wpo_idxT hx ?_
    o_shape
    refine wp_of (hnew (.tup [w, b, c]) L3 (itm3 lw lb lc) (.inr ⟨d3.bag.less (by omega) (by omega), d1.grow.trans (d2.grow.trans (Grow.app.trans d3.grow))⟩)) ?_
    rintro d L4 q
    o_shape
    exact q
  refine wp_seq ?_
  o_shape
  refine qif_dec (fun _ => ?_) (fun _ => ?_)
  · refine wp_seq ?_
    o_shape
    refine wp_of (of_wp d2.bag.app (by omega) at_end (by omega) (Nat.le_of_ble_eq_true rfl) (Nat.le_of_ble_eq_true rfl)) ?_
    rintro w L3 ⟨hw, d3⟩
    have lw : Leaf w := by
      simp only [List.mem_cons, List.not_mem_nil, or_false] at hw
      rcases hw with rfl | rfl | rfl | rfl | rfl | rfl <;> exact leaf_of (by decide +kernel)
    o_shape
    refine wpo_idxT hx ?_
    o_shape
    refine wp_of (hnew (.tup [a, b, w]) L3 (itm3 la lb lw) (.inr ⟨d3.bag.less (by omega) (by omega), d1.grow.trans (d2.grow.trans (Grow.app.trans d3.grow))⟩)) ?_
    rintro d L4 q
    o_shape
    exact q
  refine wp_seq ?_
  o_shape
  obtain ⟨y0, hy0, my0⟩ := atI_ex (xs := ts) (i := 0) (by omega) (by omega)
  obtain ⟨it0, a0, b0, c0, rfl⟩ := ht y0 my0
  refine wpo_idxT hy0 ?_
  o_shape
  obtain ⟨y1, hy1, my1⟩ := atI_neg (xs := ts) (by omega)
  obtain ⟨it1, a1, b1, c1, rfl⟩ := ht y1 my1
  refine wpo_idxT hy1 ?_
  o_shape
  refine wp_of (of_wp d2.bag.app (by omega) at_end (by omega) (Nat.le_of_ble_eq_true rfl) (Nat.le_of_ble_eq_true rfl)) ?_
  rintro w L3 ⟨hw, d3⟩
  have lw : Leaf w := by
    simp only [List.mem_cons, List.not_mem_nil, or_false] at hw
    rcases hw with rfl | rfl | rfl | rfl | rfl | rfl | rfl | rfl
    · exact it0.three.2.1
    · exact it1.three.2.1
    · exact leaf_int (by omega) (by omega)
    · exact leaf_int (by omega) (by omega)
    · exact leaf_of (by decide +kernel)
    · exact leaf_of (by decide +kernel)
    · exact leaf_of (by decide +kernel)
    · exact leaf_of (by decide +kernel)
  o_shape
  refine wpo_idxT hx ?_
  o_shape
  refine wpo_idxT hx ?_
  o_shape
  refine wp_of (hnew (.tup [a, w, c]) L3 (itm3 la lw lc) (.inr ⟨d3.bag.less (by omega) (by omega), d1.grow.trans (d2.grow.trans (Grow.app.trans d3.grow))⟩)) ?_
  rintro d L4 q
  o_shape
  exact q
/-! whole? -/
def is3B : D → Bool
  | .tup ds => decide (ds.length = 3)
  | _ => false
theorem is3_of {d : D} (h : is3B d = true) : Is3 d := by
  cases d with
  | tup ds =>
    have hl : ds.length = 3 := of_decide_eq_true h
    match ds, hl with
    | [a, b, c], _ => exact ⟨a, b, c, rfl⟩
  | _ => cases h
theorem bls_all {α : Type} (f : α → Bool) : ∀ xs : List α, blsD (xs.map fun x => .bl (f x)) = some (xs.map f)
  | [] => rfl
  | x :: xs => by
    show blsD (.bl (f x) :: xs.map fun x => .bl (f x)) = _
    unfold blsD
    rw [bls_all f xs]
    rfl
def wholeB (p t : D) : Bool := match p, t with
  | .tup _, .tup ts => !ts.isEmpty && ts.all is3B
  | _, _ => false
theorem whole_wp {nb N M : Nat} {L : List O} {p t : D} (hp : Whl nb L N p) (ht : Whl nb L M t) (hM : M ≤ 900) : Wp (Gulaw_is_whole [p, t] L) (fun d L' => d = .bl (wholeB p t) ∧ ∃ X, L' = L ++ X) noX := by
  show Wp (Fulaw_is_whole _ _) _ _
  refine wp_runF rfl ?_
  show WpS (m_law_is_whole [some p, some t, none] L) _ _ _ _ _
  unfold m_law_is_whole
  refine wp_seq (wp_if (wp_orB (wp_notB (wp_tru (wp_eq (tupIs hp.pts rfl) ?_)))))
  o_shape
  cases hp with
  | itm a b =>
    have hf : isTup p = false := by
      cases p with
      | tup ds => exact absurd rfl (a ds)
      | _ => rfl
    rw [hf]
    o_shape
    refine ⟨?_, [], by simp⟩
    cases p with
    | tup ds => exact absurd rfl (a ds)
    | _ => rfl
  | lst _ _ _ _ => 
    o_shape
    exact ⟨rfl, [], by simp⟩
  | @tup ps a b =>
    o_shape
    refine wp_eq (tupIs ht.pts rfl) ?_
    o_shape
    cases ht with
    | itm a b =>
      have hf : isTup t = false := by
        cases t with
        | tup ds => exact absurd rfl (a ds)
        | _ => rfl
      rw [hf]
      o_shape
      refine ⟨?_, [], by simp⟩
      cases t with
      | tup ds => exact absurd rfl (a ds)
      | _ => rfl
    | lst _ _ _ _ =>
      o_shape
      exact ⟨rfl, [], by simp⟩
    | @tup ts a2 b2 =>
      o_shape
      refine qif (fun he => ?_) (fun he => ?_)
      · o_shape
        exact ⟨by simp [wholeB, he], [], by simp⟩
      · o_shape
        refine wp_iterT (wp_eq (a := .tup ts) (L := L) rfl ⟨ts, rfl, ?_⟩)
        have hit : ∀ e ∈ ts, ∀ x, It (L ++ [x]) e := fun e hm x => it_mono (fun n o h => ap h) (a2 e hm).it
        have hc := comp_at (α := D) (g := id) (p := fun _ => true) (f := fun d => .bl (is3B d)) (src := ⟨ts, none⟩) (t := gNm 2) (tt := mYes) (te := mAndV (mIsi (isiT .tup []) (mVar 2)) (mOp2 (oEqT0 oEq) (mFn cLen (mCons (mVar 2) mNil)) (mC (.int 3)))) (ε := [some (.tup ps), some (.tup ts), none]) (B := L) (fun _ => rfl) ts [] (by
          intro e hm x
          refine ⟨[some (.tup ps), some (.tup ts), some e], rfl, rfl, ?_⟩
          have i1 : mIsi (isiT .tup []) (mVar 2) [some (.tup ps), some (.tup ts), some e] (L ++ [x]) = .ok (.bl (isTup e)) (L ++ [x]) := isi_tup (hit e hm x) rfl
          unfold mAndV
          rw [i1]
          cases e with
          | tup ds =>
            show mOp2 (oEqT0 oEq) (mFn cLen (mCons (mVar 2) mNil)) (mC (.int 3)) [some (.tup ps), some (.tup ts), some (.tup ds)] (L ++ [x]) = _
            refine mop2_ok (x := .int ds.length) (y := .int 3) (L2 := L ++ [x]) rfl rfl ?_
            rw [oEqT0_int]
            simp only [is3B]
            congr 3
            exact decide_eq_decide.mpr (by omega)
          | _ => rfl) (by simp; omega)
        rw [List.map_id] at hc
        refine wp_eq hc ?_
        o_shape
        have hall : cAll [.ref L.length] (L ++ [O.lst ([] ++ (ts.filter fun _ => true).map fun d => .bl (is3B d))]) = some (.bl (ts.all is3B), L ++ [O.lst ([] ++ (ts.filter fun _ => true).map fun d => .bl (is3B d))]) := by
          unfold cAll
          have ht : ts.filter (fun _ => true) = ts := List.filter_eq_self.mpr fun _ _ => rfl
          simp only [at_end, List.nil_append, ht, bls_all, Option.map_some]
          congr 3
          simp [List.all_map]
        refine wpo hall ?_
        exact ⟨by simp [wholeB, he], _, rfl⟩
/-! the texts -/
theorem toPyS_mono {L L' : List O} (h : ∀ (n : Nat) (o : O), L[n]? = some o → L'[n]? = some o) : ∀ (n : Nat) (d : D) (p : PyData), toPyS L n d = some p → toPyS L' n d = some p
  | 0, d, p, e => by cases e
  | n + 1, d, p, e => by
    have all : ∀ (ds : List D) (ps : List PyData), optAll (toPyS L n) ds = some ps → optAll (toPyS L' n) ds = some ps := by
      intro ds
      induction ds with
      | nil => intro ps e; exact e
      | cons d ds ih =>
        intro ps e
        unfold optAll at e
        cases h1 : toPyS L n d with
        | none => rw [h1] at e; cases e
        | some q =>
          rw [h1] at e
          cases h2 : optAll (toPyS L n) ds with
          | none => rw [h2] at e; cases e
          | some qs =>
            rw [h2] at e
            cases e
            exact optAll_cons (toPyS_mono h n d q h1) (ih qs h2)
    cases d with
    | tup ds =>
      obtain ⟨ps, h1, rfl⟩ := Option.map_eq_some_iff.mp (show (optAll (toPyS L n) ds).map PyData.tuple = some p from e)
      show (optAll (toPyS L' n) ds).map PyData.tuple = _
      rw [all ds ps h1]
      rfl
    | rol ds =>
      obtain ⟨ps, h1, rfl⟩ := Option.map_eq_some_iff.mp (show (optAll (toPyS L n) ds).map PyData.list = some p from e)
      show (optAll (toPyS L' n) ds).map PyData.list = _
      rw [all ds ps h1]
      rfl
    | ref k =>
      cases hk : L[k]? with
      | none =>
        unfold toPyS at e
        simp only [hk] at e
        cases e
      | some o =>
        have hk' := h k o hk
        cases o with
        | lst ds =>
          unfold toPyS at e ⊢
          simp only [hk, hk'] at e ⊢
          obtain ⟨ps, h1, rfl⟩ := Option.map_eq_some_iff.mp e
          rw [all ds ps h1]
          rfl
        | dic lk ks =>
          unfold toPyS at e ⊢
          simp only [hk, hk'] at e ⊢
          obtain ⟨ps, h1, rfl⟩ := Option.map_eq_some_iff.mp e
          rw [all _ ps h1]
          rfl
        | _ =>
          unfold toPyS at e
          simp only [hk] at e
          cases e
    | _ => exact e
/-- the text of data: told, small, the same in a heap that has grown -/
structure Rep (L : List O) (d : D) (S : Str) : Prop where
  run : ∀ L', (∀ (n : Nat) (o : O), L[n]? = some o → L'[n]? = some o) → cReprD [d] L' = some (.str S, L')
theorem rep_of {L : List O} {ds : List D} {k B : Nat} (hk : k ≤ 15) (hB : B ≤ 1000000) (h : Sw L k B (.tup ds)) : ∃ S, Rep L (.tup ds) S := by
  obtain ⟨p, a, b, c, e⟩ := h.ex
  have h1 : toPyS L pyDeep (.tup ds) = some p := a 15 hk
  refine ⟨p.shown, ⟨fun L' g => ?_⟩⟩
  refine sw_repr (toPyS_mono g _ _ _ h1) ?_ b (by omega) (by unfold most; omega)
  obtain ⟨ps, _, rfl⟩ := Option.map_eq_some_iff.mp (show (optAll (toPyS L 15) ds).map PyData.tuple = some p from h1)
  rfl
theorem Sw.cons {L : List O} {k B C : Nat} {d : D} {ds : List D} (h : Sw L k B d) (h2 : ∃ ps : List PyData, (∀ n, k ≤ n → optAll (toPyS L (n + 1)) ds = some ps) ∧ PyData.showableAll ps = true ∧ PyData.depthAll ps ≤ k ∧ ((PyData.shownAll ps).map (·.length)).sum ≤ C ∧ (PyData.shownAll ps).length = ds.length) :
    ∃ ps : List PyData, (∀ n, k ≤ n → optAll (toPyS L (n + 1)) (d :: ds) = some ps) ∧ PyData.showableAll ps = true ∧ PyData.depthAll ps ≤ k ∧ ((PyData.shownAll ps).map (·.length)).sum ≤ B + C ∧ (PyData.shownAll ps).length = (d :: ds).length := by
  obtain ⟨p, a, b, c, e⟩ := h.ex
  obtain ⟨ps, a2, b2, c2, e2, f2⟩ := h2
  refine ⟨p :: ps, fun n hn => optAll_cons (a n hn) (a2 n hn), by simp [PyData.showableAll, b, b2], ?_, ?_, by simp [PyData.shownAll, f2]⟩
  · simp only [PyData.depthAll]
    omega
  · simp only [PyData.shownAll, List.map_cons, List.sum_cons]
    omega
theorem Sw.nil {L : List O} {k : Nat} : ∃ ps : List PyData, (∀ n, k ≤ n → optAll (toPyS L (n + 1)) [] = some ps) ∧ PyData.showableAll ps = true ∧ PyData.depthAll ps ≤ k ∧ ((PyData.shownAll ps).map (·.length)).sum ≤ 0 ∧ (PyData.shownAll ps).length = ([] : List D).length := ⟨[], fun _ _ => rfl, rfl, by simp [PyData.depthAll], by simp [PyData.shownAll], by simp [PyData.shownAll]⟩
theorem Sw.tupS {L : List O} {k C : Nat} {ds : List D} (h2 : ∃ ps : List PyData, (∀ n, k ≤ n → optAll (toPyS L (n + 1)) ds = some ps) ∧ PyData.showableAll ps = true ∧ PyData.depthAll ps ≤ k ∧ ((PyData.shownAll ps).map (·.length)).sum ≤ C ∧ (PyData.shownAll ps).length = ds.length) : Sw L (k + 1) (C + 2 * ds.length + 3) (.tup ds) := by
  obtain ⟨ps, a, b, c, e, f⟩ := h2
  refine ⟨.tuple ps, fun n hn => ?_, by simpa [PyData.showable] using b, by simp only [PyData.depth]; omega, ?_⟩
  · cases n with
    | zero => omega
    | succ n =>
      show (optAll (toPyS L (n + 1)) ds).map PyData.tuple = _
      rw [a n (by omega)]
      rfl
  · have h1 := tupleText_len_le (PyData.shownAll ps)
    have e3 : (PyData.tuple ps).shown = tupleText (PyData.shownAll ps) := by simp only [PyData.shown]
    rw [e3]
    rw [f] at h1
    omega
/-! the law -/
structure Shown (L : List O) (p t h : D) : Prop where
  all : ∃ S, Rep L (.tup [p, t, h]) S
  made : ∃ S, Rep L (.tup [.str "made", p, t, h]) S
theorem shown_of {nb : Nat} {L : List O} {p t h : D} (hp : Whl nb L 14 p) (ht : Whl nb L 125 t) (hh : Leaf h) : Shown L p t h := by
  have h3 := (hh.sw L).le (j := 3) (C := 2000) (by decide) (by decide)
  have c3 := Sw.cons (hp.sw (by decide)) (Sw.cons (ht.sw (by decide)) (Sw.cons h3 Sw.nil))
  refine ⟨rep_of (by decide) (by simp) (Sw.tupS c3), ?_⟩
  have m3 := ((leaf_of (d := .str "made") (by decide +kernel)).sw L).le (j := 3) (C := 2000) (by decide) (by decide)
  exact rep_of (by decide) (by simp) (Sw.tupS (Sw.cons m3 c3))
theorem fb_lt : ∀ {ps : List D} {k i : Nat}, firstBad k ps = some i → i < k + ps.length
  | [], k, i, h => by cases h
  | d :: r, k, i, h => by
    unfold firstBad at h
    split at h
    · have := fb_lt h
      simp only [List.length_cons]
      omega
    · cases h
      simp
theorem fbT_lt : ∀ {ts : List D} {last h : Int} {pre : List T3} {i : Nat}, firstBadT last h pre ts = some i → i < pre.length + ts.length
  | [], _, _, _, _, e => by cases e
  | d :: r, last, h, pre, i, e => by
    unfold firstBadT at e
    split at e
    · split at e
      · have := fbT_lt e
        simp only [List.length_append, List.length_cons, List.length_nil] at this ⊢
        omega
      · cases e
        simp
    · cases e
      simp
theorem fault_is {p t h : D} {s : Str} {k : Int} (hf : faultS p t h = some (s, k)) : (s = "points" ∨ s = "hops" ∨ s = "takes") ∧ -1 ≤ k ∧ k ≤ 10 := by
  unfold faultS at hf
  cases hp : ptsS p with
  | some j =>
    rw [hp] at hf
    cases hf
    refine ⟨.inl rfl, ?_⟩
    cases p with
    | tup ps =>
      have h2 : (if 4 < ps.length then some (-1 : Int) else (firstBad 0 ps).map fun k => (k : Int)) = some k := hp
      split at h2
      · cases h2; omega
      · cases h3 : firstBad 0 ps with
        | none => rw [h3] at h2; cases h2
        | some i =>
          rw [h3] at h2
          have := fb_lt h3
          cases h2
          show -1 ≤ (i : Int) ∧ (i : Int) ≤ 10
          omega
    | _ => cases hp; omega
  | none =>
    rw [hp] at hf
    cases p with
    | tup ps =>
      have e : tksS ps.length t h = some (s, k) := hf
      unfold tksS at e
      split at e
      · split at e
        · cases e; exact ⟨.inr (.inl rfl), by omega, by omega⟩
        · split at e
          · rename_i ts
            split at e
            · cases e; exact ⟨.inr (.inr rfl), by omega, by omega⟩
            · rename_i hz
              split at e
              · cases e; exact ⟨.inr (.inl rfl), by omega, by omega⟩
              · rename_i i0 _ _ _
                cases h3 : firstBadT (ps.length : Int) i0 [] ts with
                | none => rw [h3] at e; cases e
                | some i =>
                  rw [h3] at e
                  have := fbT_lt h3
                  simp only [List.length_nil] at this
                  cases e
                  exact ⟨.inr (.inr rfl), show -1 ≤ (i : Int) by omega, show (i : Int) ≤ 10 by omega⟩
          · cases e; exact ⟨.inr (.inr rfl), by omega, by omega⟩
      · cases e; exact ⟨.inr (.inl rfl), by omega, by omega⟩
    | _ => cases hf
theorem shown_fault {L : List O} {p t h : D} {s : Str} {k : Int} (hf : faultS p t h = some (s, k)) : ∃ S, Rep L (.tup [.str "fault", .str s, .int k]) S := by
  obtain ⟨hs, k0, k1⟩ := fault_is hf
  have l1 : Leaf (.str "fault") := leaf_of (by decide +kernel)
  have l2 : Leaf (.str s) := by rcases hs with rfl | rfl | rfl <;> exact leaf_of (by decide +kernel)
  have l3 : Leaf (.int k) := .int (Nat.lt_of_le_of_lt (show k.natAbs ≤ 10 by omega) (by decide))
  exact rep_of (k := 1) (by decide) (by simp) (Sw.tupS (Sw.cons (l1.sw L) (Sw.cons (l2.sw L) (Sw.cons (l3.sw L) Sw.nil))))
/-! the law -/
theorem oNeTx_same {a : Str} {L : List O} : oNeTx oNe (.str a) (.str a) L = some (.bl false, L) := by
  show some (D.bl (!decide (a = a)), L) = _
  simp
abbrev E11b (a0 a1 a2 a3 a4 a5 a6 a7 a8 a9 a10 : Option D) : En := [a0, a1, a2, a3, a4, a5, a6, a7, a8, a9, a10]
def lw1 : MS := mSet 7 (mCall Gulaw_spoilt (mCons (mVar 2) (mCons (mVar 3) (mCons (mVar 4) (mCons (mVar 5) mNil)))))
def lw2 : MS := mIf (mAndB (mTru (mCall Gulaw_is_whole (mCons (mOp2 oIdx (mVar 7) (mC (.int 0))) (mCons (mOp2 oIdx (mVar 7) (mC (.int 1))) mNil)))) (mTst (mOp2 oEq (mCall Gulaw_take (mCons (mVar 2) (mCons (mC (.int 3)) mNil))) (mC (.int 0))))) (mSet 7 (mCall Gulaw_spoilt (mCons (mVar 2) (mCons (mOp2 oIdx (mVar 7) (mC (.int 0))) (mCons (mOp2 oIdx (mVar 7) (mC (.int 1))) (mCons (mC (.int 0)) mNil)))))) mNext
def lw3 : MS := mSet 8 (mCall Gulaw_fault (mCons (mOp2 oIdx (mVar 7) (mC (.int 0))) (mCons (mOp2 oIdx (mVar 7) (mC (.int 1))) (mCons (mOp2 oIdx (mVar 7) (mC (.int 2))) mNil))))
def lw4 : MS := mSet 9 (mIfE (mTst (mOp2 oIsN (mVar 8) (mC .non))) (mOp2 oAdd (mTup (mCons (mC (.str "made")) mNil)) (mVar 7)) (mOp2 oAdd (mTup (mCons (mC (.str "fault")) mNil)) (mVar 8)))
def lw5 : MS := mSet 10 (mFn cReprD (mCons (mVar 7) mNil))
def lw6 : MS := mIf (mOrB (mTst (mOp2 (oNeTx oNe) (mFn cReprD (mCons (mCall Gulaw_asked (mCons (mOp2 oIdx (mVar 7) (mC (.int 0))) (mCons (mOp2 oIdx (mVar 7) (mC (.int 1))) (mCons (mOp2 oIdx (mVar 7) (mC (.int 2))) mNil)))) mNil)) (mFn cReprD (mCons (mVar 9) mNil)))) (mTst (mOp2 (oNeTx oNe) (mFn cReprD (mCons (mVar 7) mNil)) (mVar 10)))) (mRet (mC (.bl false))) mNext
def lwTurn : MS := mSeq lw1 (mSeq lw2 (mSeq lw3 (mSeq lw4 (mSeq lw5 lw6))))
def lwMid : MS := mSeq (mSet 2 (mCall Gulaw_bag (mCons (mVar 0) (mCons (mVar 1) mNil)))) (mSeq (mAsg (mCall Gulaw_parts (mCons (mVar 2) mNil)) (gTupM 3 (gsCons (gNm 3) (gsCons (gNm 4) (gsCons (gNm 5) gsNil))))) (mFor (mRng1 (mC (.int 6))) (gNm 6) lwTurn))
def lawHead : MI := mRng1 (mFn cMax (mCons (mC (.int 4)) (mCons (mFn cMin (mCons (mC (.int 8)) (mCons (mFn cLen (mCons (mVar 0) mNil)) mNil))) mNil)))
theorem law_eq : m_law = mSeq (mFor lawHead (gNm 1) lwMid) (mRet (mC (.bl true))) := rfl
theorem Pl.itm {d : D} (h : Pl d) (nb : Nat) (L : List O) : Itm nb L d := by
  obtain ⟨ds, rfl, a, b⟩ := h
  exact .tup a b
theorem Tk.is3 {d : D} (h : Tk d) : Is3 d := by
  obtain ⟨w, m, p, rfl, _⟩ := h
  exact ⟨_, _, _, rfl⟩
def dueD (p t h : D) : Option (Str × Int) → D
  | none => .tup [.str "made", p, t, h]
  | some (s, k) => .tup [.str "fault", .str s, .int k]
theorem turn_wp {nb : Nat} {k : Int} {L : List O} {ps ts : List D} {h : Int} {a0 a1 a6 a7 a8 a9 a10 : Option D} (hb : Bag nb k L) (hk : 20 ≤ k) (hp : ∀ e ∈ ps, Pl e) (hpl : ps.length ≤ 4) (ht : ∀ e ∈ ts, Tk e) (t0 : 1 ≤ ts.length) (t1 : ts.length ≤ 5) (h0 : 0 ≤ h) (h1 : h < 10) :
    WpS (lwTurn (E11b a0 a1 (some (.ref nb)) (some (.tup ps)) (some (.tup ts)) (some (.int h)) a6 a7 a8 a9 a10) L) (fun ε L' => (∃ y7 y8 y9 y10, ε = E11b a0 a1 (some (.ref nb)) (some (.tup ps)) (some (.tup ts)) (some (.int h)) a6 y7 y8 y9 y10) ∧ Bag nb (k - 20) L') noR noS noS noX := by
  unfold lwTurn
  refine wp_seq ?_
  unfold lw1
  o_shape
  refine wp_of (spoilt_wp hb (by omega) (fun e he => (hp e he).itm nb L) (by omega) (fun e he => ⟨(ht e he).pl.itm nb L, (ht e he).is3⟩) t0 (by omega) h0 h1) ?_
  rintro _ L1 ⟨p, t, hh, rfl, wp, wt, lh, B1, g1⟩
  refine wp_seq_cut (fun ε L' => ∃ p t hh, ε = E11b a0 a1 (some (.ref nb)) (some (.tup ps)) (some (.tup ts)) (some (.int h)) a6 (some (.tup [p, t, hh])) a8 a9 a10 ∧ Whl nb L' 14 p ∧ Whl nb L' 125 t ∧ Leaf hh ∧ Bag nb (k - 20) L') ?_ ?_
  · unfold lw2
    o_shape
    refine wp_of (whole_wp wp wt (by omega)) ?_
    rintro _ L2 ⟨rfl, X, rfl⟩
    o_shape
    refine qif (fun hw => ?_) (fun _ => ?_)
    · o_shape
      refine wp_of (take_wp B1.app (by omega) (by omega) (by omega)) ?_
      rintro _ L3 ⟨r, rfl, r0, r1, d3⟩
      have gg : Grow nb L1 L3 := Grow.app.trans d3.grow
      o_shape
      refine qif_dec (fun _ => ?_) (fun _ => ?_)
      · o_shape
        cases wp with
        | itm a b =>
          exfalso
          cases p with
          | tup ds => exact a ds rfl
          | _ => cases hw
        | lst _ _ _ _ => cases hw
        | @tup ps2 a b =>
          cases wt with
          | itm a b =>
            exfalso
            cases t with
            | tup ds => exact a ds rfl
            | _ => cases hw
          | lst _ _ _ _ => cases hw
          | @tup ts2 a2 b2 =>
            simp only [wholeB, Bool.and_eq_true, List.all_eq_true] at hw
            refine wp_of (spoilt_wp d3.bag (by omega) (fun e he => (a e he).mono gg) (by omega) (fun e he => ⟨(a2 e he).mono gg, is3_of (hw.2 e he)⟩) (by cases ts2 with | nil => simp at hw | cons x y => simp) (by omega) (by decide) (by decide)) ?_
            rintro _ L4 ⟨p4, t4, h4, rfl, wp4, wt4, lh4, B4, g4⟩
            exact ⟨p4, t4, h4, rfl, wp4.le (by omega), wt4.le (by omega), lh4, B4.less (by omega) (by omega)⟩
      · o_shape
        exact ⟨p, t, hh, rfl, (wp.mono gg).le (by omega), (wt.mono gg).le (by omega), lh, d3.bag.less (by omega) (by omega)⟩
    · o_shape
      exact ⟨p, t, hh, rfl, (wp.mono .app).le (by omega), (wt.mono .app).le (by omega), lh, B1.app.less (by omega) (by omega)⟩
  rintro ε L2 ⟨p, t, hh, rfl, wp, wt, lh, B2⟩
  have sh := shown_of wp wt lh
  have it : It L2 hh := (Itm.leaf (nb := nb) (L := L2) lh).it
  refine wp_seq ?_
  unfold lw3
  o_shape
  obtain ⟨X, hX⟩ := law_fault_ok wp.pts wt.pts it
  refine wp_eq hX ?_
  have gX : ∀ (n : Nat) (o : O), L2[n]? = some o → (L2 ++ X)[n]? = some o := fun n o e => ap e
  obtain ⟨Y, hY, gY⟩ : ∃ Y, Gulaw_asked [p, t, hh] (L2 ++ X) = .ok (dueD p t hh (faultS p t hh)) Y ∧ ∀ (n : Nat) (o : O), (L2 ++ X)[n]? = some o → Y[n]? = some o := by
    obtain ⟨Y, hY, gY⟩ := asked_ok (L := L2 ++ X) (p := p) (t := t) (h := hh) (pts_mono gX wp.pts) (pts_mono gX wt.pts) (it_mono gX it)
    refine ⟨Y, hY.trans ?_, gY⟩
    cases faultS p t hh <;> rfl
  have gY2 : ∀ (n : Nat) (o : O), L2[n]? = some o → Y[n]? = some o := fun n o e => gY n o (gX n o e)
  have BY : Bag nb (k - 20) Y := by
    obtain ⟨o, e, b⟩ := B2
    exact ⟨o, gY2 _ _ e, b⟩
  obtain ⟨S7, r7⟩ := sh.all
  obtain ⟨dd, hdd, S9, r9⟩ : ∃ dd, dueD p t hh (faultS p t hh) = dd ∧ ∃ S, Rep L2 dd S := by
    refine ⟨_, rfl, ?_⟩
    cases hf : faultS p t hh with
    | none => exact sh.made
    | some sk =>
      obtain ⟨s, k⟩ := sk
      exact shown_fault hf
  rw [hdd] at hY
  refine wp_seq_cut (fun ε L' => L' = L2 ++ X ∧ ∃ y8, ε = E11b a0 a1 (some (.ref nb)) (some (.tup ps)) (some (.tup ts)) (some (.int h)) a6 (some (.tup [p, t, hh])) y8 (some dd) a10) ?_ ?_
  · unfold lw4
    cases hf : faultS p t hh with
    | none =>
      rw [hf] at hdd
      subst hdd
      o_shape
      exact ⟨rfl, _, rfl⟩
    | some sk =>
      obtain ⟨s, k⟩ := sk
      rw [hf] at hdd
      subst hdd
      show WpS (mSet 9 _ (E11b a0 a1 (some (.ref nb)) (some (.tup ps)) (some (.tup ts)) (some (.int h)) a6 (some (.tup [p, t, hh])) (some (.tup [.str s, .int k])) a9 a10) _) _ _ _ _ _
      o_shape
      exact ⟨rfl, _, rfl⟩
  rintro ε _ ⟨rfl, y8, rfl⟩
  refine wp_seq ?_
  unfold lw5
  o_shape
  refine wpo (r7.run _ gX) ?_
  unfold lw6
  o_shape
  refine wp_eq hY ?_
  o_shape
  refine wpo (r9.run _ gY2) ?_
  o_shape
  refine wpo (r9.run _ gY2) ?_
  refine wpo oNeTx_same ?_
  o_shape
  refine wpo (r7.run _ gY2) ?_
  o_shape
  refine qif_f (by simp) ?_
  o_shape
  exact ⟨⟨_, _, _, _, rfl⟩, BY⟩
theorem mid_wp {ns : List Int} {i : Nat} (hi : i ≤ 100) {L : List O} {a2 a3 a4 a5 a6 a7 a8 a9 a10 : Option D} :
    WpS (lwMid (E11b (some (.rol (ns.map .int))) (some (.int (i : Int))) a2 a3 a4 a5 a6 a7 a8 a9 a10) L) (fun ε L' => ∃ b1 b2 b3 b4 b5 b6 b7 b8 b9 b10, ε = E11b (some (.rol (ns.map .int))) b1 b2 b3 b4 b5 b6 b7 b8 b9 b10) noR noS noS noX := by
  unfold lwMid
  refine wp_seq ?_
  o_shape
  obtain ⟨o, e, b⟩ := Gbag ns i hi L
  refine wp_eq e ?_
  have hb : Bag L.length 900000000000 (L ++ [o]) := ⟨o, at_end, b⟩
  refine wp_seq ?_
  o_shape
  refine wp_of (Gparts hb (by decide)) ?_
  rintro _ L1 ⟨⟨ps, ts, h, rfl, hp, pl, ht, t0, t1, h0, h1⟩, d1⟩
  o_shape
  refine wp_loop0 (fun i ε L' => (∃ a1 y6 y7 y8 y9 y10, ε = E11b (some (.rol (ns.map .int))) a1 (some (.ref L.length)) (some (.tup ps)) (some (.tup ts)) (some (.int h)) y6 y7 y8 y9 y10) ∧ Bag L.length (900000000000 - 40 - 20 * i) L') (fun _ _ _ _ => rfl) ⟨⟨_, _, _, _, _, _, rfl⟩, d1.bag.less (by omega) (by omega)⟩ ?_ ?_
  · rintro i d ε L2 hd ⟨⟨a1, y6, y7, y8, y9, y10, rfl⟩, hb2⟩
    obtain ⟨rfl, hn⟩ := rngD_get hd
    have hn6 : i < 6 := hn
    refine ⟨_, rfl, ?_⟩
    refine (turn_wp (a0 := some (.rol (ns.map .int))) (a1 := a1) (a6 := some (.int (0 + (i : Int)))) (a7 := y7) (a8 := y8) (a9 := y9) (a10 := y10) hb2 (by omega) hp pl ht t0 t1 h0 h1).imp ?_ (fun _ _ q => q.elim) (fun _ _ q => q.elim) (fun _ _ q => q.elim) (fun _ _ _ q => q)
    rintro ε L3 ⟨⟨z7, z8, z9, z10, rfl⟩, B3⟩
    exact ⟨⟨_, _, _, _, _, _, rfl⟩, B3.less (by omega) (by omega)⟩
  · rintro ε L2 ⟨⟨a1, y6, y7, y8, y9, y10, rfl⟩, _⟩
    exact ⟨_, _, _, _, _, _, _, _, _, _, rfl⟩
theorem plain : PlainLaw 63 F_law := by
  intro ns hns
  suffices Wp (F_law [.rol (ns.map .int)] []) (fun d _ => d = .bl true) noX by
    obtain ⟨d, L', e, rfl⟩ := wp_ok this
    exact ⟨L', e⟩
  refine wp_runF rfl ?_
  show WpS (m_law (E11b (some (.rol (ns.map .int))) none none none none none none none none none none) []) _ _ _ _ _
  rw [law_eq]
  refine wp_seq (wp_for ?_)
  unfold lawHead
  o_shape
  have hl : (ns.map D.int).length = ns.length := by simp
  generalize hN : Int.toNat _ = N
  have hN8 : N ≤ 8 := by
    rw [← hN]
    simp only [List.length_map]
    split <;> (try split) <;> omega
  refine wp_loop0 (fun i ε L' => ∃ b1 b2 b3 b4 b5 b6 b7 b8 b9 b10, ε = E11b (some (.rol (ns.map .int))) b1 b2 b3 b4 b5 b6 b7 b8 b9 b10) (fun _ _ _ _ => rfl) ⟨_, _, _, _, _, _, _, _, _, _, rfl⟩ ?_ ?_
  · rintro i d ε L2 hd ⟨b1, b2, b3, b4, b5, b6, b7, b8, b9, b10, rfl⟩
    obtain ⟨rfl, hn⟩ := rngD_get hd
    have hn8 : i ≤ 100 := by omega
    refine ⟨E11b (some (.rol (ns.map .int))) (some (.int (i : Int))) b2 b3 b4 b5 b6 b7 b8 b9 b10, ?_, ?_⟩
    · show some _ = some _
      rw [Int.zero_add]
      rfl
    · exact (mid_wp hn8).imp (fun _ _ q => q) (fun _ _ q => q.elim) (fun _ _ q => q.elim) (fun _ _ q => q.elim) (fun _ _ _ q => q)
  · rintro ε L2 ⟨b1, b2, b3, b4, b5, b6, b7, b8, b9, b10, rfl⟩
    o_shape
    rfl
abbrev sE_BadWay : Stmt := (inClass (top 5) 0)
structure Txt (P : Program) (K : PySem.W.Frag) (mg : Str → Option Value) (cm : Nat → Addr) : Prop where
  c_Way : Cls K (cm 12)
  e2_BadWay : Exc2 P K (cm 3) "part" "index"
  g_BadHistory : mg "BadHistory" = some (.ref (cm 6))
  g_BadLine : mg "BadLine" = some (.ref (cm 9))
  g_BadPick : mg "BadPick" = some (.ref (cm 7))
  g_BadStart : mg "BadStart" = some (.ref (cm 4))
  g_BadText : mg "BadText" = some (.ref (cm 8))
  g_BadTree : mg "BadTree" = some (.ref (cm 1))
  g_BadTurn : mg "BadTurn" = some (.ref (cm 5))
  g_BadWay : mg "BadWay" = some (.ref (cm 3))
  g_MODES : GC K mg cm "MODES" d_MODES
  g_MOST_POINTS : GC K mg cm "MOST_POINTS" d_MOST_POINTS
  g_MOST_TAKES : GC K mg cm "MOST_TAKES" d_MOST_TAKES
  g_NoName : mg "NoName" = some (.ref (cm 10))
  g_NoNode : mg "NoNode" = some (.ref (cm 2))
  g_TooMany : mg "TooMany" = some (.ref (cm 11))
  g_WORDS : GC K mg cm "WORDS" d_WORDS
  g_WaitError : mg "WaitError" = some (.ref (cm 0))
  ki_BadWay_BadHistory : PySem.W.kitOne K (.ref (cm 3)) (.ref (cm 6)) = some false
  ki_BadWay_BadLine : PySem.W.kitOne K (.ref (cm 3)) (.ref (cm 9)) = some false
  ki_BadWay_BadPick : PySem.W.kitOne K (.ref (cm 3)) (.ref (cm 7)) = some false
  ki_BadWay_BadStart : PySem.W.kitOne K (.ref (cm 3)) (.ref (cm 4)) = some false
  ki_BadWay_BadText : PySem.W.kitOne K (.ref (cm 3)) (.ref (cm 8)) = some false
  ki_BadWay_BadTree : PySem.W.kitOne K (.ref (cm 3)) (.ref (cm 1)) = some false
  ki_BadWay_BadTurn : PySem.W.kitOne K (.ref (cm 3)) (.ref (cm 5)) = some false
  ki_BadWay_BadWay : PySem.W.kitOne K (.ref (cm 3)) (.ref (cm 3)) = some true
  ki_BadWay_NoName : PySem.W.kitOne K (.ref (cm 3)) (.ref (cm 10)) = some false
  ki_BadWay_NoNode : PySem.W.kitOne K (.ref (cm 3)) (.ref (cm 2)) = some false
  ki_BadWay_TooMany : PySem.W.kitOne K (.ref (cm 3)) (.ref (cm 11)) = some false
  ki_BadWay_ValueError : PySem.W.kitOne K (.ref (cm 3)) (.type "ValueError") = some true
  n_Way_locks : NoAttr K (cm 12) "locks"
  n_Way_places : NoAttr K (cm 12) "places"
  n_Way_walked : NoAttr K (cm 12) "walked"
  xf_BadWay : XfC K (cm 3)
  xm_BadWay_WaitError : PySem.W.exmOne K (.ref (cm 3)) (.ref (cm 0)) = some true
  xn_BadWay_index : PySem.W.findIn K (.ref (cm 3)) "index" = some none
  xn_BadWay_part : PySem.W.findIn K (.ref (cm 3)) "part" = some none
  xq_BadWay : ExcQ K (cm 3)
  z_ValueError : mg "ValueError" = none
  z_abs : mg "abs" = none
  z_all : mg "all" = none
  z_bool : mg "bool" = none
  z_enumerate : mg "enumerate" = none
  z_int : mg "int" = none
  z_isinstance : mg "isinstance" = none
  z_len : mg "len" = none
  z_list : mg "list" = none
  z_max : mg "max" = none
  z_min : mg "min" = none
  z_range : mg "range" = none
  z_repr : mg "repr" = none
  z_str : mg "str" = none
  z_super : mg "super" = none
  z_tuple : mg "tuple" = none
section
variable {P : Program} {w : World} {K : PySem.W.Frag} {mg : Str → Option Value} {base : Heap} {cm : Nat → Addr}
abbrev s_law_bag : Stmt := (top 28)
abbrev N_law_bag : List Str := ["_law_script", "_law_at", "_law_number", "_law_large"]
theorem sc_law_bag : FnScope N_law_bag ["_law_script", "_law_at"] (defScope s_law_bag) := ⟨rfl, rfl, rfl, by decide +kernel, rfl, by decide +kernel, by decide +kernel⟩
theorem b_law_bag {f : Addr} (T : Txt P K mg cm) : BodyOk P w K mg base cm N_law_bag "_law_bag" (defScope s_law_bag) f (defBody s_law_bag) 0 m_law_bag := by
  intro fx cdv A outer s H E hr tk hp
  exact (sb_cons (ss_set sc_law_bag.nd rfl (se_ifE (st_cmp op_oLt (se_var (pv 1)) (se_fnB c_len T.z_len (sa_cons (se_var (pv 0)) sa_nil))) (se_idx (u65 hr) (se_var (pv 0)) (se_var (pv 1))) se_int))
    (sb_cons (ss_set sc_law_bag.nd rfl (se_ifE (st_cmp op_oGe (se_fnB c_abs T.z_abs (sa_cons (se_var (pv 2)) sa_nil)) (se_op op_oPow se_int se_int)) (se_fnB c_abs T.z_abs (sa_cons (se_var (pv 2)) sa_nil)) se_int))
    (sb_one (ss_ret (se_lst (sa_cons (se_var (pv 3)) (sa_cons (se_op op_oAdd (se_op op_oAdd (se_op op_oMul (se_op op_oMod (se_fnT c_int T.z_int (sa_cons (se_var (pv 2)) sa_nil)) (se_op op_oAdd (se_op op_oPow se_int se_int) se_int)) se_int) (se_op op_oMul se_int (se_var (pv 1)))) se_int) (sa_cons se_int sa_nil))))))))
abbrev s_law_take : Stmt := (top 29)
abbrev N_law_take : List Str := ["_law_bag_here", "_law_many", "_law_digit", "_law_mixed"]
theorem sc_law_take : FnScope N_law_take ["_law_bag_here", "_law_many"] (defScope s_law_take) := ⟨rfl, rfl, rfl, by decide +kernel, rfl, by decide +kernel, by decide +kernel⟩
theorem b_law_take {f : Addr} (T : Txt P K mg cm) : BodyOk P w K mg base cm N_law_take "_law_take" (defScope s_law_take) f (defBody s_law_take) 0 m_law_take := by
  intro fx cdv A outer s H E hr tk hp
  exact (sb_cons (ss_if (st_cmp op_oGt (se_idx (u65 hr) (se_var (pv 0)) se_int) se_int) (sb_cons (ss_set sc_law_take.nd rfl (se_op op_oMod (se_fnT c_int T.z_int (sa_cons (se_idx (u65 hr) (se_var (pv 0)) se_int) sa_nil)) (se_var (pv 1))))
    (sb_cons (ss_put (u65 hr) (se_var (pv 0)) se_int (se_op op_oFdiv (se_idx (u65 hr) (se_var (pv 0)) se_int) (se_var (pv 1))))
    (sb_one (ss_ret (se_var (pv 2)))))) sb_nil)
    (sb_cons (ss_put (u65 hr) (se_var (pv 0)) se_int (se_op op_oAdd (se_idx (u65 hr) (se_var (pv 0)) se_int) se_int))
    (sb_cons (ss_set sc_law_take.nd rfl (se_op op_oMod (se_op op_oPow (se_fnT c_int T.z_int (sa_cons (se_op op_oAdd (se_idx (u65 hr) (se_var (pv 0)) se_int) (se_op op_oMul se_int (se_idx (u65 hr) (se_var (pv 0)) se_int))) sa_nil)) se_int) se_int))
    (sb_one (ss_ret (se_op op_oMod (se_op op_oFdiv (se_fnT c_int T.z_int (sa_cons (se_op op_oMul (se_op op_oFdiv (se_var (pv 3)) se_int) (se_op op_oAdd (se_op op_oMod (se_op op_oFdiv (se_var (pv 3)) se_int) se_int) (se_op op_oMul se_int (se_idx (u65 hr) (se_var (pv 0)) se_int)))) sa_nil)) se_int) (se_var (pv 1))))))))
abbrev s_law_points : Stmt := (top 31)
abbrev N_law_points : List Str := ["_law_bag_here", "_law_most", "_law_found", "_law_k"]
theorem sc_law_points : FnScope N_law_points ["_law_bag_here", "_law_most"] (defScope s_law_points) := ⟨rfl, rfl, rfl, by decide +kernel, rfl, by decide +kernel, by decide +kernel⟩
theorem b_law_points {f : Addr} (T : Txt P K mg cm) (I_law_take : FI P w K mg base cm "_law_take" 1 2 Gulaw_take) : BodyOk P w K mg base cm N_law_points "_law_points" (defScope s_law_points) f (defBody s_law_points) 1 m_law_points := by
  intro fx cdv A outer s H E hr tk hp
  exact (sb_cons (ss_set sc_law_points.nd rfl (se_lst sa_nil))
    (sb_cons (ss_for hp rfl (si_rng1 rfl T.z_range (pa_cons (se_call I_law_take (hr.mono (by decide)) tk (sa_cons (se_var (pv 0)) (sa_cons (se_op op_oAdd (se_var (pv 1)) se_int) sa_nil)) (len_cons (len_cons len_nil))) pa_nil)) (sg_name sc_law_points.nd rfl) (sb_one (ss_expr (se_bmL PySem.F.slot_list_append PySem.F.type_list_append mt_oAppend (se_var (pv 2)) (sa_cons (se_ifE (st_cmp op_oLt (se_call I_law_take (hr.mono (by decide)) tk (sa_cons (se_var (pv 0)) (sa_cons se_int sa_nil)) (len_cons (len_cons len_nil))) se_int) (se_tup (sa_cons se_str sa_nil)) (se_tup (sa_cons se_str (sa_cons (se_call I_law_take (hr.mono (by decide)) tk (sa_cons (se_var (pv 0)) (sa_cons (se_op op_oAdd (se_var (pv 3)) se_int) sa_nil)) (len_cons (len_cons len_nil))) sa_nil)))) sa_nil)))))
    (sb_one (ss_ret (se_fnT c_tuple T.z_tuple (sa_cons (se_var (pv 2)) sa_nil))))))
abbrev s_law_of : Stmt := (top 30)
abbrev N_law_of : List Str := ["_law_bag_here", "_law_some"]
theorem sc_law_of : FnScope N_law_of ["_law_bag_here", "_law_some"] (defScope s_law_of) := ⟨rfl, rfl, rfl, by decide +kernel, rfl, by decide +kernel, by decide +kernel⟩
theorem b_law_of {f : Addr} (T : Txt P K mg cm) (I_law_take : FI P w K mg base cm "_law_take" 1 2 Gulaw_take) : BodyOk P w K mg base cm N_law_of "_law_of" (defScope s_law_of) f (defBody s_law_of) 1 m_law_of := by
  intro fx cdv A outer s H E hr tk hp
  exact (sb_one (ss_ret (se_idx (u65 hr) (se_var (pv 1)) (se_call I_law_take (hr.mono (by decide)) tk (sa_cons (se_var (pv 0)) (sa_cons (se_fnB c_len T.z_len (sa_cons (se_var (pv 1)) sa_nil)) sa_nil)) (len_cons (len_cons len_nil))))))
abbrev s_law_takes : Stmt := (top 32)
abbrev N_law_takes : List Str := ["_law_bag_here", "_law_many", "_law_left", "_law_found", "_law_size", "_law_paces", "_law_k", "_law_point", "_law_is_hop", "_law_word", "_law_modes"]
theorem sc_law_takes : FnScope N_law_takes ["_law_bag_here", "_law_many"] (defScope s_law_takes) := ⟨rfl, rfl, rfl, by decide +kernel, rfl, by decide +kernel, by decide +kernel⟩
theorem b_law_takes {f : Addr} (T : Txt P K mg cm) (I_law_take : FI P w K mg base cm "_law_take" 1 2 Gulaw_take) (I_law_of : FI P w K mg base cm "_law_of" 2 2 Gulaw_of) : BodyOk P w K mg base cm N_law_takes "_law_takes" (defScope s_law_takes) f (defBody s_law_takes) 2 m_law_takes := by
  intro fx cdv A outer s H E hr tk hp
  exact (sb_cons (ss_par rfl sc_law_takes.nd rfl rfl (by decide) (sa_cons (se_listRg1 rfl T.z_list T.z_range (se_var (pv 1))) (sa_cons (se_lst sa_nil) sa_nil)))
    (sb_cons (ss_set sc_law_takes.nd rfl (se_op op_oAdd se_int (se_call I_law_take (hr.mono (by decide)) tk (sa_cons (se_var (pv 0)) (sa_cons (se_fnB (c_min rfl) T.z_min (sa_cons se_int (sa_cons (se_var (pv 1)) sa_nil))) sa_nil)) (len_cons (len_cons len_nil)))))
    (sb_cons (ss_set sc_law_takes.nd rfl (se_call I_law_of (hr.mono (by decide)) tk (sa_cons (se_var (pv 0)) (sa_cons (se_lst (sa_cons se_int (sa_cons se_int (sa_cons (se_call I_law_take (hr.mono (by decide)) tk (sa_cons (se_var (pv 0)) (sa_cons (se_var (pv 4)) sa_nil)) (len_cons (len_cons len_nil))) sa_nil)))) sa_nil)) (len_cons (len_cons len_nil))))
    (sb_cons (ss_for hp rfl (si_rng1 rfl T.z_range (pa_cons (se_var (pv 4)) pa_nil)) (sg_name sc_law_takes.nd rfl) (sb_cons (ss_set sc_law_takes.nd rfl (se_bmL PySem.F.slot_list_pop PySem.F.type_list_pop mt_oPop (se_var (pv 2)) (sa_cons (se_call I_law_take (hr.mono (by decide)) tk (sa_cons (se_var (pv 0)) (sa_cons (se_fnB c_len T.z_len (sa_cons (se_var (pv 2)) sa_nil)) sa_nil)) (len_cons (len_cons len_nil))) sa_nil)))
    (sb_cons (ss_set sc_law_takes.nd rfl (se_chain op_oLe op_oLe se_int (se_var (pv 6)) (se_var (pv 5))))
    (sb_cons (ss_set sc_law_takes.nd rfl (se_call I_law_of (hr.mono (by decide)) tk (sa_cons (se_var (pv 0)) (sa_cons (se_lst (sa_cons se_str (sa_cons se_str (sa_cons se_str (sa_cons se_str (sa_cons (se_ifE (st_tru (se_var (pv 8))) se_str se_str) sa_nil)))))) sa_nil)) (len_cons (len_cons len_nil))))
    (sb_cons (ss_set sc_law_takes.nd rfl (se_lst (sa_cons se_str (sa_cons se_str (sa_cons se_str sa_nil)))))
    (sb_cons (ss_if (PW.pt (sw_and (st_cmp op_oGt (se_var (pv 6)) se_int) (sw_and (st_not (st_tru (se_var (pv 8)))) (pw_and1 (st_cmp (op_oNe (u64 hr)) (se_idx (u65 hr) (se_idx (u65 hr) (se_var (pv 3)) (se_neg se_int)) se_int) se_str))))) (sb_one (ss_expr (se_bmL PySem.F.slot_list_append PySem.F.type_list_append mt_oAppend (se_var (pv 10)) (sa_cons se_str sa_nil)))) sb_nil)
    (sb_one (ss_expr (se_bmL PySem.F.slot_list_append PySem.F.type_list_append mt_oAppend (se_var (pv 3)) (sa_cons (se_tup (sa_cons (se_var (pv 9)) (sa_cons (se_var (pv 7)) (sa_cons (se_call I_law_of (hr.mono (by decide)) tk (sa_cons (se_var (pv 0)) (sa_cons (se_var (pv 10)) sa_nil)) (len_cons (len_cons len_nil))) sa_nil)))) sa_nil))))))))))
    (sb_one (ss_ret (se_tup (sa_cons (se_fnT c_tuple T.z_tuple (sa_cons (se_var (pv 3)) sa_nil)) (sa_cons (se_var (pv 5)) sa_nil)))))))))
abbrev s_law_parts : Stmt := (top 33)
abbrev N_law_parts : List Str := ["_law_bag_here", "_law_points_here", "_law_takes_here", "_law_paces"]
theorem sc_law_parts : FnScope N_law_parts ["_law_bag_here"] (defScope s_law_parts) := ⟨rfl, rfl, rfl, by decide +kernel, rfl, by decide +kernel, by decide +kernel⟩
theorem b_law_parts {f : Addr} (T : Txt P K mg cm) (I_law_points : FI P w K mg base cm "_law_points" 2 2 Gulaw_points) (I_law_takes : FI P w K mg base cm "_law_takes" 3 2 Gulaw_takes) : BodyOk P w K mg base cm N_law_parts "_law_parts" (defScope s_law_parts) f (defBody s_law_parts) 3 m_law_parts := by
  intro fx cdv A outer s H E hr tk hp
  exact (sb_cons (ss_set sc_law_parts.nd rfl (se_call I_law_points (hr.mono (by decide)) tk (sa_cons (se_var (pv 0)) (sa_cons se_int sa_nil)) (len_cons (len_cons len_nil))))
    (sb_cons (ss_asg (se_call I_law_takes (hr.mono (by decide)) tk (sa_cons (se_var (pv 0)) (sa_cons (se_op op_oAdd (se_fnB c_len T.z_len (sa_cons (se_var (pv 1)) sa_nil)) se_int) sa_nil)) (len_cons (len_cons len_nil))) (sg_tup rfl (sgs_cons (sg_name sc_law_parts.nd rfl) (sgs_cons (sg_name sc_law_parts.nd rfl) sgs_nil))))
    (sb_one (ss_ret (se_tup (sa_cons (se_var (pv 1)) (sa_cons (se_var (pv 2)) (sa_cons (se_var (pv 3)) sa_nil))))))))
abbrev s_law_whole : Stmt := (top 36)
abbrev N_law_whole : List Str := ["_law_value"]
theorem sc_law_whole : FnScope N_law_whole ["_law_value"] (defScope s_law_whole) := ⟨rfl, rfl, rfl, by decide +kernel, rfl, by decide +kernel, by decide +kernel⟩
theorem b_law_whole {f : Addr} (T : Txt P K mg cm) : BodyOk P w K mg base cm N_law_whole "_law_whole" (defScope s_law_whole) f (defBody s_law_whole) 0 m_law_whole := by
  intro fx cdv A outer s H E hr tk hp
  exact (sb_one (ss_ret (se_andV (se_isiB .int [] T.z_isinstance T.z_int (se_var (pv 0)) (fun _ h => nomatch h) (fun _ h => nomatch h) (fun h => nomatch h)) (se_one (se_notV (se_isiB .bl [] T.z_isinstance T.z_bool (se_var (pv 0)) (fun _ h => nomatch h) (fun _ h => nomatch h) (fun h => nomatch h)))))))
abbrev s_law_is_place : Stmt := (top 37)
abbrev N_law_is_place : List Str := ["_law_place", "_law_k"]
theorem sc_law_is_place : FnScope N_law_is_place ["_law_place", "_law_k"] (defScope s_law_is_place) := ⟨rfl, rfl, rfl, by decide +kernel, rfl, by decide +kernel, by decide +kernel⟩
theorem b_law_is_place {f : Addr} (T : Txt P K mg cm) (I_law_whole : FI P w K mg base cm "_law_whole" 1 1 Gulaw_whole) : BodyOk P w K mg base cm N_law_is_place "_law_is_place" (defScope s_law_is_place) f (defBody s_law_is_place) 1 m_law_is_place := by
  intro fx cdv A outer s H E hr tk hp
  exact (sb_cons (ss_if (st_cmp (op_oEqDt (u64 hr)) (se_var (pv 0)) (se_tup (sa_cons se_str sa_nil))) (sb_one (ss_ret se_bl)) sb_nil)
    (sb_cons (ss_if (PW.pt (sw_or (st_not (st_tru (se_isiB .tup [] T.z_isinstance T.z_tuple (se_var (pv 0)) (fun _ h => nomatch h) (fun _ h => nomatch h) (fun h => nomatch h)))) (sw_or (st_cmp (op_oNe (u64 hr)) (se_fnB c_len T.z_len (sa_cons (se_var (pv 0)) sa_nil)) se_int) (pw_or1 (st_cmp (op_oNe (u64 hr)) (se_idx (u65 hr) (se_var (pv 0)) se_int) se_str))))) (sb_one (ss_ret se_bl)) sb_nil)
    (sb_one (ss_ret (se_andV (se_call I_law_whole (hr.mono (by decide)) tk (sa_cons (se_idx (u65 hr) (se_var (pv 0)) se_int) sa_nil) (len_cons len_nil)) (se_one (se_chain op_oLe op_oLe se_int (se_idx (u65 hr) (se_var (pv 0)) se_int) (se_var (pv 1)))))))))
abbrev s_law_is_take : Stmt := (top 38)
abbrev N_law_is_take : List Str := ["_law_takes_here", "_law_k", "_law_last", "_law_paces", "_law_take_here", "_law_word", "_law_point", "_law_mode", "_law_at"]
theorem sc_law_is_take : FnScope N_law_is_take ["_law_takes_here", "_law_k", "_law_last", "_law_paces"] (defScope s_law_is_take) := ⟨rfl, rfl, rfl, by decide +kernel, rfl, by decide +kernel, by decide +kernel⟩
theorem b_law_is_take {f : Addr} (T : Txt P K mg cm) (I_law_whole : FI P w K mg base cm "_law_whole" 1 1 Gulaw_whole) : BodyOk P w K mg base cm N_law_is_take "_law_is_take" (defScope s_law_is_take) f (defBody s_law_is_take) 1 m_law_is_take := by
  intro fx cdv A outer s H E hr tk hp
  exact (sb_cons (ss_set sc_law_is_take.nd rfl (se_idx (u65 hr) (se_var (pv 0)) (se_var (pv 1))))
    (sb_cons (ss_if (PW.pt (sw_or (st_not (st_tru (se_isiB .tup [] T.z_isinstance T.z_tuple (se_var (pv 4)) (fun _ h => nomatch h) (fun _ h => nomatch h) (fun h => nomatch h)))) (pw_or1 (st_cmp (op_oNe (u64 hr)) (se_fnB c_len T.z_len (sa_cons (se_var (pv 4)) sa_nil)) se_int)))) (sb_one (ss_ret se_bl)) sb_nil)
    (sb_cons (ss_asg (se_var (pv 4)) (sg_tup rfl (sgs_cons (sg_name sc_law_is_take.nd rfl) (sgs_cons (sg_name sc_law_is_take.nd rfl) (sgs_cons (sg_name sc_law_is_take.nd rfl) sgs_nil)))))
    (sb_cons (ss_if (PW.pt (sw_or (st_not (st_tru (se_call I_law_whole (hr.mono (by decide)) tk (sa_cons (se_var (pv 6)) sa_nil) (len_cons len_nil)))) (pw_or1 (st_not (st_chain op_oLe op_oLe se_int (se_var (pv 6)) (se_var (pv 2))))))) (sb_one (ss_ret se_bl)) sb_nil)
    (sb_cons (ss_if (st_cmp (op_oNotIn (u65 hr)) (se_var (pv 5)) (se_lst (sa_cons se_str (sa_cons (se_ifE (st_chain op_oLt op_oLe se_int (se_var (pv 1)) (se_var (pv 3))) se_str se_str) sa_nil)))) (sb_one (ss_ret se_bl)) sb_nil)
    (sb_cons (ss_if (PW.pt (sw_or (st_cmp (op_oNotIn (u65 hr)) (se_var (pv 7)) (se_lst (sa_cons se_str (sa_cons se_str (sa_cons se_str sa_nil))))) (pw_or1 (st_cmp (op_oIn (u65 hr)) (se_var (pv 6)) (se_lc (own := [("_law_at", 8)]) rfl sc_law_is_take.nd (si_rng1 rfl T.z_range (pa_cons (se_var (pv 1)) pa_nil)) (blkOk_by (own := [("_law_at", 8)]) (N := N_law_is_take) (sc := defScope s_law_is_take) (by decide +kernel)) (fun _ _ _ _ _ => (sg_name sc_law_is_take.nd rfl)) (fun _ _ _ _ _ => sts_nil) (fun _ _ _ _ _ => (se_idx (u65 hr) (se_idx (u65 hr) (se_var (pv 0)) (se_var (pv 8))) se_int))))))) (sb_one (ss_ret se_bl)) sb_nil)
    (sb_one (ss_ret (se_orV (se_cmp (op_oNe (u64 hr)) (se_var (pv 7)) se_str) (se_one (se_andV (se_cmp op_oGt (se_var (pv 1)) (se_var (pv 3))) (se_andV (se_cmp op_oGt (se_var (pv 1)) se_int) (se_one (se_cmp (op_oNe (u64 hr)) (se_idx (u65 hr) (se_idx (u65 hr) (se_var (pv 0)) (se_op op_oSub (se_var (pv 1)) se_int)) se_int) se_str))))))))))))))
abbrev s_law_fault : Stmt := (top 35)
abbrev N_law_fault : List Str := ["_law_points_here", "_law_takes_here", "_law_paces", "_law_k"]
theorem sc_law_fault : FnScope N_law_fault ["_law_points_here", "_law_takes_here", "_law_paces"] (defScope s_law_fault) := ⟨rfl, rfl, rfl, by decide +kernel, rfl, by decide +kernel, by decide +kernel⟩
theorem b_law_fault {f : Addr} (T : Txt P K mg cm) (I_law_whole : FI P w K mg base cm "_law_whole" 1 1 Gulaw_whole) (I_law_is_place : FI P w K mg base cm "_law_is_place" 2 2 Gulaw_is_place) (I_law_is_take : FI P w K mg base cm "_law_is_take" 2 4 Gulaw_is_take) : BodyOk P w K mg base cm N_law_fault "_law_fault" (defScope s_law_fault) f (defBody s_law_fault) 2 m_law_fault := by
  intro fx cdv A outer s H E hr tk hp
  exact (sb_cons (ss_if (PW.pt (sw_or (st_not (st_tru (se_isiB .tup [] T.z_isinstance T.z_tuple (se_var (pv 0)) (fun _ h => nomatch h) (fun _ h => nomatch h) (fun h => nomatch h)))) (pw_or1 (st_cmp op_oGt (se_fnB c_len T.z_len (sa_cons (se_var (pv 0)) sa_nil)) se_int)))) (sb_one (ss_ret (se_tup (sa_cons se_str (sa_cons (se_neg se_int) sa_nil))))) sb_nil)
    (sb_cons (ss_for hp rfl (si_rng1 rfl T.z_range (pa_cons (se_fnB c_len T.z_len (sa_cons (se_var (pv 0)) sa_nil)) pa_nil)) (sg_name sc_law_fault.nd rfl) (sb_one (ss_if (st_not (st_tru (se_call I_law_is_place (hr.mono (by decide)) tk (sa_cons (se_idx (u65 hr) (se_var (pv 0)) (se_var (pv 3))) (sa_cons (se_var (pv 3)) sa_nil)) (len_cons (len_cons len_nil))))) (sb_one (ss_ret (se_tup (sa_cons se_str (sa_cons (se_var (pv 3)) sa_nil))))) sb_nil)))
    (sb_cons (ss_if (PW.pt (sw_or (st_not (st_tru (se_call I_law_whole (hr.mono (by decide)) tk (sa_cons (se_var (pv 2)) sa_nil) (len_cons len_nil)))) (pw_or1 (st_cmp op_oLt (se_var (pv 2)) se_int)))) (sb_one (ss_ret (se_tup (sa_cons se_str (sa_cons (se_neg se_int) sa_nil))))) sb_nil)
    (sb_cons (ss_if (PW.pt (sw_or (st_not (st_tru (se_isiB .tup [] T.z_isinstance T.z_tuple (se_var (pv 1)) (fun _ h => nomatch h) (fun _ h => nomatch h) (fun h => nomatch h)))) (pw_or1 (st_not (st_chain op_oLe op_oLe se_int (se_fnB c_len T.z_len (sa_cons (se_var (pv 1)) sa_nil)) se_int))))) (sb_one (ss_ret (se_tup (sa_cons se_str (sa_cons (se_neg se_int) sa_nil))))) sb_nil)
    (sb_cons (ss_if (st_cmp op_oGe (se_var (pv 2)) (se_fnB c_len T.z_len (sa_cons (se_var (pv 1)) sa_nil))) (sb_one (ss_ret (se_tup (sa_cons se_str (sa_cons (se_neg se_int) sa_nil))))) sb_nil)
    (sb_cons (ss_for hp rfl (si_rng1 rfl T.z_range (pa_cons (se_fnB c_len T.z_len (sa_cons (se_var (pv 1)) sa_nil)) pa_nil)) (sg_name sc_law_fault.nd rfl) (sb_one (ss_if (st_not (st_tru (se_call I_law_is_take (hr.mono (by decide)) tk (sa_cons (se_var (pv 1)) (sa_cons (se_var (pv 3)) (sa_cons (se_fnB c_len T.z_len (sa_cons (se_var (pv 0)) sa_nil)) (sa_cons (se_var (pv 2)) sa_nil)))) (len_cons (len_cons (len_cons (len_cons len_nil))))))) (sb_one (ss_ret (se_tup (sa_cons se_str (sa_cons (se_var (pv 3)) sa_nil))))) sb_nil)))
    (sb_one (ss_ret se_non))))))))
abbrev s_law_any : Stmt := (top 39)
abbrev N_law_any : List Str := ["_law_bag_here", "_law_some"]
theorem sc_law_any : FnScope N_law_any ["_law_bag_here"] (defScope s_law_any) := ⟨rfl, rfl, rfl, by decide +kernel, rfl, by decide +kernel, by decide +kernel⟩
theorem b_law_any {f : Addr} (T : Txt P K mg cm) (I_law_of : FI P w K mg base cm "_law_of" 2 2 Gulaw_of) : BodyOk P w K mg base cm N_law_any "_law_any" (defScope s_law_any) f (defBody s_law_any) 2 m_law_any := by
  intro fx cdv A outer s H E hr tk hp
  exact (sb_cons (ss_set sc_law_any.nd rfl (se_lst (sa_cons se_non (sa_cons se_bl (sa_cons se_bl (sa_cons se_int (sa_cons (se_neg se_int) (sa_cons se_int (sa_cons (se_op op_oSub (se_op op_oPow se_int se_int) se_int) (sa_cons se_str (sa_cons se_str (sa_cons se_str (sa_cons se_str (sa_cons se_str (sa_cons (se_lst sa_nil) (sa_cons (se_tup sa_nil) (sa_cons se_dic0 sa_nil)))))))))))))))))
    (sb_cons (ss_set sc_law_any.nd rfl (se_op op_oAdd (se_var (pv 1)) (se_lst (sa_cons (se_tup (sa_cons se_str sa_nil)) (sa_cons (se_tup (sa_cons se_str (sa_cons se_int sa_nil))) (sa_cons (se_lst (sa_cons se_str sa_nil)) (sa_cons (se_tup (sa_cons se_str (sa_cons se_bl sa_nil))) (sa_cons (se_tup (sa_cons se_str (sa_cons se_str sa_nil))) (sa_cons (se_tup (sa_cons se_str (sa_cons (se_neg se_int) sa_nil))) (sa_cons (se_tup (sa_cons se_str sa_nil)) sa_nil))))))))))
    (sb_cons (ss_set sc_law_any.nd rfl (se_op op_oAdd (se_var (pv 1)) (se_lst (sa_cons (se_tup (sa_cons se_str (sa_cons se_int (sa_cons se_str sa_nil)))) (sa_cons (se_tup (sa_cons se_str (sa_cons se_int sa_nil))) (sa_cons (se_lst (sa_cons se_str (sa_cons se_int (sa_cons se_str sa_nil)))) (sa_cons (se_tup (sa_cons se_str (sa_cons se_bl (sa_cons se_str sa_nil)))) (sa_cons (se_tup (sa_cons se_int (sa_cons se_int (sa_cons se_int sa_nil)))) sa_nil))))))))
    (sb_cons (ss_set sc_law_any.nd rfl (se_op op_oAdd (se_var (pv 1)) (se_lst (sa_cons (se_tup (sa_cons se_str (sa_cons se_int (sa_cons se_str sa_nil)))) (sa_cons (se_tup (sa_cons se_str (sa_cons se_int (sa_cons se_str sa_nil)))) (sa_cons (se_tup (sa_cons se_str (sa_cons se_int (sa_cons se_str sa_nil)))) (sa_cons (se_tup (sa_cons se_str (sa_cons se_int (sa_cons se_str sa_nil)))) sa_nil)))))))
    (sb_one (ss_ret (se_call I_law_of (hr.mono (by decide)) tk (sa_cons (se_var (pv 0)) (sa_cons (se_op op_oAdd (se_var (pv 1)) (se_lst (sa_cons (se_tup (sa_cons (se_tup (sa_cons se_str sa_nil)) sa_nil)) sa_nil))) sa_nil)) (len_cons (len_cons len_nil)))))))))
abbrev s_law_with : Stmt := (top 40)
abbrev N_law_with : List Str := ["_law_some", "_law_at", "_law_value"]
theorem sc_law_with : FnScope N_law_with ["_law_some", "_law_at", "_law_value"] (defScope s_law_with) := ⟨rfl, rfl, rfl, by decide +kernel, rfl, by decide +kernel, by decide +kernel⟩
theorem b_law_with {f : Addr} (T : Txt P K mg cm) : BodyOk P w K mg base cm N_law_with "_law_with" (defScope s_law_with) f (defBody s_law_with) 0 m_law_with := by
  intro fx cdv A outer s H E hr tk hp
  exact (sb_one (ss_ret (se_op op_oAdd (se_op op_oAdd (se_slice (se_var (pv 0)) so_none (so_some (se_var (pv 1)))) (se_tup (sa_cons (se_var (pv 2)) sa_nil))) (se_slice (se_var (pv 0)) (so_some (se_op op_oAdd (se_var (pv 1)) se_int)) so_none))))
abbrev s_law_spoilt : Stmt := (top 41)
abbrev N_law_spoilt : List Str := ["_law_bag_here", "_law_points_here", "_law_takes_here", "_law_paces", "_law_way", "_law_some", "_law_at", "_law_place", "_law_size", "_law_word", "_law_mode", "_law_point"]
theorem sc_law_spoilt : FnScope N_law_spoilt ["_law_bag_here", "_law_points_here", "_law_takes_here", "_law_paces"] (defScope s_law_spoilt) := ⟨rfl, rfl, rfl, by decide +kernel, rfl, by decide +kernel, by decide +kernel⟩
theorem b_law_spoilt {f : Addr} (T : Txt P K mg cm) (I_law_take : FI P w K mg base cm "_law_take" 1 2 Gulaw_take) (I_law_of : FI P w K mg base cm "_law_of" 2 2 Gulaw_of) (I_law_any : FI P w K mg base cm "_law_any" 3 1 Gulaw_any) (I_law_with : FI P w K mg base cm "_law_with" 1 3 Gulaw_with) : BodyOk P w K mg base cm N_law_spoilt "_law_spoilt" (defScope s_law_spoilt) f (defBody s_law_spoilt) 3 m_law_spoilt := by
  intro fx cdv A outer s H E hr tk hp
  exact (sb_cons (ss_set sc_law_spoilt.nd rfl (se_call I_law_take (hr.mono (by decide)) tk (sa_cons (se_var (pv 0)) (sa_cons se_int sa_nil)) (len_cons (len_cons len_nil))))
    (sb_cons (ss_if (st_cmp (op_oEqT0 (u64 hr) (op_oEq (u64 hr))) (se_var (pv 4)) se_int) (sb_cons (ss_set sc_law_spoilt.nd rfl (se_lst (sa_cons (se_op op_oAdd (se_var (pv 1)) (se_op op_oMul (se_tup (sa_cons (se_tup (sa_cons se_str sa_nil)) sa_nil)) se_int)) (sa_cons (se_fnT c_list T.z_list (sa_cons (se_var (pv 1)) sa_nil)) (sa_cons se_non (sa_cons (se_call I_law_any (hr.mono (by decide)) tk (sa_cons (se_var (pv 0)) sa_nil) (len_cons len_nil)) sa_nil))))))
    (sb_one (ss_ret (se_tup (sa_cons (se_call I_law_of (hr.mono (by decide)) tk (sa_cons (se_var (pv 0)) (sa_cons (se_var (pv 5)) sa_nil)) (len_cons (len_cons len_nil))) (sa_cons (se_var (pv 2)) (sa_cons (se_var (pv 3)) sa_nil))))))) sb_nil)
    (sb_cons (ss_if (PW.pt (sw_and (st_cmp (op_oEqT0 (u64 hr) (op_oEq (u64 hr))) (se_var (pv 4)) se_int) (pw_and1 (st_cmp (op_oNeT0 (u64 hr) (op_oNe (u64 hr))) (se_var (pv 1)) (se_tup sa_nil))))) (sb_one (ss_ret (se_tup (sa_cons (se_call I_law_with (hr.mono (by decide)) tk (sa_cons (se_var (pv 1)) (sa_cons (se_call I_law_take (hr.mono (by decide)) tk (sa_cons (se_var (pv 0)) (sa_cons (se_fnB c_len T.z_len (sa_cons (se_var (pv 1)) sa_nil)) sa_nil)) (len_cons (len_cons len_nil))) (sa_cons (se_call I_law_any (hr.mono (by decide)) tk (sa_cons (se_var (pv 0)) sa_nil) (len_cons len_nil)) sa_nil))) (len_cons (len_cons (len_cons len_nil)))) (sa_cons (se_var (pv 2)) (sa_cons (se_var (pv 3)) sa_nil)))))) sb_nil)
    (sb_cons (ss_if (st_cmp (op_oEqT0 (u64 hr) (op_oEq (u64 hr))) (se_var (pv 4)) se_int) (sb_cons (ss_set sc_law_spoilt.nd rfl (se_call I_law_take (hr.mono (by decide)) tk (sa_cons (se_var (pv 0)) (sa_cons (se_op op_oAdd (se_fnB c_len T.z_len (sa_cons (se_var (pv 1)) sa_nil)) se_int) sa_nil)) (len_cons (len_cons len_nil))))
    (sb_cons (ss_set sc_law_spoilt.nd rfl (se_tup (sa_cons se_str (sa_cons (se_op op_oAdd (se_fnB c_len T.z_len (sa_cons (se_var (pv 1)) sa_nil)) (se_call I_law_take (hr.mono (by decide)) tk (sa_cons (se_var (pv 0)) (sa_cons se_int sa_nil)) (len_cons (len_cons len_nil)))) sa_nil))))
    (sb_one (ss_ret (se_tup (sa_cons (se_op op_oAdd (se_op op_oAdd (se_slice (se_var (pv 1)) so_none (so_some (se_var (pv 6)))) (se_tup (sa_cons (se_var (pv 7)) sa_nil))) (se_slice (se_var (pv 1)) (so_some (se_var (pv 6))) so_none)) (sa_cons (se_var (pv 2)) (sa_cons (se_var (pv 3)) sa_nil)))))))) sb_nil)
    (sb_cons (ss_if (st_cmp (op_oEqT0 (u64 hr) (op_oEq (u64 hr))) (se_var (pv 4)) se_int) (sb_cons (ss_set sc_law_spoilt.nd rfl (se_fnB c_len T.z_len (sa_cons (se_var (pv 2)) sa_nil)))
    (sb_one (ss_ret (se_tup (sa_cons (se_var (pv 1)) (sa_cons (se_var (pv 2)) (sa_cons (se_call I_law_of (hr.mono (by decide)) tk (sa_cons (se_var (pv 0)) (sa_cons (se_lst (sa_cons (se_neg se_int) (sa_cons (se_var (pv 8)) (sa_cons (se_op op_oSub (se_var (pv 8)) se_int) (sa_cons se_bl (sa_cons se_non (sa_cons se_str (sa_cons (se_op op_oPow se_int se_int) (sa_cons (se_op op_oAdd (se_var (pv 3)) se_int) sa_nil))))))))) sa_nil)) (len_cons (len_cons len_nil))) sa_nil))))))) sb_nil)
    (sb_cons (ss_if (st_cmp (op_oEqT0 (u64 hr) (op_oEq (u64 hr))) (se_var (pv 4)) se_int) (sb_cons (ss_set sc_law_spoilt.nd rfl (se_lst (sa_cons (se_tup sa_nil) (sa_cons (se_fnT c_list T.z_list (sa_cons (se_var (pv 2)) sa_nil)) (sa_cons se_non (sa_cons (se_op op_oAdd (se_var (pv 2)) (se_var (pv 2))) (sa_cons (se_op op_oMul (se_var (pv 2)) se_int) (sa_cons (se_call I_law_any (hr.mono (by decide)) tk (sa_cons (se_var (pv 0)) sa_nil) (len_cons len_nil)) sa_nil))))))))
    (sb_one (ss_ret (se_tup (sa_cons (se_var (pv 1)) (sa_cons (se_call I_law_of (hr.mono (by decide)) tk (sa_cons (se_var (pv 0)) (sa_cons (se_var (pv 5)) sa_nil)) (len_cons (len_cons len_nil))) (sa_cons (se_var (pv 3)) sa_nil))))))) sb_nil)
    (sb_cons (ss_set sc_law_spoilt.nd rfl (se_call I_law_take (hr.mono (by decide)) tk (sa_cons (se_var (pv 0)) (sa_cons (se_fnB c_len T.z_len (sa_cons (se_var (pv 2)) sa_nil)) sa_nil)) (len_cons (len_cons len_nil))))
    (sb_cons (ss_if (st_cmp (op_oEqT0 (u64 hr) (op_oEq (u64 hr))) (se_var (pv 4)) se_int) (sb_one (ss_ret (se_tup (sa_cons (se_var (pv 1)) (sa_cons (se_call I_law_with (hr.mono (by decide)) tk (sa_cons (se_var (pv 2)) (sa_cons (se_var (pv 6)) (sa_cons (se_call I_law_any (hr.mono (by decide)) tk (sa_cons (se_var (pv 0)) sa_nil) (len_cons len_nil)) sa_nil))) (len_cons (len_cons (len_cons len_nil)))) (sa_cons (se_var (pv 3)) sa_nil)))))) sb_nil)
    (sb_cons (ss_if (st_cmp (op_oEqT0 (u64 hr) (op_oEq (u64 hr))) (se_var (pv 4)) se_int) (sb_cons (ss_set sc_law_spoilt.nd rfl (se_call I_law_of (hr.mono (by decide)) tk (sa_cons (se_var (pv 0)) (sa_cons (se_lst (sa_cons se_str (sa_cons se_str (sa_cons se_str (sa_cons se_str (sa_cons se_non sa_nil)))))) sa_nil)) (len_cons (len_cons len_nil))))
    (sb_one (ss_ret (se_tup (sa_cons (se_var (pv 1)) (sa_cons (se_call I_law_with (hr.mono (by decide)) tk (sa_cons (se_var (pv 2)) (sa_cons (se_var (pv 6)) (sa_cons (se_op op_oAdd (se_tup (sa_cons (se_var (pv 9)) sa_nil)) (se_slice (se_idx (u65 hr) (se_var (pv 2)) (se_var (pv 6))) (so_some se_int) so_none)) sa_nil))) (len_cons (len_cons (len_cons len_nil)))) (sa_cons (se_var (pv 3)) sa_nil))))))) sb_nil)
    (sb_cons (ss_if (st_cmp (op_oEqT0 (u64 hr) (op_oEq (u64 hr))) (se_var (pv 4)) se_int) (sb_cons (ss_set sc_law_spoilt.nd rfl (se_call I_law_of (hr.mono (by decide)) tk (sa_cons (se_var (pv 0)) (sa_cons (se_lst (sa_cons se_str (sa_cons se_str (sa_cons se_str (sa_cons se_str (sa_cons se_non (sa_cons se_int sa_nil))))))) sa_nil)) (len_cons (len_cons len_nil))))
    (sb_one (ss_ret (se_tup (sa_cons (se_var (pv 1)) (sa_cons (se_call I_law_with (hr.mono (by decide)) tk (sa_cons (se_var (pv 2)) (sa_cons (se_var (pv 6)) (sa_cons (se_op op_oAdd (se_slice (se_idx (u65 hr) (se_var (pv 2)) (se_var (pv 6))) so_none (so_some se_int)) (se_tup (sa_cons (se_var (pv 10)) sa_nil))) sa_nil))) (len_cons (len_cons (len_cons len_nil)))) (sa_cons (se_var (pv 3)) sa_nil))))))) sb_nil)
    (sb_cons (ss_set sc_law_spoilt.nd rfl (se_call I_law_of (hr.mono (by decide)) tk (sa_cons (se_var (pv 0)) (sa_cons (se_lst (sa_cons (se_idx (u65 hr) (se_idx (u65 hr) (se_var (pv 2)) se_int) se_int) (sa_cons (se_idx (u65 hr) (se_idx (u65 hr) (se_var (pv 2)) (se_neg se_int)) se_int) (sa_cons (se_fnB c_len T.z_len (sa_cons (se_var (pv 1)) sa_nil)) (sa_cons (se_op op_oAdd (se_fnB c_len T.z_len (sa_cons (se_var (pv 1)) sa_nil)) se_int) (sa_cons (se_neg se_int) (sa_cons se_bl (sa_cons se_str (sa_cons se_non sa_nil))))))))) sa_nil)) (len_cons (len_cons len_nil))))
    (sb_one (ss_ret (se_tup (sa_cons (se_var (pv 1)) (sa_cons (se_call I_law_with (hr.mono (by decide)) tk (sa_cons (se_var (pv 2)) (sa_cons (se_var (pv 6)) (sa_cons (se_tup (sa_cons (se_idx (u65 hr) (se_idx (u65 hr) (se_var (pv 2)) (se_var (pv 6))) se_int) (sa_cons (se_var (pv 11)) (sa_cons (se_idx (u65 hr) (se_idx (u65 hr) (se_var (pv 2)) (se_var (pv 6))) se_int) sa_nil)))) sa_nil))) (len_cons (len_cons (len_cons len_nil)))) (sa_cons (se_var (pv 3)) sa_nil)))))))))))))))))
abbrev s_law_is_whole : Stmt := (top 42)
abbrev N_law_is_whole : List Str := ["_law_points_here", "_law_takes_here", "_law_one"]
theorem sc_law_is_whole : FnScope N_law_is_whole ["_law_points_here", "_law_takes_here"] (defScope s_law_is_whole) := ⟨rfl, rfl, rfl, by decide +kernel, rfl, by decide +kernel, by decide +kernel⟩
theorem b_law_is_whole {f : Addr} (T : Txt P K mg cm) : BodyOk P w K mg base cm N_law_is_whole "_law_is_whole" (defScope s_law_is_whole) f (defBody s_law_is_whole) 0 m_law_is_whole := by
  intro fx cdv A outer s H E hr tk hp
  exact (sb_cons (ss_if (PW.pt (sw_or (st_not (st_tru (se_isiB .tup [] T.z_isinstance T.z_tuple (se_var (pv 0)) (fun _ h => nomatch h) (fun _ h => nomatch h) (fun h => nomatch h)))) (sw_or (st_not (st_tru (se_isiB .tup [] T.z_isinstance T.z_tuple (se_var (pv 1)) (fun _ h => nomatch h) (fun _ h => nomatch h) (fun h => nomatch h)))) (pw_or1 (st_cmp (op_oEqT0 (u64 hr) (op_oEq (u64 hr))) (se_var (pv 1)) (se_tup sa_nil)))))) (sb_one (ss_ret se_bl)) sb_nil)
    (sb_one (ss_ret (se_fnB (c_all rfl) T.z_all (sa_cons (se_lc (own := [("_law_one", 2)]) rfl sc_law_is_whole.nd (si_iter (se_var (pv 1))) (blkOk_by (own := [("_law_one", 2)]) (N := N_law_is_whole) (sc := defScope s_law_is_whole) (by decide +kernel)) (fun _ _ _ _ _ => (sg_name sc_law_is_whole.nd rfl)) (fun _ _ _ _ _ => sts_nil) (fun _ _ _ _ _ => (se_andV (se_isiB .tup [] T.z_isinstance T.z_tuple (se_var (pv 2)) (fun _ h => nomatch h) (fun _ h => nomatch h) (fun h => nomatch h)) (se_one (se_cmp (op_oEqT0 (u64 hr) (op_oEq (u64 hr))) (se_fnB c_len T.z_len (sa_cons (se_var (pv 2)) sa_nil)) se_int))))) sa_nil)))))
abbrev s_is_integer : Stmt := (top 15)
abbrev N_is_integer : List Str := ["value"]
theorem sc_is_integer : FnScope N_is_integer ["value"] (defScope s_is_integer) := ⟨rfl, rfl, rfl, by decide +kernel, rfl, by decide +kernel, by decide +kernel⟩
theorem b_is_integer {f : Addr} (T : Txt P K mg cm) : BodyOk P w K mg base cm N_is_integer "is_integer" (defScope s_is_integer) f (defBody s_is_integer) 0 m_is_integer := by
  intro fx cdv A outer s H E hr tk hp
  exact (sb_one (ss_ret (se_andV (se_isiB .int [] T.z_isinstance T.z_int (se_var (pv 0)) (fun _ h => nomatch h) (fun _ h => nomatch h) (fun h => nomatch h)) (se_one (se_notV (se_isiB .bl [] T.z_isinstance T.z_bool (se_var (pv 0)) (fun _ h => nomatch h) (fun _ h => nomatch h) (fun h => nomatch h)))))))
abbrev s_is_place : Stmt := (top 21)
abbrev N_is_place : List Str := ["place", "index"]
theorem sc_is_place : FnScope N_is_place ["place", "index"] (defScope s_is_place) := ⟨rfl, rfl, rfl, by decide +kernel, rfl, by decide +kernel, by decide +kernel⟩
theorem b_is_place {f : Addr} (T : Txt P K mg cm) (I_is_integer : FI P w K mg base cm "is_integer" 1 1 G_is_integer) : BodyOk P w K mg base cm N_is_place "is_place" (defScope s_is_place) f (defBody s_is_place) 1 m_is_place := by
  intro fx cdv A outer s H E hr tk hp
  exact (sb_cons (ss_if (PW.pt (sw_or (st_not (st_tru (se_isiB .tup [] T.z_isinstance T.z_tuple (se_var (pv 0)) (fun _ h => nomatch h) (fun _ h => nomatch h) (fun h => nomatch h)))) (sw_or (st_cmp (op_oNotIn (u65 hr)) (se_fnB c_len T.z_len (sa_cons (se_var (pv 0)) sa_nil)) (se_tup (sa_cons se_int (sa_cons se_int sa_nil)))) (pw_or1 (st_not (st_tru (se_isiB .str [] T.z_isinstance T.z_str (se_idx (u65 hr) (se_var (pv 0)) se_int) (fun _ h => nomatch h) (fun _ h => nomatch h) (fun h => nomatch h)))))))) (sb_one (ss_ret se_bl)) sb_nil)
    (sb_cons (ss_if (st_cmp (op_oEq (u64 hr)) (se_fnB c_len T.z_len (sa_cons (se_var (pv 0)) sa_nil)) se_int) (sb_one (ss_ret (se_cmp (op_oEq (u64 hr)) (se_idx (u65 hr) (se_var (pv 0)) se_int) se_str))) sb_nil)
    (sb_one (ss_ret (se_andV (se_cmp (op_oEq (u64 hr)) (se_idx (u65 hr) (se_var (pv 0)) se_int) se_str) (se_andV (se_call I_is_integer (hr.mono (by decide)) tk (sa_cons (se_idx (u65 hr) (se_var (pv 0)) se_int) sa_nil) (len_cons len_nil)) (se_one (se_chain op_oLe op_oLe se_int (se_idx (u65 hr) (se_var (pv 0)) se_int) (se_var (pv 1))))))))))
abbrev s_checked_points : Stmt := (top 24)
abbrev N_checked_points : List Str := ["points", "index", "place"]
theorem sc_checked_points : FnScope N_checked_points ["points"] (defScope s_checked_points) := ⟨rfl, rfl, rfl, by decide +kernel, rfl, by decide +kernel, by decide +kernel⟩
theorem b_checked_points {f : Addr} (T : Txt P K mg cm) (I_is_place : FI P w K mg base cm "is_place" 2 2 G_is_place) : BodyOk P w K mg base cm N_checked_points "checked_points" (defScope s_checked_points) f (defBody s_checked_points) 2 m_checked_points := by
  intro fx cdv A outer s H E hr tk hp
  exact (sb_cons (ss_if (PW.pt (sw_or (st_not (st_tru (se_isiB .tup [] T.z_isinstance T.z_tuple (se_var (pv 0)) (fun _ h => nomatch h) (fun _ h => nomatch h) (fun h => nomatch h)))) (pw_or1 (st_cmp op_oGt (se_fnB c_len T.z_len (sa_cons (se_var (pv 0)) sa_nil)) (se_g T.g_MOST_POINTS))))) (sb_one (ss_raise2 rfl tk T.e2_BadWay (by decide) (hr.mono (by decide)) T.z_super T.g_BadWay (sa_cons se_str (sa_cons (se_neg se_int) sa_nil)))) sb_nil)
    (sb_one (ss_for hp rfl (si_enum rfl T.z_enumerate (pa_cons (se_var (pv 0)) pa_nil)) (sg_tup rfl (sgs_cons (sg_name sc_checked_points.nd rfl) (sgs_cons (sg_name sc_checked_points.nd rfl) sgs_nil))) (sb_one (ss_if (st_not (st_tru (se_call I_is_place (hr.mono (by decide)) tk (sa_cons (se_var (pv 2)) (sa_cons (se_var (pv 1)) sa_nil)) (len_cons (len_cons len_nil))))) (sb_one (ss_raise2 rfl tk T.e2_BadWay (by decide) (hr.mono (by decide)) T.z_super T.g_BadWay (sa_cons se_str (sa_cons (se_var (pv 1)) sa_nil)))) sb_nil)))))
abbrev s_is_take : Stmt := (top 22)
abbrev N_is_take : List Str := ["take", "points", "word", "point", "mode"]
theorem sc_is_take : FnScope N_is_take ["take", "points"] (defScope s_is_take) := ⟨rfl, rfl, rfl, by decide +kernel, rfl, by decide +kernel, by decide +kernel⟩
theorem b_is_take {f : Addr} (T : Txt P K mg cm) (I_is_integer : FI P w K mg base cm "is_integer" 1 1 G_is_integer) : BodyOk P w K mg base cm N_is_take "is_take" (defScope s_is_take) f (defBody s_is_take) 1 m_is_take := by
  intro fx cdv A outer s H E hr tk hp
  exact (sb_cons (ss_if (PW.pt (sw_or (st_not (st_tru (se_isiB .tup [] T.z_isinstance T.z_tuple (se_var (pv 0)) (fun _ h => nomatch h) (fun _ h => nomatch h) (fun h => nomatch h)))) (pw_or1 (st_cmp (op_oNe (u64 hr)) (se_fnB c_len T.z_len (sa_cons (se_var (pv 0)) sa_nil)) se_int)))) (sb_one (ss_ret se_bl)) sb_nil)
    (sb_cons (ss_asg (se_var (pv 0)) (sg_tup rfl (sgs_cons (sg_name sc_is_take.nd rfl) (sgs_cons (sg_name sc_is_take.nd rfl) (sgs_cons (sg_name sc_is_take.nd rfl) sgs_nil)))))
    (sb_cons (ss_if (PW.pt (sw_or (st_not (st_tru (se_isiB .str [] T.z_isinstance T.z_str (se_var (pv 2)) (fun _ h => nomatch h) (fun _ h => nomatch h) (fun h => nomatch h)))) (sw_or (st_not (st_tru (se_isiB .str [] T.z_isinstance T.z_str (se_var (pv 4)) (fun _ h => nomatch h) (fun _ h => nomatch h) (fun h => nomatch h)))) (pw_or1 (st_not (st_tru (se_call I_is_integer (hr.mono (by decide)) tk (sa_cons (se_var (pv 3)) sa_nil) (len_cons len_nil)))))))) (sb_one (ss_ret se_bl)) sb_nil)
    (sb_one (ss_ret (se_andV (se_cmp (op_oIn (u65 hr)) (se_var (pv 2)) (se_g T.g_WORDS)) (se_andV (se_cmp (op_oIn (u65 hr)) (se_var (pv 4)) (se_g T.g_MODES)) (se_one (se_chain op_oLe op_oLt se_int (se_var (pv 3)) (se_var (pv 1)))))))))))
abbrev s_is_allowed : Stmt := (top 23)
abbrev N_is_allowed : List Str := ["takes", "index", "hops", "word", "point", "mode", "is_hop", "take"]
theorem sc_is_allowed : FnScope N_is_allowed ["takes", "index", "hops"] (defScope s_is_allowed) := ⟨rfl, rfl, rfl, by decide +kernel, rfl, by decide +kernel, by decide +kernel⟩
theorem b_is_allowed {f : Addr} (T : Txt P K mg cm) : BodyOk P w K mg base cm N_is_allowed "is_allowed" (defScope s_is_allowed) f (defBody s_is_allowed) 0 m_is_allowed := by
  intro fx cdv A outer s H E hr tk hp
  exact (sb_cons (ss_asg (se_idx (u65 hr) (se_var (pv 0)) (se_var (pv 1))) (sg_tup rfl (sgs_cons (sg_name sc_is_allowed.nd rfl) (sgs_cons (sg_name sc_is_allowed.nd rfl) (sgs_cons (sg_name sc_is_allowed.nd rfl) sgs_nil)))))
    (sb_cons (ss_if (st_cmp (op_oIn (u65 hr)) (se_var (pv 4)) (se_lc (own := [("take", 7)]) rfl sc_is_allowed.nd (si_iter (se_slice (se_var (pv 0)) so_none (so_some (se_var (pv 1))))) (blkOk_by (own := [("take", 7)]) (N := N_is_allowed) (sc := defScope s_is_allowed) (by decide +kernel)) (fun _ _ _ _ _ => (sg_name sc_is_allowed.nd rfl)) (fun _ _ _ _ _ => sts_nil) (fun _ _ _ _ _ => (se_idx (u65 hr) (se_var (pv 7)) se_int)))) (sb_one (ss_ret se_bl)) sb_nil)
    (sb_cons (ss_set sc_is_allowed.nd rfl (se_chain op_oLe op_oLe se_int (se_var (pv 1)) (se_var (pv 2))))
    (sb_cons (ss_if (st_cmp (op_oEq (u64 hr)) (se_var (pv 3)) (se_ifE (st_tru (se_var (pv 6))) se_str se_str)) (sb_one (ss_ret se_bl)) sb_nil)
    (sb_one (ss_ret (se_orV (se_cmp (op_oNe (u64 hr)) (se_var (pv 5)) se_str) (se_one (se_andV (se_notV (se_var (pv 6))) (se_andV (se_cmp op_oGt (se_var (pv 1)) se_int) (se_one (se_cmp (op_oNe (u64 hr)) (se_idx (u65 hr) (se_idx (u65 hr) (se_var (pv 0)) (se_op op_oSub (se_var (pv 1)) se_int)) se_int) se_str))))))))))))
abbrev s_checked_takes : Stmt := (top 25)
abbrev N_checked_takes : List Str := ["points", "takes", "hops", "index", "take"]
theorem sc_checked_takes : FnScope N_checked_takes ["points", "takes", "hops"] (defScope s_checked_takes) := ⟨rfl, rfl, rfl, by decide +kernel, rfl, by decide +kernel, by decide +kernel⟩
theorem b_checked_takes {f : Addr} (T : Txt P K mg cm) (I_is_integer : FI P w K mg base cm "is_integer" 1 1 G_is_integer) (I_is_take : FI P w K mg base cm "is_take" 2 2 G_is_take) (I_is_allowed : FI P w K mg base cm "is_allowed" 1 3 G_is_allowed) : BodyOk P w K mg base cm N_checked_takes "checked_takes" (defScope s_checked_takes) f (defBody s_checked_takes) 2 m_checked_takes := by
  intro fx cdv A outer s H E hr tk hp
  exact (sb_cons (ss_if (PW.pt (sw_or (st_not (st_tru (se_call I_is_integer (hr.mono (by decide)) tk (sa_cons (se_var (pv 2)) sa_nil) (len_cons len_nil)))) (pw_or1 (st_cmp op_oLt (se_var (pv 2)) se_int)))) (sb_one (ss_raise2 rfl tk T.e2_BadWay (by decide) (hr.mono (by decide)) T.z_super T.g_BadWay (sa_cons se_str (sa_cons (se_neg se_int) sa_nil)))) sb_nil)
    (sb_cons (ss_if (PW.pt (sw_or (st_not (st_tru (se_isiB .tup [] T.z_isinstance T.z_tuple (se_var (pv 1)) (fun _ h => nomatch h) (fun _ h => nomatch h) (fun h => nomatch h)))) (pw_or1 (st_not (st_chain op_oLe op_oLe se_int (se_fnB c_len T.z_len (sa_cons (se_var (pv 1)) sa_nil)) (se_g T.g_MOST_TAKES)))))) (sb_one (ss_raise2 rfl tk T.e2_BadWay (by decide) (hr.mono (by decide)) T.z_super T.g_BadWay (sa_cons se_str (sa_cons (se_neg se_int) sa_nil)))) sb_nil)
    (sb_cons (ss_if (st_cmp op_oGe (se_var (pv 2)) (se_fnB c_len T.z_len (sa_cons (se_var (pv 1)) sa_nil))) (sb_one (ss_raise2 rfl tk T.e2_BadWay (by decide) (hr.mono (by decide)) T.z_super T.g_BadWay (sa_cons se_str (sa_cons (se_neg se_int) sa_nil)))) sb_nil)
    (sb_one (ss_for hp rfl (si_enum rfl T.z_enumerate (pa_cons (se_var (pv 1)) pa_nil)) (sg_tup rfl (sgs_cons (sg_name sc_checked_takes.nd rfl) (sgs_cons (sg_name sc_checked_takes.nd rfl) sgs_nil))) (sb_one (ss_if (PW.pt (sw_or (st_not (st_tru (se_call I_is_take (hr.mono (by decide)) tk (sa_cons (se_var (pv 4)) (sa_cons (se_op op_oAdd (se_fnB c_len T.z_len (sa_cons (se_var (pv 0)) sa_nil)) se_int) sa_nil)) (len_cons (len_cons len_nil))))) (pw_or1 (st_not (st_tru (se_call I_is_allowed (hr.mono (by decide)) tk (sa_cons (se_var (pv 1)) (sa_cons (se_var (pv 3)) (sa_cons (se_var (pv 2)) sa_nil))) (len_cons (len_cons (len_cons len_nil))))))))) (sb_one (ss_raise2 rfl tk T.e2_BadWay (by decide) (hr.mono (by decide)) T.z_super T.g_BadWay (sa_cons se_str (sa_cons (se_var (pv 3)) sa_nil)))) sb_nil)))))))
abbrev s_Wayu_initu : Stmt := (inClass (top 26) 1)
abbrev N_Wayu_initu : List Str := ["self", "points", "takes", "hops"]
theorem sc_Wayu_initu : FnScope N_Wayu_initu ["self", "points", "takes", "hops"] (defScope s_Wayu_initu) := ⟨rfl, rfl, rfl, by decide +kernel, rfl, by decide +kernel, by decide +kernel⟩
theorem b_Wayu_initu {f : Addr} (T : Txt P K mg cm) (I_checked_points : FI P w K mg base cm "checked_points" 3 1 G_checked_points) (I_checked_takes : FI P w K mg base cm "checked_takes" 3 3 G_checked_takes) : BodyOk P w K mg base cm N_Wayu_initu "Way.__init__" (defScope s_Wayu_initu) f (defBody s_Wayu_initu) 3 m_Wayu_initu := by
  intro fx cdv A outer s H E hr tk hp
  exact (sb_cons (ss_expr (se_call I_checked_points (hr.mono (by decide)) tk (sa_cons (se_var (pv 1)) sa_nil) (len_cons len_nil)))
    (sb_cons (ss_expr (se_call I_checked_takes (hr.mono (by decide)) tk (sa_cons (se_var (pv 1)) (sa_cons (se_var (pv 2)) (sa_cons (se_var (pv 3)) sa_nil))) (len_cons (len_cons (len_cons len_nil)))))
    (sb_cons (ss_fld (se_var (pv 0)) (se_var (pv 1)) T.c_Way T.n_Way_places)
    (sb_cons (ss_fld (se_var (pv 0)) (se_var (pv 2)) T.c_Way T.n_Way_locks)
    (sb_one (ss_fld (se_var (pv 0)) (se_var (pv 3)) T.c_Way T.n_Way_walked))))))
abbrev s_Way_points : Stmt := (inClass (top 26) 2)
abbrev N_Way_points : List Str := ["self"]
theorem sc_Way_points : FnScope N_Way_points ["self"] (defScope s_Way_points) := ⟨rfl, rfl, rfl, by decide +kernel, rfl, by decide +kernel, by decide +kernel⟩
theorem b_Way_points {f : Addr} (T : Txt P K mg cm) : BodyOk P w K mg base cm N_Way_points "Way.points" (defScope s_Way_points) f (defBody s_Way_points) 0 m_Way_points := by
  intro fx cdv A outer s H E hr tk hp
  exact (sb_one (ss_ret (se_fld (se_var (pv 0)) T.c_Way T.n_Way_places)))
abbrev s_Way_takes : Stmt := (inClass (top 26) 3)
abbrev N_Way_takes : List Str := ["self"]
theorem sc_Way_takes : FnScope N_Way_takes ["self"] (defScope s_Way_takes) := ⟨rfl, rfl, rfl, by decide +kernel, rfl, by decide +kernel, by decide +kernel⟩
theorem b_Way_takes {f : Addr} (T : Txt P K mg cm) : BodyOk P w K mg base cm N_Way_takes "Way.takes" (defScope s_Way_takes) f (defBody s_Way_takes) 0 m_Way_takes := by
  intro fx cdv A outer s H E hr tk hp
  exact (sb_one (ss_ret (se_fld (se_var (pv 0)) T.c_Way T.n_Way_locks)))
abbrev s_Way_hops : Stmt := (inClass (top 26) 4)
abbrev N_Way_hops : List Str := ["self"]
theorem sc_Way_hops : FnScope N_Way_hops ["self"] (defScope s_Way_hops) := ⟨rfl, rfl, rfl, by decide +kernel, rfl, by decide +kernel, by decide +kernel⟩
theorem b_Way_hops {f : Addr} (T : Txt P K mg cm) : BodyOk P w K mg base cm N_Way_hops "Way.hops" (defScope s_Way_hops) f (defBody s_Way_hops) 0 m_Way_hops := by
  intro fx cdv A outer s H E hr tk hp
  exact (sb_one (ss_ret (se_fld (se_var (pv 0)) T.c_Way T.n_Way_walked)))
abbrev s_law_alone : Stmt := (top 34)
abbrev N_law_alone : List Str := ["_law_e", "_law_kind", "_law_found", "_law_at"]
theorem sc_law_alone : FnScope N_law_alone ["_law_e", "_law_kind"] (defScope s_law_alone) := ⟨rfl, rfl, rfl, by decide +kernel, rfl, by decide +kernel, by decide +kernel⟩
theorem b_law_alone {f : Addr} (T : Txt P K mg cm) : BodyOkX P w K mg base cm N_law_alone "_law_alone" (defScope s_law_alone) f (defBody s_law_alone) 0 m_law_alone := by
  intro c p fx cdv A outer s H E hx hot hr
  exact (sb_cons (ss_set sc_law_alone.nd rfl (se_lst (sa_cons (se_isHC hx List.mem_cons_self T.z_isinstance T.g_BadHistory (xs_cons T.xq_BadWay T.ki_BadWay_BadHistory xs_nil) (se_var (pv 0))) (sa_cons (se_isHC hx List.mem_cons_self T.z_isinstance T.g_BadLine (xs_cons T.xq_BadWay T.ki_BadWay_BadLine xs_nil) (se_var (pv 0))) (sa_cons (se_isHC hx List.mem_cons_self T.z_isinstance T.g_BadPick (xs_cons T.xq_BadWay T.ki_BadWay_BadPick xs_nil) (se_var (pv 0))) (sa_cons (se_isHC hx List.mem_cons_self T.z_isinstance T.g_BadStart (xs_cons T.xq_BadWay T.ki_BadWay_BadStart xs_nil) (se_var (pv 0))) sa_nil))))))
    (sb_cons (ss_set sc_law_alone.nd rfl (se_op op_oAdd (se_var (pv 2)) (se_lst (sa_cons (se_isHC hx List.mem_cons_self T.z_isinstance T.g_BadText (xs_cons T.xq_BadWay T.ki_BadWay_BadText xs_nil) (se_var (pv 0))) (sa_cons (se_isHC hx List.mem_cons_self T.z_isinstance T.g_BadTree (xs_cons T.xq_BadWay T.ki_BadWay_BadTree xs_nil) (se_var (pv 0))) (sa_cons (se_isHC hx List.mem_cons_self T.z_isinstance T.g_BadTurn (xs_cons T.xq_BadWay T.ki_BadWay_BadTurn xs_nil) (se_var (pv 0))) (sa_cons (se_isHC hx List.mem_cons_self T.z_isinstance T.g_BadWay (xs_cons T.xq_BadWay T.ki_BadWay_BadWay xs_nil) (se_var (pv 0))) sa_nil)))))))
    (sb_cons (ss_set sc_law_alone.nd rfl (se_op op_oAdd (se_var (pv 2)) (se_lst (sa_cons (se_isHC hx List.mem_cons_self T.z_isinstance T.g_NoName (xs_cons T.xq_BadWay T.ki_BadWay_NoName xs_nil) (se_var (pv 0))) (sa_cons (se_isHC hx List.mem_cons_self T.z_isinstance T.g_NoNode (xs_cons T.xq_BadWay T.ki_BadWay_NoNode xs_nil) (se_var (pv 0))) (sa_cons (se_isHC hx List.mem_cons_self T.z_isinstance T.g_TooMany (xs_cons T.xq_BadWay T.ki_BadWay_TooMany xs_nil) (se_var (pv 0))) sa_nil))))))
    (sb_one (ss_ret (se_andV (se_isHB hx List.mem_cons_self T.z_isinstance T.z_ValueError (by decide +kernel) (xs_cons T.xq_BadWay T.ki_BadWay_ValueError xs_nil) (se_var (pv 0))) (se_one (se_cmp (op_oEq (u64H hr)) (se_var (pv 2)) (se_lcH (own := [("_law_at", 3)]) hot sc_law_alone.nd (si_rng1H rfl T.z_range (pa_cons se_int pa_nil)) (blkOk_by (own := [("_law_at", 3)]) (N := N_law_alone) (sc := defScope s_law_alone) (by decide +kernel)) (fun _ _ _ _ _ _ => (sg_name sc_law_alone.nd rfl)) (fun _ _ _ _ _ _ => sts_nil) (fun _ _ _ _ _ _ => (se_cmp (op_oEq (u64H hr)) (se_var (pv 3)) (se_var (pv 1)))))))))))))
abbrev s_law_asked : Stmt := (top 43)
abbrev N_law_asked : List Str := ["_law_points_here", "_law_takes_here", "_law_paces", "_law_made", "_law_e"]
theorem sc_law_asked : FnScope N_law_asked ["_law_points_here", "_law_takes_here", "_law_paces"] (defScope s_law_asked) := ⟨rfl, rfl, rfl, by decide +kernel, rfl, by decide +kernel, by decide +kernel⟩
theorem b_law_asked {f : Addr} (T : Txt P K mg cm) (I_Wayu_initu_K2_hops : CkI P w K mg base cm "Way" 12 4 2 ["hops"] gd_Way_K2_hops 4 G_Wayu_initu) (I_Way_points : PrI P w K mg base cm 12 "points" 1 G_Way_points) (I_Way_takes : PrI P w K mg base cm 12 "takes" 1 G_Way_takes) (I_Way_hops : PrI P w K mg base cm 12 "hops" 1 G_Way_hops) (I_law_alone : FXI P w K mg base cm "_law_alone" 1 2 Fulaw_alone) : BodyOk P w K mg base cm N_law_asked "_law_asked" (defScope s_law_asked) f (defBody s_law_asked) 5 m_law_asked := by
  intro fx cdv A outer s H E hr tk hp
  exact (sb_cons (ss_try (i := 4) rfl rfl sc_law_asked.nd rfl rfl ⟨rfl, by decide, .inl T.g_WaitError⟩ tk (fun W pn xe tk hp => (sb_one (ss_set sc_law_asked.nd rfl (se_makeK I_Wayu_initu_K2_hops (hr.mono (by decide)) tk (sa_cons (se_var (pv 0)) (sa_cons (se_var (pv 1)) sa_nil)) (sk_cons (se_var (pv 2)) sk_nil) (len_cons (len_cons len_nil)) (len_cons len_nil) (fun _ as bs h h2 => match as, bs, h, h2 with | [_, _], [_], _, _ => rfl))))) (su_ifE (su_val (su_callXN I_law_alone (hr.mono (by decide)) (su_cons (su_pure (fun fx a oe pn => se_int)) su_nil) ⟨rfl, .inl rfl, by decide, by decide⟩)) (su_tup (su_cons (su_pure (fun fx a oe pn => se_str)) (su_cons (su_fldN T.xf_BadWay T.xn_BadWay_part ⟨rfl, .inl rfl, by decide, by decide⟩) (su_cons (su_fldN T.xf_BadWay T.xn_BadWay_index ⟨rfl, .inl rfl, by decide, by decide⟩) su_nil)))) (su_pure (fun fx a oe pn => (se_tup (sa_cons se_str sa_nil))))) (subL_ok (P := fun c b => PySem.W.exmOne K (.ref (cm c)) (.ref (cm 0)) = some b) (xm_cons T.xm_BadWay_WaitError xm_nil)))
    (sb_one (ss_ret (se_tup (sa_cons se_str (sa_cons (se_prop I_Way_points (hr.mono (by decide)) (se_var (pv 3))) (sa_cons (se_prop I_Way_takes (hr.mono (by decide)) (se_var (pv 3))) (sa_cons (se_prop I_Way_hops (hr.mono (by decide)) (se_var (pv 3))) sa_nil))))))))
abbrev s_law : Stmt := (top 44)
abbrev N_law : List Str := ["_law_script", "_law_k", "_law_bag_here", "_law_points_here", "_law_takes_here", "_law_paces", "_law_turn", "_law_parts_here", "_law_fault_here", "_law_due", "_law_kept"]
theorem sc_law : FnScope N_law ["_law_script"] (defScope s_law) := ⟨rfl, rfl, rfl, by decide +kernel, rfl, by decide +kernel, by decide +kernel⟩
theorem b_law {f : Addr} (T : Txt P K mg cm) (I_law_bag : FI P w K mg base cm "_law_bag" 1 2 Gulaw_bag) (I_law_take : FI P w K mg base cm "_law_take" 1 2 Gulaw_take) (I_law_parts : FI P w K mg base cm "_law_parts" 4 1 Gulaw_parts) (I_law_fault : FI P w K mg base cm "_law_fault" 3 3 Gulaw_fault) (I_law_spoilt : FI P w K mg base cm "_law_spoilt" 4 4 Gulaw_spoilt) (I_law_is_whole : FI P w K mg base cm "_law_is_whole" 1 2 Gulaw_is_whole) (I_law_asked : FI P w K mg base cm "_law_asked" 6 3 Gulaw_asked) : BodyOkG P w K mg base cm N_law "law" (defScope s_law) f (defBody s_law) 6 m_law := by
  intro fx cdv A outer s H E hgd hr tk hp
  exact (sb_cons (ss_for hp rfl (si_rng1 rfl T.z_range (pa_cons (se_fnB (c_max rfl) T.z_max (sa_cons se_int (sa_cons (se_fnB (c_min rfl) T.z_min (sa_cons se_int (sa_cons (se_fnB c_len T.z_len (sa_cons (se_var (pv 0)) sa_nil)) sa_nil))) sa_nil))) pa_nil)) (sg_name sc_law.nd rfl) (sb_cons (ss_set sc_law.nd rfl (se_call I_law_bag (hr.mono (by decide)) tk (sa_cons (se_var (pv 0)) (sa_cons (se_var (pv 1)) sa_nil)) (len_cons (len_cons len_nil))))
    (sb_cons (ss_asg (se_call I_law_parts (hr.mono (by decide)) tk (sa_cons (se_var (pv 2)) sa_nil) (len_cons len_nil)) (sg_tup rfl (sgs_cons (sg_name sc_law.nd rfl) (sgs_cons (sg_name sc_law.nd rfl) (sgs_cons (sg_name sc_law.nd rfl) sgs_nil)))))
    (sb_one (ss_for hp rfl (si_rng1 rfl T.z_range (pa_cons se_int pa_nil)) (sg_name sc_law.nd rfl) (sb_cons (ss_set sc_law.nd rfl (se_call I_law_spoilt (hr.mono (by decide)) tk (sa_cons (se_var (pv 2)) (sa_cons (se_var (pv 3)) (sa_cons (se_var (pv 4)) (sa_cons (se_var (pv 5)) sa_nil)))) (len_cons (len_cons (len_cons (len_cons len_nil))))))
    (sb_cons (ss_if (PW.pt (sw_and (st_tru (se_call I_law_is_whole (hr.mono (by decide)) tk (sa_cons (se_idx (u65 hr) (se_var (pv 7)) se_int) (sa_cons (se_idx (u65 hr) (se_var (pv 7)) se_int) sa_nil)) (len_cons (len_cons len_nil)))) (pw_and1 (st_cmp (op_oEq (u64 hr)) (se_call I_law_take (hr.mono (by decide)) tk (sa_cons (se_var (pv 2)) (sa_cons se_int sa_nil)) (len_cons (len_cons len_nil))) se_int)))) (sb_one (ss_set sc_law.nd rfl (se_call I_law_spoilt (hr.mono (by decide)) tk (sa_cons (se_var (pv 2)) (sa_cons (se_idx (u65 hr) (se_var (pv 7)) se_int) (sa_cons (se_idx (u65 hr) (se_var (pv 7)) se_int) (sa_cons se_int sa_nil)))) (len_cons (len_cons (len_cons (len_cons len_nil))))))) sb_nil)
    (sb_cons (ss_set sc_law.nd rfl (se_call I_law_fault (hr.mono (by decide)) tk (sa_cons (se_idx (u65 hr) (se_var (pv 7)) se_int) (sa_cons (se_idx (u65 hr) (se_var (pv 7)) se_int) (sa_cons (se_idx (u65 hr) (se_var (pv 7)) se_int) sa_nil))) (len_cons (len_cons (len_cons len_nil)))))
    (sb_cons (ss_set sc_law.nd rfl (se_ifE (st_cmp op_oIsN (se_var (pv 8)) se_non) (se_op op_oAdd (se_tup (sa_cons se_str sa_nil)) (se_var (pv 7))) (se_op op_oAdd (se_tup (sa_cons se_str sa_nil)) (se_var (pv 8)))))
    (sb_cons (ss_set sc_law.nd rfl (se_fnB (c_reprD hgd (u65 hr)) T.z_repr (sa_cons (se_var (pv 7)) sa_nil)))
    (sb_one (ss_if (PW.pt (sw_or (st_cmp (op_neTx (op_oNe (u64 hr))) (se_fnB (c_reprD hgd (u65 hr)) T.z_repr (sa_cons (se_call I_law_asked (hr.mono (by decide)) tk (sa_cons (se_idx (u65 hr) (se_var (pv 7)) se_int) (sa_cons (se_idx (u65 hr) (se_var (pv 7)) se_int) (sa_cons (se_idx (u65 hr) (se_var (pv 7)) se_int) sa_nil))) (len_cons (len_cons (len_cons len_nil)))) sa_nil)) (se_fnB (c_reprD hgd (u65 hr)) T.z_repr (sa_cons (se_var (pv 9)) sa_nil))) (pw_or1 (st_cmp (op_neTx (op_oNe (u64 hr))) (se_fnB (c_reprD hgd (u65 hr)) T.z_repr (sa_cons (se_var (pv 7)) sa_nil)) (se_var (pv 10)))))) (sb_one (ss_ret se_bl)) sb_nil))))))))))))
    (sb_one (ss_ret se_bl)))
end
theorem all_mk {P : Program} {w : World} {K : PySem.W.Frag} {h : Heap} {mg : Str → Option Value} {fa : Addr} (X : K.In h) (G : h.Ns mainGlobals mg) (hfa : mg "law" = some (.ref fa))
    {C0 C1 C2 C3 C4 C5 C6 C7 C8 C9 C10 C11 C12 Ag_MODES Ag_WORDS fE3 cE3 dE3 NE3 f0 f1 f2 f3 f4 f5 f6 f7 f8 f9 f10 f11 f12 f13 f14 f15 f16 f17 f18 f19 f20 D20 f21 p21 f22 p22 f23 p23 f24 f25 f26 : Addr} {tg_MODES_0 tg_MODES_1 tg_MODES_2 tg_MOST_POINTS tg_MOST_TAKES tg_WORDS_0 tg_WORDS_1 tg_WORDS_2 tfE3 tk20_hops : Tok} {Dg_MODES Dg_WORDS oE3 aE3 lE3 gE3 hE3 od0 an0 od1 an1 od2 an2 od3 an3 od4 an4 od5 an5 od6 an6 od7 an7 od8 an8 od9 an9 od10 an10 od11 an11 od12 an12 od13 an13 od14 an14 od15 an15 od16 an16 od17 an17 od18 an18 od19 an19 od20 an20 od21 an21 od22 an22 od23 an23 od24 an24 od25 an25 od26 an26 : Option Addr} {ng_MODES ng_WORDS : Nat} {sg_MODES sg_WORDS slE3 smE3 snE3 sl0 sl1 sl2 sl3 sl4 sl5 sl6 sl7 sl8 sl9 sl10 sl11 sl12 sl13 sl14 sl15 sl16 sl17 sl18 sl19 sl20 sl21 sl22 sl23 sl24 sl25 sl26 : Array (Option Value)} {v0E3 v2E3 v3E3 v4E3 v5E3 v6E3 v7E3 oc0 dc0 pm0 cd0 ct0 kV0 oc1 dc1 pm1 cd1 ct1 kV1 oc2 dc2 pm2 cd2 ct2 kV2 oc3 dc3 pm3 cd3 ct3 kV3 oc4 dc4 pm4 cd4 ct4 kV4 oc5 dc5 pm5 cd5 ct5 kV5 oc6 dc6 pm6 cd6 ct6 kV6 oc7 dc7 pm7 cd7 ct7 kV7 oc8 dc8 pm8 cd8 ct8 kV8 oc9 dc9 pm9 cd9 ct9 kV9 oc10 dc10 pm10 cd10 ct10 kV10 oc11 dc11 pm11 cd11 ct11 kV11 oc12 dc12 pm12 cd12 ct12 kV12 oc13 dc13 pm13 cd13 ct13 kV13 oc14 dc14 pm14 cd14 ct14 kV14 oc15 dc15 pm15 cd15 ct15 kV15 oc16 dc16 pm16 cd16 ct16 kV16 oc17 dc17 pm17 cd17 ct17 kV17 oc18 dc18 pm18 cd18 ct18 kV18 oc19 dc19 pm19 cd19 ct19 kV19 oc20 dc20 pm20 cd20 ct20 oc21 dc21 pm21 cd21 ct21 kV21 oc22 dc22 pm22 cd22 ct22 kV22 oc23 dc23 pm23 cd23 ct23 kV23 oc24 dc24 pm24 cd24 ct24 kV24 oc25 dc25 pm25 cd25 ct25 kV25 oc26 dc26 pm26 cd26 ct26 kV26 : Value} {vsE3 : Array Value} {fiE3 nmE3 qnE3 : Str} {bsE3 bmE3 suE3 rs21 rs22 rs23 : List Value} {snE_3 : List Str} {abE3 : Bool} {coE3 : Option Bool} {k0E3 k1E3 k2E3 k3E3 k5E3 : Option Value}
    (aC0 : PySem.W.nsIn K mainGlobals "WaitError" = some (some (.ref C0)))
    (aC1 : PySem.W.nsIn K mainGlobals "BadTree" = some (some (.ref C1)))
    (aC2 : PySem.W.nsIn K mainGlobals "NoNode" = some (some (.ref C2)))
    (aC3 : PySem.W.nsIn K mainGlobals "BadWay" = some (some (.ref C3)))
    (aC4 : PySem.W.nsIn K mainGlobals "BadStart" = some (some (.ref C4)))
    (aC5 : PySem.W.nsIn K mainGlobals "BadTurn" = some (some (.ref C5)))
    (aC6 : PySem.W.nsIn K mainGlobals "BadHistory" = some (some (.ref C6)))
    (aC7 : PySem.W.nsIn K mainGlobals "BadPick" = some (some (.ref C7)))
    (aC8 : PySem.W.nsIn K mainGlobals "BadText" = some (some (.ref C8)))
    (aC9 : PySem.W.nsIn K mainGlobals "BadLine" = some (some (.ref C9)))
    (aC10 : PySem.W.nsIn K mainGlobals "NoName" = some (some (.ref C10)))
    (aC11 : PySem.W.nsIn K mainGlobals "TooMany" = some (some (.ref C11)))
    (aC12 : PySem.W.nsIn K mainGlobals "Way" = some (some (.ref C12)))
    (pg12 : PySem.W.plainGet K C12 Str.empty = true)
    (hd12 : PySem.W.hasDictIn K C12 = true)
    (po12 : PySem.W.plainOver K C12 = true)
    (sa12 : PySem.W.findIn K (.ref C12) "__setattr__" = some (some (.builtin "object.__setattr__")))
    (gg_MODES : PySem.W.nsIn K mainGlobals "MODES" = some (some (.ref Ag_MODES)))
    (lkg_MODES : K.lookup Ag_MODES = some ⟨.type "tuple", Dg_MODES, .seq #[(.str "shared" tg_MODES_0), (.str "alone" tg_MODES_1), (.str "rising" tg_MODES_2)] ng_MODES, sg_MODES⟩)
    (gg_MOST_POINTS : PySem.W.nsIn K mainGlobals "MOST_POINTS" = some (some (.int (4) tg_MOST_POINTS)))
    (gg_MOST_TAKES : PySem.W.nsIn K mainGlobals "MOST_TAKES" = some (some (.int (5) tg_MOST_TAKES)))
    (gg_WORDS : PySem.W.nsIn K mainGlobals "WORDS" = some (some (.ref Ag_WORDS)))
    (lkg_WORDS : K.lookup Ag_WORDS = some ⟨.type "tuple", Dg_WORDS, .seq #[(.str "take" tg_WORDS_0), (.str "try" tg_WORDS_1), (.str "leap" tg_WORDS_2)] ng_WORDS, sg_WORDS⟩)
    (ki_BadWay_BadHistory : PySem.W.kitOne K (.ref C3) (.ref C6) = some false)
    (ki_BadWay_BadLine : PySem.W.kitOne K (.ref C3) (.ref C9) = some false)
    (ki_BadWay_BadPick : PySem.W.kitOne K (.ref C3) (.ref C7) = some false)
    (ki_BadWay_BadStart : PySem.W.kitOne K (.ref C3) (.ref C4) = some false)
    (ki_BadWay_BadText : PySem.W.kitOne K (.ref C3) (.ref C8) = some false)
    (ki_BadWay_BadTree : PySem.W.kitOne K (.ref C3) (.ref C1) = some false)
    (ki_BadWay_BadTurn : PySem.W.kitOne K (.ref C3) (.ref C5) = some false)
    (ki_BadWay_BadWay : PySem.W.kitOne K (.ref C3) (.ref C3) = some true)
    (ki_BadWay_NoName : PySem.W.kitOne K (.ref C3) (.ref C10) = some false)
    (ki_BadWay_NoNode : PySem.W.kitOne K (.ref C3) (.ref C2) = some false)
    (ki_BadWay_TooMany : PySem.W.kitOne K (.ref C3) (.ref C11) = some false)
    (ki_BadWay_ValueError : PySem.W.kitOne K (.ref C3) (.type "ValueError") = some true)
    (fn_Way_locks : PySem.W.findIn K (.ref C12) "locks" = some none)
    (fn_Way_places : PySem.W.findIn K (.ref C12) "places" = some none)
    (fn_Way_walked : PySem.W.findIn K (.ref C12) "walked" = some none)
    (fg3 : PySem.W.findIn K (.ref C3) "__getattribute__" = some (some (.builtin "BaseException.__getattribute__")))
    (fh3 : PySem.W.findIn K (.ref C3) "__getattr__" = some none)
    (fb3 : PySem.W.subIn K (.ref C3) (.type "BaseException") = some true)
    (fd3 : PySem.W.hasDictIn K C3 = true)
    (xs3_0 : PySem.W.subIn K (.ref C3) (.ref C0) = some true)
    (xb0 : PySem.W.subIn K (.ref C0) (.type "BaseException") = some true)
    (xh0 : PySem.W.hasDictIn K C0 = true)
    (xt0 : PySem.W.typeIn K (.ref C0) = some (.type "type"))
    (xn_BadWay_index : PySem.W.findIn K (.ref C3) "index" = some none)
    (xn_BadWay_part : PySem.W.findIn K (.ref C3) "part" = some none)
    (qc3 : (PySem.W.clsIn K C3).isSome = true)
    (qg3 : PySem.W.findIn K (.ref C3) "__getattribute__" = some (some (.builtin "BaseException.__getattribute__")))
    (qt3 : PySem.W.findIn K (.ref C3) "__getattr__" = some none)
    (qb3 : PySem.W.subIn K (.ref C3) (.type "BaseException") = some true)
    (qa3 : PySem.W.findIn K (.ref C3) "__class__" = some (some (.builtin "object.__class__")))
    (qn3 : PySem.W.specialIn K (.builtin "object.__class__") "__get__" = some (some (.builtin "getset_descriptor.__get__")))
    (qk3 : PySem.W.takesIn K (.builtin "object.__class__") = some true)
    (qm3 : PySem.W.mroIn K C3 (.type "object") = some true)
    (z_ValueError : PySem.W.nsIn K mainGlobals "ValueError" = some none)
    (z_abs : PySem.W.nsIn K mainGlobals "abs" = some none)
    (z_all : PySem.W.nsIn K mainGlobals "all" = some none)
    (z_bool : PySem.W.nsIn K mainGlobals "bool" = some none)
    (z_enumerate : PySem.W.nsIn K mainGlobals "enumerate" = some none)
    (z_int : PySem.W.nsIn K mainGlobals "int" = some none)
    (z_isinstance : PySem.W.nsIn K mainGlobals "isinstance" = some none)
    (z_len : PySem.W.nsIn K mainGlobals "len" = some none)
    (z_list : PySem.W.nsIn K mainGlobals "list" = some none)
    (z_max : PySem.W.nsIn K mainGlobals "max" = some none)
    (z_min : PySem.W.nsIn K mainGlobals "min" = some none)
    (z_range : PySem.W.nsIn K mainGlobals "range" = some none)
    (z_repr : PySem.W.nsIn K mainGlobals "repr" = some none)
    (z_str : PySem.W.nsIn K mainGlobals "str" = some none)
    (z_super : PySem.W.nsIn K mainGlobals "super" = some none)
    (z_tuple : PySem.W.nsIn K mainGlobals "tuple" = some none)
    (iniE3 : PySem.W.findIn K (.ref C3) "__init__" = some (some (.ref fE3)))
    (lkE3 : K.lookup fE3 = some ⟨v0E3, oE3, .func (PySem.W.ksFn "__init__" "BadWay.__init__" (defArgs sE_BadWay) (defBody sE_BadWay) (defScope sE_BadWay) .none v2E3 v3E3 v4E3 aE3 (.ref dE3) v5E3 cE3), slE3⟩)
    (cdE3 : PySem.W.codeIn K (.ref dE3) "BadWay.__init__" = true)
    (ccE3 : K.lookup cE3 = some ⟨v6E3, lE3, .cell (some (.ref C3)), smE3⟩)
    (coE_3 : K.lookup dE3 = some ⟨v7E3, gE3, .fields vsE3, snE3⟩)
    (vsE_3 : vsE3[2]? = some (.str fiE3 tfE3))
    (fiE_3 : ((P.main.file : Str) == fiE3) = true)
    (oxE3 : K.lookup C3 = some (excClassObj nmE3 qnE3 C3 NE3 bsE3 bmE3 true snE_3 suE3 abE3 coE3 hE3 k0E3 k1E3 k2E3 k3E3 k5E3 "ValueError.__new__"))
    (rvE3 : PySem.HandSPX.refsVE bmE3 = true)
    (saE3 : PySem.W.findIn K (.ref C3) "__setattr__" = some (some (.builtin "object.__setattr__")))
    (exE3 : PySem.W.subIn K (.ref C3) (.type "BaseException") = some true)
    (tyE3 : PySem.W.typeIn K (.ref C3) = some (.type "type"))
    (kpE3 : PySem.W.keepIn K (.ref C3) = true)
    (tfE_3 : PySem.W.typeIn K (.ref fE3) = some (.type "function"))
    (spE3 : PySem.W.ks_superIn K C3 C3 "__init__" = some (some (.builtin "ValueError.__init__")))
    (svE3 : PySem.W.subIn K (.ref C3) (.type "ValueError") = some true)
    (smE_3 : PySem.W.mroIn K C3 (.ref C3) = some true)
    (opE3 : PySem.W.nsIn K cStatics "thirdparty.any" = some none)
    (topE : (P.main.scope.names.lookup ("super" : Str)).isSome = false)
    (noE3_part : PySem.W.findIn K (.ref C3) "part" = some none)
    (noE3_index : PySem.W.findIn K (.ref C3) "index" = some none)
    (a0 : PySem.W.nsIn K mainGlobals "_law_bag" = some (some (.ref f0)))
    (l0 : K.lookup f0 = some ⟨oc0, od0, .func (PySem.W.fnOf "_law_bag" "_law_bag" (defArgs s_law_bag) (defBody s_law_bag) (defScope s_law_bag) .none kV0 dc0 pm0 an0 cd0 ct0), sl0⟩)
    (c0 : PySem.W.codeIn K cd0 "_law_bag" = true)
    (k0 : PySem.W.keepIn K (.ref f0) = true)
    (a1 : PySem.W.nsIn K mainGlobals "_law_take" = some (some (.ref f1)))
    (l1 : K.lookup f1 = some ⟨oc1, od1, .func (PySem.W.fnOf "_law_take" "_law_take" (defArgs s_law_take) (defBody s_law_take) (defScope s_law_take) .none kV1 dc1 pm1 an1 cd1 ct1), sl1⟩)
    (c1 : PySem.W.codeIn K cd1 "_law_take" = true)
    (k1 : PySem.W.keepIn K (.ref f1) = true)
    (a2 : PySem.W.nsIn K mainGlobals "_law_points" = some (some (.ref f2)))
    (l2 : K.lookup f2 = some ⟨oc2, od2, .func (PySem.W.fnOf "_law_points" "_law_points" (defArgs s_law_points) (defBody s_law_points) (defScope s_law_points) .none kV2 dc2 pm2 an2 cd2 ct2), sl2⟩)
    (c2 : PySem.W.codeIn K cd2 "_law_points" = true)
    (k2 : PySem.W.keepIn K (.ref f2) = true)
    (a3 : PySem.W.nsIn K mainGlobals "_law_of" = some (some (.ref f3)))
    (l3 : K.lookup f3 = some ⟨oc3, od3, .func (PySem.W.fnOf "_law_of" "_law_of" (defArgs s_law_of) (defBody s_law_of) (defScope s_law_of) .none kV3 dc3 pm3 an3 cd3 ct3), sl3⟩)
    (c3 : PySem.W.codeIn K cd3 "_law_of" = true)
    (k3 : PySem.W.keepIn K (.ref f3) = true)
    (a4 : PySem.W.nsIn K mainGlobals "_law_takes" = some (some (.ref f4)))
    (l4 : K.lookup f4 = some ⟨oc4, od4, .func (PySem.W.fnOf "_law_takes" "_law_takes" (defArgs s_law_takes) (defBody s_law_takes) (defScope s_law_takes) .none kV4 dc4 pm4 an4 cd4 ct4), sl4⟩)
    (c4 : PySem.W.codeIn K cd4 "_law_takes" = true)
    (k4 : PySem.W.keepIn K (.ref f4) = true)
    (a5 : PySem.W.nsIn K mainGlobals "_law_parts" = some (some (.ref f5)))
    (l5 : K.lookup f5 = some ⟨oc5, od5, .func (PySem.W.fnOf "_law_parts" "_law_parts" (defArgs s_law_parts) (defBody s_law_parts) (defScope s_law_parts) .none kV5 dc5 pm5 an5 cd5 ct5), sl5⟩)
    (c5 : PySem.W.codeIn K cd5 "_law_parts" = true)
    (k5 : PySem.W.keepIn K (.ref f5) = true)
    (a6 : PySem.W.nsIn K mainGlobals "_law_whole" = some (some (.ref f6)))
    (l6 : K.lookup f6 = some ⟨oc6, od6, .func (PySem.W.fnOf "_law_whole" "_law_whole" (defArgs s_law_whole) (defBody s_law_whole) (defScope s_law_whole) .none kV6 dc6 pm6 an6 cd6 ct6), sl6⟩)
    (c6 : PySem.W.codeIn K cd6 "_law_whole" = true)
    (k6 : PySem.W.keepIn K (.ref f6) = true)
    (a7 : PySem.W.nsIn K mainGlobals "_law_is_place" = some (some (.ref f7)))
    (l7 : K.lookup f7 = some ⟨oc7, od7, .func (PySem.W.fnOf "_law_is_place" "_law_is_place" (defArgs s_law_is_place) (defBody s_law_is_place) (defScope s_law_is_place) .none kV7 dc7 pm7 an7 cd7 ct7), sl7⟩)
    (c7 : PySem.W.codeIn K cd7 "_law_is_place" = true)
    (k7 : PySem.W.keepIn K (.ref f7) = true)
    (a8 : PySem.W.nsIn K mainGlobals "_law_is_take" = some (some (.ref f8)))
    (l8 : K.lookup f8 = some ⟨oc8, od8, .func (PySem.W.fnOf "_law_is_take" "_law_is_take" (defArgs s_law_is_take) (defBody s_law_is_take) (defScope s_law_is_take) .none kV8 dc8 pm8 an8 cd8 ct8), sl8⟩)
    (c8 : PySem.W.codeIn K cd8 "_law_is_take" = true)
    (k8 : PySem.W.keepIn K (.ref f8) = true)
    (a9 : PySem.W.nsIn K mainGlobals "_law_fault" = some (some (.ref f9)))
    (l9 : K.lookup f9 = some ⟨oc9, od9, .func (PySem.W.fnOf "_law_fault" "_law_fault" (defArgs s_law_fault) (defBody s_law_fault) (defScope s_law_fault) .none kV9 dc9 pm9 an9 cd9 ct9), sl9⟩)
    (c9 : PySem.W.codeIn K cd9 "_law_fault" = true)
    (k9 : PySem.W.keepIn K (.ref f9) = true)
    (a10 : PySem.W.nsIn K mainGlobals "_law_any" = some (some (.ref f10)))
    (l10 : K.lookup f10 = some ⟨oc10, od10, .func (PySem.W.fnOf "_law_any" "_law_any" (defArgs s_law_any) (defBody s_law_any) (defScope s_law_any) .none kV10 dc10 pm10 an10 cd10 ct10), sl10⟩)
    (c10 : PySem.W.codeIn K cd10 "_law_any" = true)
    (k10 : PySem.W.keepIn K (.ref f10) = true)
    (a11 : PySem.W.nsIn K mainGlobals "_law_with" = some (some (.ref f11)))
    (l11 : K.lookup f11 = some ⟨oc11, od11, .func (PySem.W.fnOf "_law_with" "_law_with" (defArgs s_law_with) (defBody s_law_with) (defScope s_law_with) .none kV11 dc11 pm11 an11 cd11 ct11), sl11⟩)
    (c11 : PySem.W.codeIn K cd11 "_law_with" = true)
    (k11 : PySem.W.keepIn K (.ref f11) = true)
    (a12 : PySem.W.nsIn K mainGlobals "_law_spoilt" = some (some (.ref f12)))
    (l12 : K.lookup f12 = some ⟨oc12, od12, .func (PySem.W.fnOf "_law_spoilt" "_law_spoilt" (defArgs s_law_spoilt) (defBody s_law_spoilt) (defScope s_law_spoilt) .none kV12 dc12 pm12 an12 cd12 ct12), sl12⟩)
    (c12 : PySem.W.codeIn K cd12 "_law_spoilt" = true)
    (k12 : PySem.W.keepIn K (.ref f12) = true)
    (a13 : PySem.W.nsIn K mainGlobals "_law_is_whole" = some (some (.ref f13)))
    (l13 : K.lookup f13 = some ⟨oc13, od13, .func (PySem.W.fnOf "_law_is_whole" "_law_is_whole" (defArgs s_law_is_whole) (defBody s_law_is_whole) (defScope s_law_is_whole) .none kV13 dc13 pm13 an13 cd13 ct13), sl13⟩)
    (c13 : PySem.W.codeIn K cd13 "_law_is_whole" = true)
    (k13 : PySem.W.keepIn K (.ref f13) = true)
    (a14 : PySem.W.nsIn K mainGlobals "is_integer" = some (some (.ref f14)))
    (l14 : K.lookup f14 = some ⟨oc14, od14, .func (PySem.W.fnOf "is_integer" "is_integer" (defArgs s_is_integer) (defBody s_is_integer) (defScope s_is_integer) .none kV14 dc14 pm14 an14 cd14 ct14), sl14⟩)
    (c14 : PySem.W.codeIn K cd14 "is_integer" = true)
    (k14 : PySem.W.keepIn K (.ref f14) = true)
    (a15 : PySem.W.nsIn K mainGlobals "is_place" = some (some (.ref f15)))
    (l15 : K.lookup f15 = some ⟨oc15, od15, .func (PySem.W.fnOf "is_place" "is_place" (defArgs s_is_place) (defBody s_is_place) (defScope s_is_place) .none kV15 dc15 pm15 an15 cd15 ct15), sl15⟩)
    (c15 : PySem.W.codeIn K cd15 "is_place" = true)
    (k15 : PySem.W.keepIn K (.ref f15) = true)
    (a16 : PySem.W.nsIn K mainGlobals "checked_points" = some (some (.ref f16)))
    (l16 : K.lookup f16 = some ⟨oc16, od16, .func (PySem.W.fnOf "checked_points" "checked_points" (defArgs s_checked_points) (defBody s_checked_points) (defScope s_checked_points) .none kV16 dc16 pm16 an16 cd16 ct16), sl16⟩)
    (c16 : PySem.W.codeIn K cd16 "checked_points" = true)
    (k16 : PySem.W.keepIn K (.ref f16) = true)
    (a17 : PySem.W.nsIn K mainGlobals "is_take" = some (some (.ref f17)))
    (l17 : K.lookup f17 = some ⟨oc17, od17, .func (PySem.W.fnOf "is_take" "is_take" (defArgs s_is_take) (defBody s_is_take) (defScope s_is_take) .none kV17 dc17 pm17 an17 cd17 ct17), sl17⟩)
    (c17 : PySem.W.codeIn K cd17 "is_take" = true)
    (k17 : PySem.W.keepIn K (.ref f17) = true)
    (a18 : PySem.W.nsIn K mainGlobals "is_allowed" = some (some (.ref f18)))
    (l18 : K.lookup f18 = some ⟨oc18, od18, .func (PySem.W.fnOf "is_allowed" "is_allowed" (defArgs s_is_allowed) (defBody s_is_allowed) (defScope s_is_allowed) .none kV18 dc18 pm18 an18 cd18 ct18), sl18⟩)
    (c18 : PySem.W.codeIn K cd18 "is_allowed" = true)
    (k18 : PySem.W.keepIn K (.ref f18) = true)
    (a19 : PySem.W.nsIn K mainGlobals "checked_takes" = some (some (.ref f19)))
    (l19 : K.lookup f19 = some ⟨oc19, od19, .func (PySem.W.fnOf "checked_takes" "checked_takes" (defArgs s_checked_takes) (defBody s_checked_takes) (defScope s_checked_takes) .none kV19 dc19 pm19 an19 cd19 ct19), sl19⟩)
    (c19 : PySem.W.codeIn K cd19 "checked_takes" = true)
    (k19 : PySem.W.keepIn K (.ref f19) = true)
    (a20 : PySem.W.findIn K (.ref C12) "__init__" = some (some (.ref f20)))
    (i20 : PySem.W.isFn K (.ref f20) = true)
    (l20 : K.lookup f20 = some ⟨oc20, od20, .func (PySem.W.fnOf "__init__" "Way.__init__" (defArgs s_Wayu_initu) (defBody s_Wayu_initu) (defScope s_Wayu_initu) .none (.ref D20) dc20 pm20 an20 cd20 ct20), sl20⟩)
    (c20 : PySem.W.codeIn K cd20 "Way.__init__" = true)
    (k20 : PySem.W.keepIn K (.ref f20) = true)
    (kw20_hops : PySem.W.nsIn K D20 "hops" = some (some (.int (0) tk20_hops)))
    (mk12 : PySem.W.makesIn K C12 = true)
    (kc12 : PySem.W.keepIn K (.ref C12) = true)
    (a21 : PySem.W.findIn K (.ref C12) "points" = some (some (.ref p21)))
    (gq21 : PySem.W.specialIn K (.ref p21) "__get__" = some (some (.builtin "property.__get__")))
    (t21 : PySem.W.takesIn K (.ref p21) = some true)
    (r21 : PySem.W.recIn K p21 "property" = some (.ref f21 :: rs21))
    (l21 : K.lookup f21 = some ⟨oc21, od21, .func (PySem.W.fnOf "points" "Way.points" (defArgs s_Way_points) (defBody s_Way_points) (defScope s_Way_points) .none kV21 dc21 pm21 an21 cd21 ct21), sl21⟩)
    (c21 : PySem.W.codeIn K cd21 "Way.points" = true)
    (k21 : PySem.W.keepIn K (.ref f21) = true)
    (a22 : PySem.W.findIn K (.ref C12) "takes" = some (some (.ref p22)))
    (gq22 : PySem.W.specialIn K (.ref p22) "__get__" = some (some (.builtin "property.__get__")))
    (t22 : PySem.W.takesIn K (.ref p22) = some true)
    (r22 : PySem.W.recIn K p22 "property" = some (.ref f22 :: rs22))
    (l22 : K.lookup f22 = some ⟨oc22, od22, .func (PySem.W.fnOf "takes" "Way.takes" (defArgs s_Way_takes) (defBody s_Way_takes) (defScope s_Way_takes) .none kV22 dc22 pm22 an22 cd22 ct22), sl22⟩)
    (c22 : PySem.W.codeIn K cd22 "Way.takes" = true)
    (k22 : PySem.W.keepIn K (.ref f22) = true)
    (a23 : PySem.W.findIn K (.ref C12) "hops" = some (some (.ref p23)))
    (gq23 : PySem.W.specialIn K (.ref p23) "__get__" = some (some (.builtin "property.__get__")))
    (t23 : PySem.W.takesIn K (.ref p23) = some true)
    (r23 : PySem.W.recIn K p23 "property" = some (.ref f23 :: rs23))
    (l23 : K.lookup f23 = some ⟨oc23, od23, .func (PySem.W.fnOf "hops" "Way.hops" (defArgs s_Way_hops) (defBody s_Way_hops) (defScope s_Way_hops) .none kV23 dc23 pm23 an23 cd23 ct23), sl23⟩)
    (c23 : PySem.W.codeIn K cd23 "Way.hops" = true)
    (k23 : PySem.W.keepIn K (.ref f23) = true)
    (a24 : PySem.W.nsIn K mainGlobals "_law_alone" = some (some (.ref f24)))
    (l24 : K.lookup f24 = some ⟨oc24, od24, .func (PySem.W.fnOf "_law_alone" "_law_alone" (defArgs s_law_alone) (defBody s_law_alone) (defScope s_law_alone) .none kV24 dc24 pm24 an24 cd24 ct24), sl24⟩)
    (c24 : PySem.W.codeIn K cd24 "_law_alone" = true)
    (k24 : PySem.W.keepIn K (.ref f24) = true)
    (a25 : PySem.W.nsIn K mainGlobals "_law_asked" = some (some (.ref f25)))
    (l25 : K.lookup f25 = some ⟨oc25, od25, .func (PySem.W.fnOf "_law_asked" "_law_asked" (defArgs s_law_asked) (defBody s_law_asked) (defScope s_law_asked) .none kV25 dc25 pm25 an25 cd25 ct25), sl25⟩)
    (c25 : PySem.W.codeIn K cd25 "_law_asked" = true)
    (k25 : PySem.W.keepIn K (.ref f25) = true)
    (a26 : PySem.W.nsIn K mainGlobals "law" = some (some (.ref f26)))
    (l26 : K.lookup f26 = some ⟨oc26, od26, .func (PySem.W.fnOf "law" "law" (defArgs s_law) (defBody s_law) (defScope s_law) .none kV26 dc26 pm26 an26 cd26 ct26), sl26⟩)
    (c26 : PySem.W.codeIn K cd26 "law" = true)
    (k26 : PySem.W.keepIn K (.ref f26) = true) :
    ∃ (K : PySem.W.Frag) (cm : Nat → Addr) (fd : FuncData), K.In h ∧ (∀ (s : Shared) (u : Value), BindsTo s fd ⟨[u], []⟩ [("_law_script", u)]) ∧ ∀ base : Heap, K.In base → base.Ns mainGlobals mg → FnG P w K mg base 7 fa fd ["_law_script"] (spF w K cm 1 F_law) := by
  have e := hfa.symm.trans (PySem.W.mg_of X G a26)
  cases e
  refine ⟨K, (fun c => match c with | 0 => C0 | 1 => C1 | 2 => C2 | 3 => C3 | 4 => C4 | 5 => C5 | 6 => C6 | 7 => C7 | 8 => C8 | 9 => C9 | 10 => C10 | 11 => C11 | 12 => C12 | _ => 0), PySem.W.fnOf "law" "law" (defArgs s_law) (defBody s_law) (defScope s_law) .none kV26 dc26 pm26 an26 cd26 ct26, X, fun s v => .of_eq rfl, fun base _ _ => ?_⟩
  generalize hcm : (fun c => match c with | 0 => C0 | 1 => C1 | 2 => C2 | 3 => C3 | 4 => C4 | 5 => C5 | 6 => C6 | 7 => C7 | 8 => C8 | 9 => C9 | 10 => C10 | 11 => C11 | 12 => C12 | _ => 0 : Nat → Addr) = cm
  have hC0 : C0 = cm 0 := by subst hcm; rfl
  have hC1 : C1 = cm 1 := by subst hcm; rfl
  have hC2 : C2 = cm 2 := by subst hcm; rfl
  have hC3 : C3 = cm 3 := by subst hcm; rfl
  have hC4 : C4 = cm 4 := by subst hcm; rfl
  have hC5 : C5 = cm 5 := by subst hcm; rfl
  have hC6 : C6 = cm 6 := by subst hcm; rfl
  have hC7 : C7 = cm 7 := by subst hcm; rfl
  have hC8 : C8 = cm 8 := by subst hcm; rfl
  have hC9 : C9 = cm 9 := by subst hcm; rfl
  have hC10 : C10 = cm 10 := by subst hcm; rfl
  have hC11 : C11 = cm 11 := by subst hcm; rfl
  have hC12 : C12 = cm 12 := by subst hcm; rfl
  clear hcm
  subst hC0
  subst hC1
  subst hC2
  subst hC3
  subst hC4
  subst hC5
  subst hC6
  subst hC7
  subst hC8
  subst hC9
  subst hC10
  subst hC11
  subst hC12
  have E_BadWay : Exc2 P K (cm 3) "part" "index" := ⟨⟨fE3, defArgs sE_BadWay, defScope sE_BadWay, "part", "index", ⟨_, _, _, _, _, _, _, _, _⟩, _, _, _, _, _, _, _, (exiC_mk (params := defArgs sE_BadWay) (body := defBody sE_BadWay) (scope := defScope sE_BadWay) lkE3 cdE3 ccE3 coE_3 vsE_3 fiE_3 oxE3 rvE3 saE3 exE3 tyE3 kpE3 iniE3 tfE_3 spE3 svE3 smE_3 opE3), ⟨rfl, rfl, rfl, by decide +kernel, rfl, rfl, by decide +kernel⟩, ⟨fun _ _ _ _ => ⟨_, rfl⟩, fun _ _ _ _ => rfl, fun _ _ _ _ => rfl, fun _ _ _ _ => rfl, fun _ => rfl, fun _ _ _ _ => rfl⟩, fun _ _ _ _ _ _ _ _ _ _ _ _ => .of_eq rfl, rfl, rfl, by decide, by decide, by decide, by decide, by decide, fun _ _ _ _ => rfl, fun _ _ _ _ => rfl⟩, topE, noE3_part, noE3_index⟩
  have T : Txt P K mg cm := ⟨⟨pg12, hd12, po12, sa12⟩, E_BadWay, PySem.W.mg_of X G aC6, PySem.W.mg_of X G aC9, PySem.W.mg_of X G aC7, PySem.W.mg_of X G aC4, PySem.W.mg_of X G aC8, PySem.W.mg_of X G aC1, PySem.W.mg_of X G aC5, PySem.W.mg_of X G aC3, ⟨⟨(.ref Ag_MODES), (V.ref Ag_MODES), PySem.W.mg_of X G gg_MODES, rfl, (tup_k lkg_MODES (show 3 ≤ sizeLine from by decide) (vs := [(V.str "shared"), (V.str "alone"), (V.str "rising")]) (.cons ⟨_, rfl⟩ (.cons ⟨_, rfl⟩ (.cons ⟨_, rfl⟩ .nil))) (fun fx ρ H => (VRs.cons ((fun _ _ _ => .str _) fx ρ H) (VRs.cons ((fun _ _ _ => .str _) fx ρ H) (VRs.cons ((fun _ _ _ => .str _) fx ρ H) VRs.nil)))))⟩⟩, ⟨⟨(.int (4) tg_MOST_POINTS), (V.int (4)), PySem.W.mg_of X G gg_MOST_POINTS, ⟨_, rfl⟩, (fun _ _ _ => .int _)⟩⟩, ⟨⟨(.int (5) tg_MOST_TAKES), (V.int (5)), PySem.W.mg_of X G gg_MOST_TAKES, ⟨_, rfl⟩, (fun _ _ _ => .int _)⟩⟩, PySem.W.mg_of X G aC10, PySem.W.mg_of X G aC2, PySem.W.mg_of X G aC11, ⟨⟨(.ref Ag_WORDS), (V.ref Ag_WORDS), PySem.W.mg_of X G gg_WORDS, rfl, (tup_k lkg_WORDS (show 3 ≤ sizeLine from by decide) (vs := [(V.str "take"), (V.str "try"), (V.str "leap")]) (.cons ⟨_, rfl⟩ (.cons ⟨_, rfl⟩ (.cons ⟨_, rfl⟩ .nil))) (fun fx ρ H => (VRs.cons ((fun _ _ _ => .str _) fx ρ H) (VRs.cons ((fun _ _ _ => .str _) fx ρ H) (VRs.cons ((fun _ _ _ => .str _) fx ρ H) VRs.nil)))))⟩⟩, PySem.W.mg_of X G aC0, ki_BadWay_BadHistory, ki_BadWay_BadLine, ki_BadWay_BadPick, ki_BadWay_BadStart, ki_BadWay_BadText, ki_BadWay_BadTree, ki_BadWay_BadTurn, ki_BadWay_BadWay, ki_BadWay_NoName, ki_BadWay_NoNode, ki_BadWay_TooMany, ki_BadWay_ValueError, fn_Way_locks, fn_Way_places, fn_Way_walked, ⟨fg3, fh3, fb3, fd3⟩, PySem.W.exm_ref xb0 xh0 xt0 xs3_0, xn_BadWay_index, xn_BadWay_part, ⟨qc3, qg3, qt3, qb3, qa3, qn3, qk3, qm3⟩, PySem.W.mg_none_of X G z_ValueError, PySem.W.mg_none_of X G z_abs, PySem.W.mg_none_of X G z_all, PySem.W.mg_none_of X G z_bool, PySem.W.mg_none_of X G z_enumerate, PySem.W.mg_none_of X G z_int, PySem.W.mg_none_of X G z_isinstance, PySem.W.mg_none_of X G z_len, PySem.W.mg_none_of X G z_list, PySem.W.mg_none_of X G z_max, PySem.W.mg_none_of X G z_min, PySem.W.mg_none_of X G z_range, PySem.W.mg_none_of X G z_repr, PySem.W.mg_none_of X G z_str, PySem.W.mg_none_of X G z_super, PySem.W.mg_none_of X G z_tuple⟩
  have F0 := fun_mk (st := s_law_bag) l0 c0 k0
  have B0 := F0.binds (ps := ["_law_script", "_law_at"]) fun _ _ _ _ _ _ us hl => match us, hl with | [_, _], _ => rfl
  have Q0 : FnF P w K mg base cm 1 f0 _ ["_law_script", "_law_at"] Gulaw_bag := fnF_lrun (fn_ok F0 sc_law_bag (b_law_bag (P := P) (w := w) (K := K) (mg := mg) (base := base) (cm := cm) (f := f0) T))
  have I_law_bag : FI P w K mg base cm "_law_bag" 1 2 Gulaw_bag := ⟨⟨f0, _, _, PySem.W.mg_of X G a0, k0, B0, rfl, Q0⟩⟩
  have F1 := fun_mk (st := s_law_take) l1 c1 k1
  have B1 := F1.binds (ps := ["_law_bag_here", "_law_many"]) fun _ _ _ _ _ _ us hl => match us, hl with | [_, _], _ => rfl
  have Q1 : FnF P w K mg base cm 1 f1 _ ["_law_bag_here", "_law_many"] Gulaw_take := fnF_lrun (fn_ok F1 sc_law_take (b_law_take (P := P) (w := w) (K := K) (mg := mg) (base := base) (cm := cm) (f := f1) T))
  have I_law_take : FI P w K mg base cm "_law_take" 1 2 Gulaw_take := ⟨⟨f1, _, _, PySem.W.mg_of X G a1, k1, B1, rfl, Q1⟩⟩
  have F2 := fun_mk (st := s_law_points) l2 c2 k2
  have B2 := F2.binds (ps := ["_law_bag_here", "_law_most"]) fun _ _ _ _ _ _ us hl => match us, hl with | [_, _], _ => rfl
  have Q2 : FnF P w K mg base cm 2 f2 _ ["_law_bag_here", "_law_most"] Gulaw_points := fnF_lrun (fn_ok F2 sc_law_points (b_law_points (P := P) (w := w) (K := K) (mg := mg) (base := base) (cm := cm) (f := f2) T I_law_take))
  have I_law_points : FI P w K mg base cm "_law_points" 2 2 Gulaw_points := ⟨⟨f2, _, _, PySem.W.mg_of X G a2, k2, B2, rfl, Q2⟩⟩
  have F3 := fun_mk (st := s_law_of) l3 c3 k3
  have B3 := F3.binds (ps := ["_law_bag_here", "_law_some"]) fun _ _ _ _ _ _ us hl => match us, hl with | [_, _], _ => rfl
  have Q3 : FnF P w K mg base cm 2 f3 _ ["_law_bag_here", "_law_some"] Gulaw_of := id (fn_ok F3 sc_law_of (b_law_of (P := P) (w := w) (K := K) (mg := mg) (base := base) (cm := cm) (f := f3) T I_law_take))
  have I_law_of : FI P w K mg base cm "_law_of" 2 2 Gulaw_of := ⟨⟨f3, _, _, PySem.W.mg_of X G a3, k3, B3, rfl, Q3⟩⟩
  have F4 := fun_mk (st := s_law_takes) l4 c4 k4
  have B4 := F4.binds (ps := ["_law_bag_here", "_law_many"]) fun _ _ _ _ _ _ us hl => match us, hl with | [_, _], _ => rfl
  have Q4 : FnF P w K mg base cm 3 f4 _ ["_law_bag_here", "_law_many"] Gulaw_takes := fnF_lrun (fn_ok F4 sc_law_takes (b_law_takes (P := P) (w := w) (K := K) (mg := mg) (base := base) (cm := cm) (f := f4) T I_law_take I_law_of))
  have I_law_takes : FI P w K mg base cm "_law_takes" 3 2 Gulaw_takes := ⟨⟨f4, _, _, PySem.W.mg_of X G a4, k4, B4, rfl, Q4⟩⟩
  have F5 := fun_mk (st := s_law_parts) l5 c5 k5
  have B5 := F5.binds (ps := ["_law_bag_here"]) fun _ _ _ _ _ _ us hl => match us, hl with | [_], _ => rfl
  have Q5 : FnF P w K mg base cm 4 f5 _ ["_law_bag_here"] Gulaw_parts := fnF_lrun (fn_ok F5 sc_law_parts (b_law_parts (P := P) (w := w) (K := K) (mg := mg) (base := base) (cm := cm) (f := f5) T I_law_points I_law_takes))
  have I_law_parts : FI P w K mg base cm "_law_parts" 4 1 Gulaw_parts := ⟨⟨f5, _, _, PySem.W.mg_of X G a5, k5, B5, rfl, Q5⟩⟩
  have F6 := fun_mk (st := s_law_whole) l6 c6 k6
  have B6 := F6.binds (ps := ["_law_value"]) fun _ _ _ _ _ _ us hl => match us, hl with | [_], _ => rfl
  have Q6 : FnF P w K mg base cm 1 f6 _ ["_law_value"] Gulaw_whole := id (fn_ok F6 sc_law_whole (b_law_whole (P := P) (w := w) (K := K) (mg := mg) (base := base) (cm := cm) (f := f6) T))
  have I_law_whole : FI P w K mg base cm "_law_whole" 1 1 Gulaw_whole := ⟨⟨f6, _, _, PySem.W.mg_of X G a6, k6, B6, rfl, Q6⟩⟩
  have F7 := fun_mk (st := s_law_is_place) l7 c7 k7
  have B7 := F7.binds (ps := ["_law_place", "_law_k"]) fun _ _ _ _ _ _ us hl => match us, hl with | [_, _], _ => rfl
  have Q7 : FnF P w K mg base cm 2 f7 _ ["_law_place", "_law_k"] Gulaw_is_place := id (fn_ok F7 sc_law_is_place (b_law_is_place (P := P) (w := w) (K := K) (mg := mg) (base := base) (cm := cm) (f := f7) T I_law_whole))
  have I_law_is_place : FI P w K mg base cm "_law_is_place" 2 2 Gulaw_is_place := ⟨⟨f7, _, _, PySem.W.mg_of X G a7, k7, B7, rfl, Q7⟩⟩
  have F8 := fun_mk (st := s_law_is_take) l8 c8 k8
  have B8 := F8.binds (ps := ["_law_takes_here", "_law_k", "_law_last", "_law_paces"]) fun _ _ _ _ _ _ us hl => match us, hl with | [_, _, _, _], _ => rfl
  have Q8 : FnF P w K mg base cm 2 f8 _ ["_law_takes_here", "_law_k", "_law_last", "_law_paces"] Gulaw_is_take := id (fn_ok F8 sc_law_is_take (b_law_is_take (P := P) (w := w) (K := K) (mg := mg) (base := base) (cm := cm) (f := f8) T I_law_whole))
  have I_law_is_take : FI P w K mg base cm "_law_is_take" 2 4 Gulaw_is_take := ⟨⟨f8, _, _, PySem.W.mg_of X G a8, k8, B8, rfl, Q8⟩⟩
  have F9 := fun_mk (st := s_law_fault) l9 c9 k9
  have B9 := F9.binds (ps := ["_law_points_here", "_law_takes_here", "_law_paces"]) fun _ _ _ _ _ _ us hl => match us, hl with | [_, _, _], _ => rfl
  have Q9 : FnF P w K mg base cm 3 f9 _ ["_law_points_here", "_law_takes_here", "_law_paces"] Gulaw_fault := id (fn_ok F9 sc_law_fault (b_law_fault (P := P) (w := w) (K := K) (mg := mg) (base := base) (cm := cm) (f := f9) T I_law_whole I_law_is_place I_law_is_take))
  have I_law_fault : FI P w K mg base cm "_law_fault" 3 3 Gulaw_fault := ⟨⟨f9, _, _, PySem.W.mg_of X G a9, k9, B9, rfl, Q9⟩⟩
  have F10 := fun_mk (st := s_law_any) l10 c10 k10
  have B10 := F10.binds (ps := ["_law_bag_here"]) fun _ _ _ _ _ _ us hl => match us, hl with | [_], _ => rfl
  have Q10 : FnF P w K mg base cm 3 f10 _ ["_law_bag_here"] Gulaw_any := id (fn_ok F10 sc_law_any (b_law_any (P := P) (w := w) (K := K) (mg := mg) (base := base) (cm := cm) (f := f10) T I_law_of))
  have I_law_any : FI P w K mg base cm "_law_any" 3 1 Gulaw_any := ⟨⟨f10, _, _, PySem.W.mg_of X G a10, k10, B10, rfl, Q10⟩⟩
  have F11 := fun_mk (st := s_law_with) l11 c11 k11
  have B11 := F11.binds (ps := ["_law_some", "_law_at", "_law_value"]) fun _ _ _ _ _ _ us hl => match us, hl with | [_, _, _], _ => rfl
  have Q11 : FnF P w K mg base cm 1 f11 _ ["_law_some", "_law_at", "_law_value"] Gulaw_with := id (fn_ok F11 sc_law_with (b_law_with (P := P) (w := w) (K := K) (mg := mg) (base := base) (cm := cm) (f := f11) T))
  have I_law_with : FI P w K mg base cm "_law_with" 1 3 Gulaw_with := ⟨⟨f11, _, _, PySem.W.mg_of X G a11, k11, B11, rfl, Q11⟩⟩
  have F12 := fun_mk (st := s_law_spoilt) l12 c12 k12
  have B12 := F12.binds (ps := ["_law_bag_here", "_law_points_here", "_law_takes_here", "_law_paces"]) fun _ _ _ _ _ _ us hl => match us, hl with | [_, _, _, _], _ => rfl
  have Q12 : FnF P w K mg base cm 4 f12 _ ["_law_bag_here", "_law_points_here", "_law_takes_here", "_law_paces"] Gulaw_spoilt := id (fn_ok F12 sc_law_spoilt (b_law_spoilt (P := P) (w := w) (K := K) (mg := mg) (base := base) (cm := cm) (f := f12) T I_law_take I_law_of I_law_any I_law_with))
  have I_law_spoilt : FI P w K mg base cm "_law_spoilt" 4 4 Gulaw_spoilt := ⟨⟨f12, _, _, PySem.W.mg_of X G a12, k12, B12, rfl, Q12⟩⟩
  have F13 := fun_mk (st := s_law_is_whole) l13 c13 k13
  have B13 := F13.binds (ps := ["_law_points_here", "_law_takes_here"]) fun _ _ _ _ _ _ us hl => match us, hl with | [_, _], _ => rfl
  have Q13 : FnF P w K mg base cm 1 f13 _ ["_law_points_here", "_law_takes_here"] Gulaw_is_whole := id (fn_ok F13 sc_law_is_whole (b_law_is_whole (P := P) (w := w) (K := K) (mg := mg) (base := base) (cm := cm) (f := f13) T))
  have I_law_is_whole : FI P w K mg base cm "_law_is_whole" 1 2 Gulaw_is_whole := ⟨⟨f13, _, _, PySem.W.mg_of X G a13, k13, B13, rfl, Q13⟩⟩
  have F14 := fun_mk (st := s_is_integer) l14 c14 k14
  have B14 := F14.binds (ps := ["value"]) fun _ _ _ _ _ _ us hl => match us, hl with | [_], _ => rfl
  have Q14 : FnF P w K mg base cm 1 f14 _ ["value"] G_is_integer := id (fn_ok F14 sc_is_integer (b_is_integer (P := P) (w := w) (K := K) (mg := mg) (base := base) (cm := cm) (f := f14) T))
  have I_is_integer : FI P w K mg base cm "is_integer" 1 1 G_is_integer := ⟨⟨f14, _, _, PySem.W.mg_of X G a14, k14, B14, rfl, Q14⟩⟩
  have F15 := fun_mk (st := s_is_place) l15 c15 k15
  have B15 := F15.binds (ps := ["place", "index"]) fun _ _ _ _ _ _ us hl => match us, hl with | [_, _], _ => rfl
  have Q15 : FnF P w K mg base cm 2 f15 _ ["place", "index"] G_is_place := id (fn_ok F15 sc_is_place (b_is_place (P := P) (w := w) (K := K) (mg := mg) (base := base) (cm := cm) (f := f15) T I_is_integer))
  have I_is_place : FI P w K mg base cm "is_place" 2 2 G_is_place := ⟨⟨f15, _, _, PySem.W.mg_of X G a15, k15, B15, rfl, Q15⟩⟩
  have F16 := fun_mk (st := s_checked_points) l16 c16 k16
  have B16 := F16.binds (ps := ["points"]) fun _ _ _ _ _ _ us hl => match us, hl with | [_], _ => rfl
  have Q16 : FnF P w K mg base cm 3 f16 _ ["points"] G_checked_points := id (fn_ok F16 sc_checked_points (b_checked_points (P := P) (w := w) (K := K) (mg := mg) (base := base) (cm := cm) (f := f16) T I_is_place))
  have I_checked_points : FI P w K mg base cm "checked_points" 3 1 G_checked_points := ⟨⟨f16, _, _, PySem.W.mg_of X G a16, k16, B16, rfl, Q16⟩⟩
  have F17 := fun_mk (st := s_is_take) l17 c17 k17
  have B17 := F17.binds (ps := ["take", "points"]) fun _ _ _ _ _ _ us hl => match us, hl with | [_, _], _ => rfl
  have Q17 : FnF P w K mg base cm 2 f17 _ ["take", "points"] G_is_take := id (fn_ok F17 sc_is_take (b_is_take (P := P) (w := w) (K := K) (mg := mg) (base := base) (cm := cm) (f := f17) T I_is_integer))
  have I_is_take : FI P w K mg base cm "is_take" 2 2 G_is_take := ⟨⟨f17, _, _, PySem.W.mg_of X G a17, k17, B17, rfl, Q17⟩⟩
  have F18 := fun_mk (st := s_is_allowed) l18 c18 k18
  have B18 := F18.binds (ps := ["takes", "index", "hops"]) fun _ _ _ _ _ _ us hl => match us, hl with | [_, _, _], _ => rfl
  have Q18 : FnF P w K mg base cm 1 f18 _ ["takes", "index", "hops"] G_is_allowed := id (fn_ok F18 sc_is_allowed (b_is_allowed (P := P) (w := w) (K := K) (mg := mg) (base := base) (cm := cm) (f := f18) T))
  have I_is_allowed : FI P w K mg base cm "is_allowed" 1 3 G_is_allowed := ⟨⟨f18, _, _, PySem.W.mg_of X G a18, k18, B18, rfl, Q18⟩⟩
  have F19 := fun_mk (st := s_checked_takes) l19 c19 k19
  have B19 := F19.binds (ps := ["points", "takes", "hops"]) fun _ _ _ _ _ _ us hl => match us, hl with | [_, _, _], _ => rfl
  have Q19 : FnF P w K mg base cm 3 f19 _ ["points", "takes", "hops"] G_checked_takes := id (fn_ok F19 sc_checked_takes (b_checked_takes (P := P) (w := w) (K := K) (mg := mg) (base := base) (cm := cm) (f := f19) T I_is_integer I_is_take I_is_allowed))
  have I_checked_takes : FI P w K mg base cm "checked_takes" 3 3 G_checked_takes := ⟨⟨f19, _, _, PySem.W.mg_of X G a19, k19, B19, rfl, Q19⟩⟩
  have F20 : FunD K "__init__" "Way.__init__" (defArgs s_Wayu_initu) (defBody s_Wayu_initu) (defScope s_Wayu_initu) [] [("hops", (V.int (0)))] f20 _ := ⟨⟨oc20, od20, .none, .ref D20, dc20, pm20, an20, cd20, ct20, sl20, rfl, l20, c20, .inl ⟨rfl, rfl⟩, .inr ⟨D20, rfl, fun q hq => by
    obtain rfl := List.mem_singleton.mp hq
    exact ⟨_, kw20_hops, ⟨_, rfl⟩⟩⟩⟩, k20⟩
  have Q20 : FnF P w K mg base cm 4 f20 _ ["self", "points", "takes", "hops"] G_Wayu_initu := id (fnD_ok F20 sc_Wayu_initu (b_Wayu_initu (P := P) (w := w) (K := K) (mg := mg) (base := base) (cm := cm) (f := f20) T I_checked_points I_checked_takes))
  have I_Wayu_initu_K2_hops : CkI P w K mg base cm "Way" 12 4 2 ["hops"] gd_Way_K2_hops 4 G_Wayu_initu := by
    obtain ⟨gg, gV, hb, hg⟩ := kb_mk (ps := ["self", "points", "takes", "hops"]) F20 3 ["hops"] [] gi_Way_K2_hops [] (fun _ _ _ => .nil) (by simp) (by simp) (fun _ _ _ _ _ _ us mv ws h1 h2 h3 => match us, mv, ws, h1, h2, h3 with | [_, _, _], [], [_], _, _, _ => rfl)
    exact ⟨⟨f20, _, _, gg, gV, PySem.W.mg_of X G aC12, ⟨mk12, a20, i20, kc12⟩, hb, (fun fx ρ H ds vs es zs r1 r2 => hg _ ρ H ds vs es zs r1 r2), rfl, Q20⟩⟩
  have F21 := fun_mk (st := s_Way_points) l21 c21 k21
  have B21 := F21.binds (ps := ["self"]) fun _ _ _ _ _ _ us hl => match us, hl with | [_], _ => rfl
  have Q21 : FnF P w K mg base cm 1 f21 _ ["self"] G_Way_points := fnF_lrun (fn_ok F21 sc_Way_points (b_Way_points (P := P) (w := w) (K := K) (mg := mg) (base := base) (cm := cm) (f := f21) T))
  have I_Way_points : PrI P w K mg base cm 12 "points" 1 G_Way_points := ⟨⟨p21, f21, _, _, ⟨a21, gq21, t21, _, r21⟩, ⟨pg12, hd12, po12, sa12⟩, B21, rfl, Q21⟩⟩
  have F22 := fun_mk (st := s_Way_takes) l22 c22 k22
  have B22 := F22.binds (ps := ["self"]) fun _ _ _ _ _ _ us hl => match us, hl with | [_], _ => rfl
  have Q22 : FnF P w K mg base cm 1 f22 _ ["self"] G_Way_takes := fnF_lrun (fn_ok F22 sc_Way_takes (b_Way_takes (P := P) (w := w) (K := K) (mg := mg) (base := base) (cm := cm) (f := f22) T))
  have I_Way_takes : PrI P w K mg base cm 12 "takes" 1 G_Way_takes := ⟨⟨p22, f22, _, _, ⟨a22, gq22, t22, _, r22⟩, ⟨pg12, hd12, po12, sa12⟩, B22, rfl, Q22⟩⟩
  have F23 := fun_mk (st := s_Way_hops) l23 c23 k23
  have B23 := F23.binds (ps := ["self"]) fun _ _ _ _ _ _ us hl => match us, hl with | [_], _ => rfl
  have Q23 : FnF P w K mg base cm 1 f23 _ ["self"] G_Way_hops := fnF_lrun (fn_ok F23 sc_Way_hops (b_Way_hops (P := P) (w := w) (K := K) (mg := mg) (base := base) (cm := cm) (f := f23) T))
  have I_Way_hops : PrI P w K mg base cm 12 "hops" 1 G_Way_hops := ⟨⟨p23, f23, _, _, ⟨a23, gq23, t23, _, r23⟩, ⟨pg12, hd12, po12, sa12⟩, B23, rfl, Q23⟩⟩
  have F24 := fun_mk (st := s_law_alone) l24 c24 k24
  have B24 := F24.binds (ps := ["_law_e", "_law_kind"]) fun _ _ _ _ _ _ us hl => match us, hl with | [_, _], _ => rfl
  have Q24 : FnX P w K mg base cm 1 f24 _ ["_law_e", "_law_kind"] Fulaw_alone := fnX_ok F24 sc_law_alone (b_law_alone (P := P) (w := w) (K := K) (mg := mg) (base := base) (cm := cm) (f := f24) T)
  have I_law_alone : FXI P w K mg base cm "_law_alone" 1 2 Fulaw_alone := ⟨⟨f24, _, _, PySem.W.mg_of X G a24, k24, B24, rfl, Q24⟩⟩
  have F25 := fun_mk (st := s_law_asked) l25 c25 k25
  have B25 := F25.binds (ps := ["_law_points_here", "_law_takes_here", "_law_paces"]) fun _ _ _ _ _ _ us hl => match us, hl with | [_, _, _], _ => rfl
  have Q25 : FnF P w K mg base cm 6 f25 _ ["_law_points_here", "_law_takes_here", "_law_paces"] Gulaw_asked := id (fn_ok F25 sc_law_asked (b_law_asked (P := P) (w := w) (K := K) (mg := mg) (base := base) (cm := cm) (f := f25) T I_Wayu_initu_K2_hops I_Way_points I_Way_takes I_Way_hops I_law_alone))
  have I_law_asked : FI P w K mg base cm "_law_asked" 6 3 Gulaw_asked := ⟨⟨f25, _, _, PySem.W.mg_of X G a25, k25, B25, rfl, Q25⟩⟩
  have F26 := fun_mk (st := s_law) l26 c26 k26
  exact fnG_of l26 c26 sc_law (by decide) (b_law (P := P) (w := w) (K := K) (mg := mg) (base := base) (cm := cm) (f := fa) T I_law_bag I_law_take I_law_parts I_law_fault I_law_spoilt I_law_is_whole I_law_asked)
end K06
open PySem PySem.W PyProof.Rows
set_option maxRecDepth 100000 in
set_option maxHeartbeats 0 in
theorem PySem.Challenge.cw_treewaits_k06_ways_refused_holds : PySem.Challenge.rw_treewaits_k06_ways_refused.Holds := by
  w_on; o_law; k_head; (case hw => w_witness2)
  k_fill
  refine Tw.end_ok (l := PySem.Challenge.rw_treewaits_k06_ways_refused) (n := 63) (k := 7) (x := "_law_script") (Fl := K06.F_law) rfl (by decide) rfl ⟨rfl, by decide, by decide⟩ ?F K06.plain
  case F =>
    intro w mg fa h Y G hmg
    have KX := PySem.W.kIn_of Y
    refine' K06.all_mk KX G hmg ?aC0 ?aC1 ?aC2 ?aC3 ?aC4 ?aC5 ?aC6 ?aC7 ?aC8 ?aC9 ?aC10 ?aC11 ?aC12 ?pg12 ?hd12 ?po12 ?sa12 ?gg_MODES ?lkg_MODES ?gg_MOST_POINTS ?gg_MOST_TAKES ?gg_WORDS ?lkg_WORDS ?ki_BadWay_BadHistory ?ki_BadWay_BadLine ?ki_BadWay_BadPick ?ki_BadWay_BadStart ?ki_BadWay_BadText ?ki_BadWay_BadTree ?ki_BadWay_BadTurn ?ki_BadWay_BadWay ?ki_BadWay_NoName ?ki_BadWay_NoNode ?ki_BadWay_TooMany ?ki_BadWay_ValueError ?fn_Way_locks ?fn_Way_places ?fn_Way_walked ?fg3 ?fh3 ?fb3 ?fd3 ?xs3_0 ?xb0 ?xh0 ?xt0 ?xn_BadWay_index ?xn_BadWay_part ?qc3 ?qg3 ?qt3 ?qb3 ?qa3 ?qn3 ?qk3 ?qm3 ?z_ValueError ?z_abs ?z_all ?z_bool ?z_enumerate ?z_int ?z_isinstance ?z_len ?z_list ?z_max ?z_min ?z_range ?z_repr ?z_str ?z_super ?z_tuple ?iniE3 ?lkE3 ?cdE3 ?ccE3 ?coE_3 ?vsE_3 ?fiE_3 ?oxE3 ?rvE3 ?saE3 ?exE3 ?tyE3 ?kpE3 ?tfE_3 ?spE3 ?svE3 ?smE_3 ?opE3 ?topE ?noE3_part ?noE3_index ?a0 ?l0 ?c0 ?k0 ?a1 ?l1 ?c1 ?k1 ?a2 ?l2 ?c2 ?k2 ?a3 ?l3 ?c3 ?k3 ?a4 ?l4 ?c4 ?k4 ?a5 ?l5 ?c5 ?k5 ?a6 ?l6 ?c6 ?k6 ?a7 ?l7 ?c7 ?k7 ?a8 ?l8 ?c8 ?k8 ?a9 ?l9 ?c9 ?k9 ?a10 ?l10 ?c10 ?k10 ?a11 ?l11 ?c11 ?k11 ?a12 ?l12 ?c12 ?k12 ?a13 ?l13 ?c13 ?k13 ?a14 ?l14 ?c14 ?k14 ?a15 ?l15 ?c15 ?k15 ?a16 ?l16 ?c16 ?k16 ?a17 ?l17 ?c17 ?k17 ?a18 ?l18 ?c18 ?k18 ?a19 ?l19 ?c19 ?k19 ?a20 ?i20 ?l20 ?c20 ?k20 ?kw20_hops ?mk12 ?kc12 ?a21 ?gq21 ?t21 ?r21 ?l21 ?c21 ?k21 ?a22 ?gq22 ?t22 ?r22 ?l22 ?c22 ?k22 ?a23 ?gq23 ?t23 ?r23 ?l23 ?c23 ?k23 ?a24 ?l24 ?c24 ?k24 ?a25 ?l25 ?c25 ?k25 ?a26 ?l26 ?c26 ?k26
    (case aC0 => first | k_is | kit_is)
    (case aC1 => first | k_is | kit_is)
    (case aC2 => first | k_is | kit_is)
    (case aC3 => first | k_is | kit_is)
    (case aC4 => first | k_is | kit_is)
    (case aC5 => first | k_is | kit_is)
    (case aC6 => first | k_is | kit_is)
    (case aC7 => first | k_is | kit_is)
    (case aC8 => first | k_is | kit_is)
    (case aC9 => first | k_is | kit_is)
    (case aC10 => first | k_is | kit_is)
    (case aC11 => first | k_is | kit_is)
    (case aC12 => first | k_is | kit_is)
    (case pg12 => first | k_is | kit_is)
    (case hd12 => first | k_is | kit_is)
    (case po12 => first | k_is | kit_is)
    (case sa12 => first | k_is | kit_is)
    (case gg_MODES => first | k_is | kit_is)
    (case lkg_MODES => first | k_is | kit_is)
    (case gg_MOST_POINTS => first | k_is | kit_is)
    (case gg_MOST_TAKES => first | k_is | kit_is)
    (case gg_WORDS => first | k_is | kit_is)
    (case lkg_WORDS => first | k_is | kit_is)
    (case ki_BadWay_BadHistory => first | k_is | kit_is)
    (case ki_BadWay_BadLine => first | k_is | kit_is)
    (case ki_BadWay_BadPick => first | k_is | kit_is)
    (case ki_BadWay_BadStart => first | k_is | kit_is)
    (case ki_BadWay_BadText => first | k_is | kit_is)
    (case ki_BadWay_BadTree => first | k_is | kit_is)
    (case ki_BadWay_BadTurn => first | k_is | kit_is)
    (case ki_BadWay_BadWay => first | k_is | kit_is)
    (case ki_BadWay_NoName => first | k_is | kit_is)
    (case ki_BadWay_NoNode => first | k_is | kit_is)
    (case ki_BadWay_TooMany => first | k_is | kit_is)
    (case ki_BadWay_ValueError => first | k_is | kit_is)
    (case fn_Way_locks => first | k_is | kit_is)
    (case fn_Way_places => first | k_is | kit_is)
    (case fn_Way_walked => first | k_is | kit_is)
    (case fg3 => first | k_is | kit_is)
    (case fh3 => first | k_is | kit_is)
    (case fb3 => first | k_is | kit_is)
    (case fd3 => first | k_is | kit_is)
    (case xs3_0 => first | k_is | kit_is)
    (case xb0 => first | k_is | kit_is)
    (case xh0 => first | k_is | kit_is)
    (case xt0 => first | k_is | kit_is)
    (case xn_BadWay_index => first | k_is | kit_is)
    (case xn_BadWay_part => first | k_is | kit_is)
    (case qc3 => first | k_is | kit_is | ks_is | rfl | kernel_rfl | decide +kernel)
    (case qg3 => first | k_is | kit_is)
    (case qt3 => first | k_is | kit_is)
    (case qb3 => first | k_is | kit_is)
    (case qa3 => first | k_is | kit_is)
    (case qn3 => first | k_is | kit_is)
    (case qk3 => first | k_is | kit_is)
    (case qm3 => first | k_is | kit_is)
    (case z_ValueError => first | k_is | kit_is)
    (case z_abs => first | k_is | kit_is)
    (case z_all => first | k_is | kit_is)
    (case z_bool => first | k_is | kit_is)
    (case z_enumerate => first | k_is | kit_is)
    (case z_int => first | k_is | kit_is)
    (case z_isinstance => first | k_is | kit_is)
    (case z_len => first | k_is | kit_is)
    (case z_list => first | k_is | kit_is)
    (case z_max => first | k_is | kit_is)
    (case z_min => first | k_is | kit_is)
    (case z_range => first | k_is | kit_is)
    (case z_repr => first | k_is | kit_is)
    (case z_str => first | k_is | kit_is)
    (case z_super => first | k_is | kit_is)
    (case z_tuple => first | k_is | kit_is)
    (case iniE3 => first | k_is | kit_is | ks_is | rfl | kernel_rfl | decide +kernel)
    (case lkE3 => first | k_is | kit_is | ks_is | rfl | kernel_rfl | decide +kernel)
    (case cdE3 => first | k_is | kit_is | ks_is | rfl | kernel_rfl | decide +kernel)
    (case ccE3 => first | k_is | kit_is | ks_is | rfl | kernel_rfl | decide +kernel)
    (case coE_3 => first | k_is | kit_is | ks_is | rfl | kernel_rfl | decide +kernel)
    (case vsE_3 => first | k_is | kit_is | ks_is | rfl | kernel_rfl | decide +kernel)
    (case fiE_3 => first | k_is | kit_is | ks_is | rfl | kernel_rfl | decide +kernel)
    (case oxE3 => first | k_is | kit_is | ks_is | rfl | kernel_rfl | decide +kernel)
    (case rvE3 => first | k_is | kit_is | ks_is | rfl | kernel_rfl | decide +kernel)
    (case saE3 => first | k_is | kit_is | ks_is | rfl | kernel_rfl | decide +kernel)
    (case exE3 => first | k_is | kit_is | ks_is | rfl | kernel_rfl | decide +kernel)
    (case tyE3 => first | k_is | kit_is | ks_is | rfl | kernel_rfl | decide +kernel)
    (case kpE3 => first | k_is | kit_is | ks_is | rfl | kernel_rfl | decide +kernel)
    (case tfE_3 => first | k_is | kit_is | ks_is | rfl | kernel_rfl | decide +kernel)
    (case spE3 => first | k_is | kit_is | ks_is | rfl | kernel_rfl | decide +kernel)
    (case svE3 => first | k_is | kit_is | ks_is | rfl | kernel_rfl | decide +kernel)
    (case smE_3 => first | k_is | kit_is | ks_is | rfl | kernel_rfl | decide +kernel)
    (case opE3 => first | k_is | kit_is | ks_is | rfl | kernel_rfl | decide +kernel)
    (case topE => first | k_is | kit_is | ks_is | rfl | kernel_rfl | decide +kernel)
    (case noE3_part => first | k_is | kit_is | ks_is | rfl | kernel_rfl | decide +kernel)
    (case noE3_index => first | k_is | kit_is | ks_is | rfl | kernel_rfl | decide +kernel)
    (case a0 => first | k_is | kit_is)
    (case l0 => first | k_is | kit_is)
    (case c0 => first | k_is | kit_is)
    (case k0 => first | k_is | kit_is)
    (case a1 => first | k_is | kit_is)
    (case l1 => first | k_is | kit_is)
    (case c1 => first | k_is | kit_is)
    (case k1 => first | k_is | kit_is)
    (case a2 => first | k_is | kit_is)
    (case l2 => first | k_is | kit_is)
    (case c2 => first | k_is | kit_is)
    (case k2 => first | k_is | kit_is)
    (case a3 => first | k_is | kit_is)
    (case l3 => first | k_is | kit_is)
    (case c3 => first | k_is | kit_is)
    (case k3 => first | k_is | kit_is)
    (case a4 => first | k_is | kit_is)
    (case l4 => first | k_is | kit_is)
    (case c4 => first | k_is | kit_is)
    (case k4 => first | k_is | kit_is)
    (case a5 => first | k_is | kit_is)
    (case l5 => first | k_is | kit_is)
    (case c5 => first | k_is | kit_is)
    (case k5 => first | k_is | kit_is)
    (case a6 => first | k_is | kit_is)
    (case l6 => first | k_is | kit_is)
    (case c6 => first | k_is | kit_is)
    (case k6 => first | k_is | kit_is)
    (case a7 => first | k_is | kit_is)
    (case l7 => first | k_is | kit_is)
    (case c7 => first | k_is | kit_is)
    (case k7 => first | k_is | kit_is)
    (case a8 => first | k_is | kit_is)
    (case l8 => first | k_is | kit_is)
    (case c8 => first | k_is | kit_is)
    (case k8 => first | k_is | kit_is)
    (case a9 => first | k_is | kit_is)
    (case l9 => first | k_is | kit_is)
    (case c9 => first | k_is | kit_is)
    (case k9 => first | k_is | kit_is)
    (case a10 => first | k_is | kit_is)
    (case l10 => first | k_is | kit_is)
    (case c10 => first | k_is | kit_is)
    (case k10 => first | k_is | kit_is)
    (case a11 => first | k_is | kit_is)
    (case l11 => first | k_is | kit_is)
    (case c11 => first | k_is | kit_is)
    (case k11 => first | k_is | kit_is)
    (case a12 => first | k_is | kit_is)
    (case l12 => first | k_is | kit_is)
    (case c12 => first | k_is | kit_is)
    (case k12 => first | k_is | kit_is)
    (case a13 => first | k_is | kit_is)
    (case l13 => first | k_is | kit_is)
    (case c13 => first | k_is | kit_is)
    (case k13 => first | k_is | kit_is)
    (case a14 => first | k_is | kit_is)
    (case l14 => first | k_is | kit_is)
    (case c14 => first | k_is | kit_is)
    (case k14 => first | k_is | kit_is)
    (case a15 => first | k_is | kit_is)
    (case l15 => first | k_is | kit_is)
    (case c15 => first | k_is | kit_is)
    (case k15 => first | k_is | kit_is)
    (case a16 => first | k_is | kit_is)
    (case l16 => first | k_is | kit_is)
    (case c16 => first | k_is | kit_is)
    (case k16 => first | k_is | kit_is)
    (case a17 => first | k_is | kit_is)
    (case l17 => first | k_is | kit_is)
    (case c17 => first | k_is | kit_is)
    (case k17 => first | k_is | kit_is)
    (case a18 => first | k_is | kit_is)
    (case l18 => first | k_is | kit_is)
    (case c18 => first | k_is | kit_is)
    (case k18 => first | k_is | kit_is)
    (case a19 => first | k_is | kit_is)
    (case l19 => first | k_is | kit_is)
    (case c19 => first | k_is | kit_is)
    (case k19 => first | k_is | kit_is)
    (case a20 => first | k_is | kit_is)
    (case i20 => first | k_is | kit_is)
    (case l20 => first | k_is | kit_is)
    (case c20 => first | k_is | kit_is)
    (case k20 => first | k_is | kit_is)
    (case kw20_hops => first | k_is | kit_is)
    (case mk12 => first | k_is | kit_is)
    (case kc12 => first | k_is | kit_is)
    (case a21 => first | k_is | kit_is)
    (case gq21 => first | k_is | kit_is)
    (case t21 => first | k_is | kit_is)
    (case r21 => first | k_is | kit_is)
    (case l21 => first | k_is | kit_is)
    (case c21 => first | k_is | kit_is)
    (case k21 => first | k_is | kit_is)
    (case a22 => first | k_is | kit_is)
    (case gq22 => first | k_is | kit_is)
    (case t22 => first | k_is | kit_is)
    (case r22 => first | k_is | kit_is)
    (case l22 => first | k_is | kit_is)
    (case c22 => first | k_is | kit_is)
    (case k22 => first | k_is | kit_is)
    (case a23 => first | k_is | kit_is)
    (case gq23 => first | k_is | kit_is)
    (case t23 => first | k_is | kit_is)
    (case r23 => first | k_is | kit_is)
    (case l23 => first | k_is | kit_is)
    (case c23 => first | k_is | kit_is)
    (case k23 => first | k_is | kit_is)
    (case a24 => first | k_is | kit_is)
    (case l24 => first | k_is | kit_is)
    (case c24 => first | k_is | kit_is)
    (case k24 => first | k_is | kit_is)
    (case a25 => first | k_is | kit_is)
    (case l25 => first | k_is | kit_is)
    (case c25 => first | k_is | kit_is)
    (case k25 => first | k_is | kit_is)
    (case a26 => first | k_is | kit_is)
    (case l26 => first | k_is | kit_is)
    (case c26 => first | k_is | kit_is)
    (case k26 => first | k_is | kit_is)
end
