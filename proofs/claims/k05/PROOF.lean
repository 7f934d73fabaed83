import PyProof.Rows.All
import Wide.All
import OpenK.AllK
import Wide.FinOn
import HandS.ForMost
import HandS.ForExc
import HandS.CallSlots
import HandS.Walk
import HandS.TupAny
import HandS.TupMul
import HandS.Wide
import HandS.Deep
import HandS.Style
import HandS.Flow
import HandS.Star
import HandS.Property
import HandS.MakeKwOnly
import HandS.Defaults
import HandS.IsInst
import HandS.Conv
import HandS.WordsDict
import KE.GoesEnum
import KE.GoesEnumKw
import HandS.Zip
import HandS.Rev
import HandS.RevTup
import HandS.OwnEq
import HandS.SlotsOwn
import KE.KFmtOwn
import PyProof.InstEq
import PyProof.InstNe
import HandS.ClsMeth
import PyProof.ReprRoads
import HandS.Ends
import HandS.HeadEnd
import KE.RegKIsAll
import PyProof.ReprLen
import PySem.Challenge.RW_treewaits_k05_ways_made
section
set_option Elab.async false
set_option linter.all false
set_option maxRecDepth 100000
set_option maxHeartbeats 1000000
/-! Tw, part A: data, logical heaps, how they stand in the abstract heap of HandS. -/
namespace Tw
open PySem PySem.Spec PyProof.Rows L2

/-- a value as data: tuples are values, lists, dicts and instances are places of the logical heap -/
inductive D where
  | non | bl (b : Bool) | int (i : Int) | str (x : Str) | tup (xs : List D) | ref (n : Nat) | cls (c : Nat) | ty (n : String)
  /-- a list that is only read (the script) -/
  | rol (xs : List D)

mutual
def beqD : D → D → Bool
  | .non, .non => true
  | .bl a, .bl b => a == b
  | .int a, .int b => a == b
  | .str a, .str b => decide (a = b)
  | .tup a, .tup b => beqDs a b
  | .ref a, .ref b => a == b
  | .cls a, .cls b => a == b
  | .ty a, .ty b => decide (a = b)
  | .rol a, .rol b => beqDs a b
  | _, _ => false
def beqDs : List D → List D → Bool
  | [], [] => true
  | x :: xs, y :: ys => beqD x y && beqDs xs ys
  | _, _ => false
end
mutual
theorem beqD_eq : ∀ (a b : D), beqD a b = true → a = b
  | .non, b, h => by cases b <;> simp [beqD] at h ⊢
  | .bl x, b, h => by cases b <;> simp [beqD] at h ⊢; exact h
  | .int x, b, h => by cases b <;> simp [beqD] at h ⊢; exact h
  | .str x, b, h => by cases b <;> simp [beqD] at h ⊢; exact h
  | .ref x, b, h => by cases b <;> simp [beqD] at h ⊢; exact h
  | .cls x, b, h => by cases b <;> simp [beqD] at h ⊢; exact h
  | .ty x, b, h => by cases b <;> simp [beqD] at h ⊢; exact h
  | .tup xs, b, h => by
    cases b <;> simp [beqD] at h ⊢
    exact beqDs_eq xs _ h
  | .rol xs, b, h => by
    cases b <;> simp [beqD] at h ⊢
    exact beqDs_eq xs _ h
theorem beqDs_eq : ∀ (a b : List D), beqDs a b = true → a = b
  | [], b, h => by cases b <;> simp [beqDs] at h ⊢
  | x :: xs, b, h => by
    cases b with
    | nil => simp [beqDs] at h
    | cons y ys =>
      simp [beqDs] at h
      rw [beqD_eq x y h.1, beqDs_eq xs ys h.2]
end
mutual
theorem beqD_rfl : ∀ (a : D), beqD a a = true
  | .non => rfl
  | .bl x => by simp [beqD]
  | .int x => by simp [beqD]
  | .str x => by simp [beqD]
  | .ref x => by simp [beqD]
  | .cls x => by simp [beqD]
  | .ty x => by simp [beqD]
  | .tup xs => by simp [beqD]; exact beqDs_rfl xs
  | .rol xs => by simp [beqD]; exact beqDs_rfl xs
theorem beqDs_rfl : ∀ (a : List D), beqDs a a = true
  | [] => rfl
  | x :: xs => by simp [beqDs]; exact ⟨beqD_rfl x, beqDs_rfl xs⟩
end
instance : DecidableEq D := fun a b => if h : beqD a b = true then isTrue (beqD_eq a b h) else isFalse fun e => h (e ▸ beqD_rfl a)

/-- what stands at a place of the logical heap: a list, an instance of class c, a dict (lk: walked just now) -/
inductive O where
  | lst (xs : List D) | ins (c : Nat) (fs : List (Str × D)) | dic (lk : Bool) (kvs : List (Key × D))
  deriving DecidableEq

/-- what the statement's world gives: the written part, the classes by their numbers -/
structure Gx where
  K : PySem.W.Frag
  cm : Nat → Addr
  /-- what must stand: objects that are no logical places -/
  fx : Hp

/-- a list that is locked, or stands in the written part -/
def RoL (K : PySem.W.Frag) (H : Hp) (a : Addr) (vs : List V) : Prop := (∃ o, H a = some (.frz o (.lst vs))) ∨ SqL K (fun _ => none) a vs
/-- a tuple that is told, or stands in the written part -/
def TuT (K : PySem.W.Frag) (H : Hp) (a : Addr) (vs : List V) : Prop := H a = some (.tup vs) ∨ SqT K (fun _ => none) a vs
variable {g : Gx} {ρ ρ' : List Addr} {H H' : Hp}
theorem TuT.sq {K : PySem.W.Frag} {a : Addr} {vs : List V} (h : TuT K H a vs) : SqT K H a vs := by
  rcases h with h | h
  · exact .inl (.inl h)
  · rcases h with (h | ⟨_, h⟩) | h
    · cases h
    · cases h
    · exact .inr h
theorem RoL.seq {K : PySem.W.Frag} {a : Addr} {vs : List V} (h : RoL K H a vs) : SqL K H a vs := by
  rcases h with ⟨o, h⟩ | h
  · exact .inl (.inr ⟨o, h⟩)
  · rcases h with (h | ⟨_, h⟩) | h
    · cases h
    · cases h
    · exact .inr h
mutual
inductive VR (g : Gx) (ρ : List Addr) (H : Hp) : D → V → Prop
  | non : VR g ρ H .non .non
  | bl (b : Bool) : VR g ρ H (.bl b) (.bl b)
  | int (i : Int) : VR g ρ H (.int i) (.int i)
  | str (x : Str) : VR g ρ H (.str x) (.str x)
  | ref {n : Nat} {a : Addr} : ρ[n]? = some a → VR g ρ H (.ref n) (.ref a)
  | cls (c : Nat) : VR g ρ H (.cls c) (.ref (g.cm c))
  | ty (n : String) : VR g ρ H (.ty n) (.ty n)
  | tup {ds : List D} {a : Addr} {vs : List V} : TuT g.K H a vs → VRs g ρ H ds vs → VR g ρ H (.tup ds) (.ref a)
  | rol {ds : List D} {a : Addr} {vs : List V} : RoL g.K H a vs → VRs g ρ H ds vs → VR g ρ H (.rol ds) (.ref a)
inductive VRs (g : Gx) (ρ : List Addr) (H : Hp) : List D → List V → Prop
  | nil : VRs g ρ H [] []
  | cons {d : D} {v : V} {ds : List D} {vs : List V} : VR g ρ H d v → VRs g ρ H ds vs → VRs g ρ H (d :: ds) (v :: vs)
end
/-- tuples and what is locked stand -/
structure TP (H H' : Hp) : Prop where
  tup : ∀ a xs, H a = some (.tup xs) → H' a = some (.tup xs)
  frz : ∀ a o u, H a = some (.frz o u) → H' a = some (.frz o u)
theorem TP.refl (H : Hp) : TP H H := ⟨fun _ _ h => h, fun _ _ _ h => h⟩
theorem TP.trans {H1 H2 H3 : Hp} (a : TP H1 H2) (b : TP H2 H3) : TP H1 H3 := ⟨fun x xs h => b.tup x xs (a.tup x xs h), fun x o u h => b.frz x o u (a.frz x o u h)⟩
theorem TP.rd {K : PySem.W.Frag} (t : TP H H') {a : Addr} {xs : List V} (h : SqT K H a xs) : SqT K H' a xs := by
  rcases h with (h | ⟨o, h⟩) | h
  · exact .inl (.inl (t.tup a xs h))
  · exact .inl (.inr ⟨o, t.frz a o _ h⟩)
  · exact .inr h
theorem TP.rol {K : PySem.W.Frag} (t : TP H H') {a : Addr} {xs : List V} (h : RoL K H a xs) : RoL K H' a xs := by
  rcases h with ⟨o, h⟩ | h
  · exact .inl ⟨o, t.frz a o _ h⟩
  · exact .inr h
theorem TP.new {p : Addr} {o : HO} (h : H p = none) : TP H (upd H p o) :=
  ⟨fun a xs e => by rw [upd_ne (ne_of_none e h)]; exact e, fun a ob u e => by rw [upd_ne (ne_of_none e h)]; exact e⟩
def MutO : HO → Bool
  | .lst _ => true
  | .dK _ => true
  | .ins _ _ _ => true
  | _ => false
theorem TP.mut {p : Addr} {o u : HO} (h : H p = some u) (m : MutO u = true) : TP H (upd H p o) :=
  ⟨fun a xs e => by
    have : a ≠ p := by rintro rfl; rw [e] at h; cases h; cases m
    rw [upd_ne this]; exact e, fun a ob w e => by
    have : a ≠ p := by rintro rfl; rw [e] at h; cases h; cases m
    rw [upd_ne this]; exact e⟩
/-- what data lean on stands: tuples and lists that are only read -/
structure TV (K : PySem.W.Frag) (H H' : Hp) : Prop where
  tup : ∀ a xs, TuT K H a xs → TuT K H' a xs
  rol : ∀ a xs, RoL K H a xs → RoL K H' a xs
theorem TP.tu {K : PySem.W.Frag} (t : TP H H') {a : Addr} {xs : List V} (h : TuT K H a xs) : TuT K H' a xs := h.elim (fun h => .inl (t.tup a xs h)) .inr
theorem TP.tv {K : PySem.W.Frag} (t : TP H H') : TV K H H' := ⟨fun _ _ h => t.tu h, fun _ _ h => t.rol h⟩
theorem pre_get {α : Type} {l l' : List α} (h : l <+: l') {n : Nat} {a : α} (e : l[n]? = some a) : l'[n]? = some a := by
  obtain ⟨t, rfl⟩ := h
  obtain ⟨hn, _⟩ := List.getElem?_eq_some_iff.mp e
  rw [List.getElem?_append_left hn]; exact e
mutual
theorem VR.monoV (hp : ρ <+: ρ') (ht : TV g.K H H') : ∀ {d : D} {v : V}, VR g ρ H d v → VR g ρ' H' d v
  | _, _, .non => .non
  | _, _, .bl b => .bl b
  | _, _, .int i => .int i
  | _, _, .str x => .str x
  | _, _, .ref e => .ref (pre_get hp e)
  | _, _, .cls c => .cls c
  | _, _, .ty c => .ty c
  | _, _, .tup s r => .tup (ht.tup _ _ s) (VRs.monoV hp ht r)
  | _, _, .rol s r => .rol (ht.rol _ _ s) (VRs.monoV hp ht r)
theorem VRs.monoV (hp : ρ <+: ρ') (ht : TV g.K H H') : ∀ {ds : List D} {vs : List V}, VRs g ρ H ds vs → VRs g ρ' H' ds vs
  | _, _, .nil => .nil
  | _, _, .cons r t => .cons (VR.monoV hp ht r) (VRs.monoV hp ht t)
end
theorem VR.mono (hp : ρ <+: ρ') (ht : TP H H') {d : D} {v : V} (h : VR g ρ H d v) : VR g ρ' H' d v := h.monoV hp ht.tv
theorem VRs.mono (hp : ρ <+: ρ') (ht : TP H H') {ds : List D} {vs : List V} (h : VRs g ρ H ds vs) : VRs g ρ' H' ds vs := h.monoV hp ht.tv
theorem VRs.length : ∀ {ds : List D} {vs : List V}, VRs g ρ H ds vs → ds.length = vs.length
  | _, _, .nil => rfl
  | _, _, .cons _ t => by simp [VRs.length t]
theorem VRs.get : ∀ {ds : List D} {vs : List V}, VRs g ρ H ds vs → ∀ {i : Nat} {d : D}, ds[i]? = some d → ∃ v, vs[i]? = some v ∧ VR g ρ H d v
  | _, _, .nil, i, d, e => by simp at e
  | _, _, .cons r t, 0, d, e => by simp at e; subst e; exact ⟨_, rfl, r⟩
  | _, _, .cons r t, i + 1, d, e => by
    obtain ⟨v, h1, h2⟩ := VRs.get t (i := i) (d := d) (by simpa using e)
    exact ⟨v, by simpa using h1, h2⟩
theorem VRs.getV : ∀ {ds : List D} {vs : List V}, VRs g ρ H ds vs → ∀ {i : Nat} {v : V}, vs[i]? = some v → ∃ d, ds[i]? = some d ∧ VR g ρ H d v
  | _, _, .nil, i, d, e => by simp at e
  | _, _, .cons r t, 0, d, e => by simp at e; subst e; exact ⟨_, rfl, r⟩
  | _, _, .cons r t, i + 1, d, e => by
    obtain ⟨v, h1, h2⟩ := VRs.getV t (i := i) (v := d) (by simpa using e)
    exact ⟨v, by simpa using h1, h2⟩
theorem VRs.append : ∀ {ds es : List D} {vs us : List V}, VRs g ρ H ds vs → VRs g ρ H es us → VRs g ρ H (ds ++ es) (vs ++ us)
  | _, _, _, _, .nil, s => s
  | _, _, _, _, .cons r t, s => .cons r (VRs.append t s)
theorem VRs.take : ∀ {ds : List D} {vs : List V} (n : Nat), VRs g ρ H ds vs → VRs g ρ H (ds.take n) (vs.take n)
  | _, _, 0, _ => by simp; exact .nil
  | _, _, _ + 1, .nil => by simp; exact .nil
  | _, _, n + 1, .cons r t => by simp; exact .cons r (VRs.take n t)
theorem VRs.drop : ∀ {ds : List D} {vs : List V} (n : Nat), VRs g ρ H ds vs → VRs g ρ H (ds.drop n) (vs.drop n)
  | _, _, 0, r => by simpa using r
  | _, _, _ + 1, .nil => by simp; exact .nil
  | _, _, n + 1, .cons r t => by simpa using VRs.drop n t
theorem VRs.set {d : D} {v : V} (r : VR g ρ H d v) : ∀ {ds : List D} {vs : List V} (n : Nat), VRs g ρ H ds vs → VRs g ρ H (ds.set n d) (vs.set n v)
  | _, _, _, .nil => by simp; exact .nil
  | _, _, 0, .cons _ t => by simp; exact .cons r t
  | _, _, n + 1, .cons q t => by simp; exact .cons q (VRs.set r n t)
theorem VRs.reverse : ∀ {ds : List D} {vs : List V}, VRs g ρ H ds vs → VRs g ρ H ds.reverse vs.reverse
  | _, _, .nil => by simp; exact .nil
  | _, _, .cons r t => by simp only [List.reverse_cons]; exact (VRs.reverse t).append (.cons r .nil)
theorem VRs.one {d : D} {vs : List V} (r : VRs g ρ H [d] vs) : ∃ v, vs = [v] ∧ VR g ρ H d v := by
  cases r with
  | cons r t => cases t; exact ⟨_, rfl, r⟩
theorem VRs.two {d e : D} {vs : List V} (r : VRs g ρ H [d, e] vs) : ∃ v u, vs = [v, u] ∧ VR g ρ H d v ∧ VR g ρ H e u := by
  cases r with
  | cons r t => obtain ⟨u, rfl, q⟩ := t.one; exact ⟨_, _, rfl, r, q⟩

/-- attributes -/
inductive FR (g : Gx) (ρ : List Addr) (H : Hp) : List (Str × D) → List (Str × V) → Prop
  | nil : FR g ρ H [] []
  | cons {f : Str} {d : D} {v : V} {fs : List (Str × D)} {vs : List (Str × V)} : VR g ρ H d v → FR g ρ H fs vs → FR g ρ H ((f, d) :: fs) ((f, v) :: vs)
theorem FR.monoV (hp : ρ <+: ρ') (ht : TV g.K H H') : ∀ {fs : List (Str × D)} {vs : List (Str × V)}, FR g ρ H fs vs → FR g ρ' H' fs vs
  | _, _, .nil => .nil
  | _, _, .cons r t => .cons (r.monoV hp ht) (FR.monoV hp ht t)
theorem FR.mono (hp : ρ <+: ρ') (ht : TP H H') {fs : List (Str × D)} {vs : List (Str × V)} (h : FR g ρ H fs vs) : FR g ρ' H' fs vs := h.monoV hp ht.tv
theorem FR.length : ∀ {fs : List (Str × D)} {vs : List (Str × V)}, FR g ρ H fs vs → fs.length = vs.length
  | _, _, .nil => rfl
  | _, _, .cons _ t => by simp [FR.length t]
theorem FR.look (f : Str) : ∀ {fs : List (Str × D)} {vs : List (Str × V)}, FR g ρ H fs vs → (∃ d v, fs.lookup f = some d ∧ vs.lookup f = some v ∧ VR g ρ H d v) ∨ (fs.lookup f = none ∧ vs.lookup f = none)
  | _, _, .nil => .inr ⟨rfl, rfl⟩
  | _, _, .cons (f := k) (d := d) (v := v) r t => by
    rw [List.lookup_cons, List.lookup_cons]
    cases f == k with
    | true => exact .inl ⟨d, v, rfl, rfl, r⟩
    | false => exact FR.look f t
def putD (f : Str) (d : D) : List (Str × D) → List (Str × D)
  | [] => [(f, d)]
  | (k, x) :: r => if k = f then (k, d) :: r else (k, x) :: putD f d r
theorem FR.put {f : Str} {d : D} {v : V} (q : VR g ρ H d v) : ∀ {fs : List (Str × D)} {vs : List (Str × V)}, FR g ρ H fs vs → FR g ρ H (putD f d fs) (putF f v vs)
  | _, _, .nil => .cons q .nil
  | _, _, .cons (f := k) r t => by
    unfold putD putF
    split
    · exact .cons q t
    · exact .cons r (FR.put q t)
/-- a dict's pairs -/
inductive KR (g : Gx) (ρ : List Addr) (H : Hp) : List (Key × D) → List (Key × V) → Prop
  | nil : KR g ρ H [] []
  | cons {k : Key} {d : D} {v : V} {ks : List (Key × D)} {vs : List (Key × V)} : VR g ρ H d v → KR g ρ H ks vs → KR g ρ H ((k, d) :: ks) ((k, v) :: vs)
theorem KR.monoV (hp : ρ <+: ρ') (ht : TV g.K H H') : ∀ {fs : List (Key × D)} {vs : List (Key × V)}, KR g ρ H fs vs → KR g ρ' H' fs vs
  | _, _, .nil => .nil
  | _, _, .cons r t => .cons (r.monoV hp ht) (KR.monoV hp ht t)
theorem KR.mono (hp : ρ <+: ρ') (ht : TP H H') {fs : List (Key × D)} {vs : List (Key × V)} (h : KR g ρ H fs vs) : KR g ρ' H' fs vs := h.monoV hp ht.tv
theorem KR.length : ∀ {fs : List (Key × D)} {vs : List (Key × V)}, KR g ρ H fs vs → fs.length = vs.length
  | _, _, .nil => rfl
  | _, _, .cons _ t => by simp [KR.length t]

/-- what stands at a logical place, in the abstract heap -/
def OR (g : Gx) (ρ : List Addr) (H : Hp) (a : Addr) : O → Prop
  | .lst ds => ∃ vs, H a = some (.lst vs) ∧ VRs g ρ H ds vs
  | .ins c fs => ∃ dx vs, H a = some (.ins (g.cm c) dx vs) ∧ FR g ρ H fs vs
  | .dic false ks => ∃ vs, H a = some (.dK vs) ∧ KR g ρ H ks vs
  | .dic true ks => ∃ vs o, H a = some (.frz o (.dK vs)) ∧ KR g ρ H ks vs
/-- H' has at a what H has (a thing that is not tracked is as it was if the table has it) -/
theorem OR.monoV {a : Addr} {o : O} (hp : ρ <+: ρ') (ht : TV g.K H H') (ha : H' a = H a) (h : OR g ρ H a o) : OR g ρ' H' a o := by
  cases o with
  | lst ds => obtain ⟨vs, e, r⟩ := h; exact ⟨vs, ha.trans e, r.monoV hp ht⟩
  | ins c fs => obtain ⟨dx, vs, e, r⟩ := h; exact ⟨dx, vs, ha.trans e, r.monoV hp ht⟩
  | dic lk ks =>
    cases lk with
    | false => obtain ⟨vs, e, r⟩ := h; exact ⟨vs, ha.trans e, r.monoV hp ht⟩
    | true => obtain ⟨vs, o, e, r⟩ := h; exact ⟨vs, o, ha.trans e, r.monoV hp ht⟩
theorem OR.mono {a : Addr} {o : O} (hp : ρ <+: ρ') (ht : TP H H') (ha : H' a = H a) (h : OR g ρ H a o) : OR g ρ' H' a o := h.monoV hp ht.tv ha
structure HR (g : Gx) (ρ : List Addr) (L : List O) (H : Hp) : Prop where
  len : ρ.length = L.length
  nd : ρ.Nodup
  ob : ∀ (n : Nat) (o : O) (a : Addr), L[n]? = some o → ρ[n]? = some a → OR g ρ H a o
  nfx : ∀ (n : Nat) (a : Addr), ρ[n]? = some a → g.fx a = none
  fxs : ∀ (a : Addr) (u : HO), g.fx a = some u → H a = some u
theorem OR.some {a : Addr} {o : O} (h : OR g ρ H a o) : ∃ u, H a = some u := by
  cases o with
  | lst ds => obtain ⟨vs, e, r⟩ := h; exact ⟨_, e⟩
  | ins c fs => obtain ⟨dx, vs, e, r⟩ := h; exact ⟨_, e⟩
  | dic lk ks =>
    cases lk with
    | false => obtain ⟨vs, e, r⟩ := h; exact ⟨_, e⟩
    | true => obtain ⟨vs, o, e, r⟩ := h; exact ⟨_, e⟩
variable {L L' : List O}
theorem HR.get (h : HR g ρ L H) {n : Nat} {o : O} (e : L[n]? = some o) : ∃ a, ρ[n]? = some a ∧ OR g ρ H a o := by
  obtain ⟨hn, _⟩ := List.getElem?_eq_some_iff.mp e
  have hn' : n < ρ.length := by rw [h.len]; exact hn
  exact ⟨ρ[n], by simp [hn'], h.ob n o _ e (by simp [hn'])⟩
theorem HR.at (h : HR g ρ L H) {n : Nat} {o : O} {a : Addr} (e : L[n]? = some o) (ea : ρ[n]? = some a) : OR g ρ H a o := h.ob n o a e ea
theorem HR.there (h : HR g ρ L H) {n : Nat} {a : Addr} (ea : ρ[n]? = some a) : ∃ o, L[n]? = some o := by
  obtain ⟨hn, _⟩ := List.getElem?_eq_some_iff.mp ea
  have hn' : n < L.length := by rw [← h.len]; exact hn
  exact ⟨L[n], by simp [hn']⟩
theorem HR.ne (h : HR g ρ L H) {p : Addr} (hp : H p = none) {n : Nat} {a : Addr} (ea : ρ[n]? = some a) : a ≠ p := by
  obtain ⟨o, e⟩ := h.there ea
  obtain ⟨u, eu⟩ := (h.ob n o a e ea).some
  exact ne_of_none eu hp
/-- something is laid that is not told -/
theorem HR.keep (h : HR g ρ L H) (t : TP H H') (k : ∀ a u, H a = some u → H' a = some u) : HR g ρ L H' :=
  ⟨h.len, h.nd, fun n o a e ea => by
    have q := h.ob n o a e ea
    obtain ⟨u, hu⟩ := q.some
    exact q.mono (List.prefix_refl _) t ((k a u hu).trans hu.symm), h.nfx, fun a u e => k a u (h.fxs a u e)⟩
theorem HR.fresh (h : HR g ρ L H) {p : Addr} (hp : H p = none) (o : HO) : HR g ρ L (upd H p o) :=
  h.keep (TP.new hp) fun a u e => by rw [upd_ne (ne_of_none e hp)]; exact e
theorem pre_snoc {α : Type} (l : List α) (a : α) : l <+: l ++ [a] := ⟨[a], rfl⟩
/-- a new object is laid and told -/
theorem HR.new (h : HR g ρ L H) {p : Addr} (hp : H p = none) {u : HO} {o : O} (ho : OR g (ρ ++ [p]) (upd H p u) p o) : HR g (ρ ++ [p]) (L ++ [o]) (upd H p u) := by
  refine ⟨by simp [h.len], ?_, fun n o' a e ea => ?_, fun n a ea => ?_, fun a u e => by rw [upd_ne (ne_of_none (h.fxs a u e) hp)]; exact h.fxs a u e⟩
  · rw [List.nodup_append]
    refine ⟨h.nd, by simp, fun a ha b hb => ?_⟩
    obtain ⟨n, hn⟩ := List.getElem?_of_mem ha
    have : b = p := by simpa using hb
    rw [this]
    exact h.ne hp hn
  · by_cases hn : n < L.length
    · rw [List.getElem?_append_left hn] at e
      rw [List.getElem?_append_left (by rw [h.len]; exact hn)] at ea
      exact (h.ob n o' a e ea).mono (pre_snoc _ _) (TP.new hp) (upd_ne (h.ne hp ea))
    · have hz : n = L.length := by
        obtain ⟨hn', _⟩ := List.getElem?_eq_some_iff.mp e
        simp at hn'; omega
      subst hz
      rw [List.getElem?_append_right (Nat.le_refl _)] at e
      rw [← h.len, List.getElem?_append_right (Nat.le_refl _)] at ea
      simp at e ea
      subst e; subst ea
      exact ho
  · by_cases hn : n < ρ.length
    · rw [List.getElem?_append_left hn] at ea
      exact h.nfx n a ea
    · rw [List.getElem?_append_right (by omega)] at ea
      have e1 : a = p := by
        obtain ⟨q, e2⟩ := List.getElem?_eq_some_iff.mp ea
        simpa using e2.symm
      subst e1
      cases hf : g.fx a with
      | none => rfl
      | some u => rw [h.fxs a u hf] at hp; cases hp
theorem nodup_get {α : Type} {l : List α} (h : l.Nodup) {i j : Nat} {a : α} (e1 : l[i]? = some a) (e2 : l[j]? = some a) : i = j := by
  obtain ⟨h1, e1⟩ := List.getElem?_eq_some_iff.mp e1
  obtain ⟨h2, e2⟩ := List.getElem?_eq_some_iff.mp e2
  exact (List.getElem_inj h).mp (e1.trans e2.symm)
/-- an object is changed -/
theorem HR.set (h : HR g ρ L H) {n : Nat} {a : Addr} (ea : ρ[n]? = some a) {u w : HO} (hu : H a = some w) (m : MutO w = true) {o : O} (ho : OR g ρ (upd H a u) a o) : HR g ρ (L.set n o) (upd H a u) := by
  refine ⟨by simp [h.len], h.nd, fun n' o' b e eb => ?_, h.nfx, fun b w' e => by rw [upd_ne (fun z => by rw [z, h.nfx n a ea] at e; cases e)]; exact h.fxs b w' e⟩
  by_cases hn : n = n'
  · subst hn
    rw [ea] at eb; cases eb
    have hlt : n < L.length := by
      obtain ⟨q, _⟩ := List.getElem?_eq_some_iff.mp ea
      rw [← h.len]; exact q
    rw [List.getElem?_set_self hlt] at e
    cases e
    exact ho
  · rw [List.getElem?_set_ne hn] at e
    have hb : b ≠ a := by rintro rfl; exact hn (nodup_get h.nd ea eb)
    exact (h.ob n' o' b e eb).mono (List.prefix_refl _) (TP.mut hu m) (upd_ne hb)

/-! ### what comes of a piece -/
inductive Rs (α : Type) where
  | ok (a : α) (L : List O) | ex (c : Nat) (fs : List (Str × D)) (L : List O) | bad
abbrev En := List (Option D)
abbrev ME := En → List O → Rs D
abbrev MB := En → List O → Rs Bool
abbrev MA := En → List O → Rs (List D)
def Rs.bind {α β : Type} (r : Rs α) (f : α → List O → Rs β) : Rs β := match r with
  | .ok a L => f a L
  | .ex c fs L => .ex c fs L
  | .bad => .bad
/-- an operation on values: it gives a value and a heap, or is not asked here -/
abbrev OD := Option (D × List O)
def ofO : OD → Rs D
  | some (d, L) => .ok d L
  | none => .bad
/-- the slots -/
def ER (g : Gx) (ρ : List Addr) (H : Hp) (σ : L2.St) (ε : En) : Prop := ε.length = σ.length ∧ ∀ (i : Nat) (d : D), ε[i]? = some (some d) → ∃ v, σ[i]? = some (some v) ∧ VR g ρ H d v
theorem ER.mono {σ : L2.St} {ε : En} (hp : ρ <+: ρ') (ht : TP H H') (e : ER g ρ H σ ε) : ER g ρ' H' σ ε :=
  ⟨e.1, fun i d q => let ⟨v, a, b⟩ := e.2 i d q; ⟨v, a, b.mono hp ht⟩⟩
theorem ER.set {σ : L2.St} {ε : En} {d : D} {v : V} (e : ER g ρ H σ ε) (i : Nat) (r : VR g ρ H d v) : ER g ρ H (σ.set i (some v)) (ε.set i (some d)) := by
  refine ⟨by simp [e.1], fun j d' q => ?_⟩
  by_cases hj : i = j
  · subst hj
    have hi : i < ε.length := by
      obtain ⟨q, _⟩ := List.getElem?_eq_some_iff.mp q
      simpa using q
    rw [List.getElem?_set_self hi] at q
    cases q
    exact ⟨v, by rw [List.getElem?_set_self (by rw [← e.1]; exact hi)], r⟩
  · rw [List.getElem?_set_ne hj] at q
    obtain ⟨u, a, b⟩ := e.2 j d' q
    exact ⟨u, by rw [List.getElem?_set_ne hj]; exact a, b⟩
theorem ER.wipe {σ : L2.St} {ε : En} (e : ER g ρ H σ ε) (i : Nat) : ER g ρ H (σ.set i none) (ε.set i none) := by
  refine ⟨by simp [e.1], fun j d' q => ?_⟩
  by_cases hj : i = j
  · subst hj
    have hi : i < ε.length := by
      obtain ⟨q, _⟩ := List.getElem?_eq_some_iff.mp q
      simpa using q
    rw [List.getElem?_set_self hi] at q
    cases q
  · rw [List.getElem?_set_ne hj] at q
    obtain ⟨u, a, b⟩ := e.2 j d' q
    exact ⟨u, by rw [List.getElem?_set_ne hj]; exact a, b⟩
/-- an exception's own dict -/
def XR (g : Gx) (ρ : List Addr) (H : Hp) (fs : List (Str × D)) (dx : Option Addr) : Prop := (fs = [] ∧ dx = none) ∨ ∃ d vs, dx = some d ∧ H d = some (.xd vs) ∧ FR g ρ H fs vs
/-- what is to be shown of a piece's end -/
def Lf {α β : Type} (g : Gx) (ρ : List Addr) (H : Hp) (σ : L2.St) (W : WX) (rel : List Addr → Hp → α → β → Prop) (r : Rs α) (Q : β → Hp → Prop) : Prop := match r with
  | .ok d L' => ∀ v ρ' H', ρ <+: ρ' → TP H H' → HR g ρ' L' H' → rel ρ' H' d v → Q v H'
  | .ex c fs L' => ∀ ρ' H' dx, ρ <+: ρ' → TP H H' → HR g ρ' L' H' → XR g ρ' H' fs dx → W (.ref (g.cm c)) dx σ H'
  | .bad => False
abbrev LfD (g : Gx) (ρ : List Addr) (H : Hp) (σ : L2.St) (W : WX) (r : Rs D) (Q : VK) : Prop := Lf g ρ H σ W (VR g) r Q
def relB : List Addr → Hp → Bool → Bool → Prop := fun _ _ a b => a = b
abbrev LfB (g : Gx) (ρ : List Addr) (H : Hp) (σ : L2.St) (W : WX) (r : Rs Bool) (Q : Bool → Hp → Prop) : Prop := Lf g ρ H σ W relB r Q
abbrev LfA (g : Gx) (ρ : List Addr) (H : Hp) (σ : L2.St) (W : WX) (r : Rs (List D)) (Q : List V → Hp → Prop) : Prop := Lf g ρ H σ W (VRs g) r Q
/-- a piece's reading: from data that stand -/
def tM (g : Gx) (W : WX) (m : ME) : TE := fun σ H Q => ∃ ε ρ L, ER g ρ H σ ε ∧ HR g ρ L H ∧ LfD g ρ H σ W (m ε L) Q
def tMB (g : Gx) (W : WX) (m : MB) : TT := fun σ H Q => ∃ ε ρ L, ER g ρ H σ ε ∧ HR g ρ L H ∧ LfB g ρ H σ W (m ε L) Q
def tMA (g : Gx) (W : WX) (m : MA) : TA := fun σ H Q => ∃ ε ρ L, ER g ρ H σ ε ∧ HR g ρ L H ∧ LfA g ρ H σ W (m ε L) Q
section
variable {α β γ δ : Type} {σ : L2.St} {W : WX} {rel : List Addr → Hp → α → β → Prop} {rel2 : List Addr → Hp → γ → δ → Prop} {r : Rs α} {f : α → List O → Rs γ} {Q : δ → Hp → Prop} {Q1 : β → Hp → Prop}
/-- the first part of two: what is wanted of the first is that the second's end holds -/
theorem Lf.bind (h : Lf g ρ H σ W rel2 (r.bind f) Q) (k : ∀ a L' v ρ' H', r = .ok a L' → ρ <+: ρ' → TP H H' → HR g ρ' L' H' → rel ρ' H' a v → Lf g ρ' H' σ W rel2 (f a L') Q → Q1 v H') : Lf g ρ H σ W rel r Q1 := by
  cases r with
  | ok a L' =>
    intro v ρ' H' hp ht hh hr
    refine k a L' v ρ' H' rfl hp ht hh hr ?_
    have h' : Lf g ρ H σ W rel2 (f a L') Q := h
    cases hf : f a L' with
    | ok b L2 =>
      rw [hf] at h'
      intro u ρ2 H2 p2 t2 h2 r2
      exact h' u ρ2 H2 (hp.trans p2) (ht.trans t2) h2 r2
    | ex c fs L2 =>
      rw [hf] at h'
      intro ρ2 H2 dx p2 t2 h2 r2
      exact h' ρ2 H2 dx (hp.trans p2) (ht.trans t2) h2 r2
    | bad => rw [hf] at h'; exact h'.elim
  | ex c fs L' => exact h
  | bad => exact h
theorem Lf.imp {Q2 : β → Hp → Prop} (h : Lf g ρ H σ W rel r Q1) (k : ∀ v H', Q1 v H' → Q2 v H') : Lf g ρ H σ W rel r Q2 := by
  cases r with
  | ok a L' => intro v ρ' H' hp ht hh hr; exact k _ _ (h v ρ' H' hp ht hh hr)
  | ex c fs L' => exact h
  | bad => exact h
end
/-- a reading may be replaced by one that asks more -/
theorem _root_.L2.PE.imp {X : Cx} {e : Expr} {t t' : TE} (h : PE X e t) (k : ∀ σ H Q, t' σ H Q → t σ H Q) : PE X e t' := ⟨fun pins s σ H Q I q => h.run pins s σ H Q I (k σ H Q q)⟩
theorem _root_.L2.PT.imp {X : Cx} {e : Expr} {t t' : TT} (h : PT X e t) (k : ∀ σ H Q, t' σ H Q → t σ H Q) : PT X e t' := ⟨fun pins s σ H Q I q => h.run pins s σ H Q I (k σ H Q q)⟩
theorem _root_.L2.PA.imp {X : Cx} {es : List Expr} {t t' : TA} (h : PA X es t) (k : ∀ σ H Q, t' σ H Q → t σ H Q) : PA X es t' := ⟨fun pos pins s σ H Q I q => h.run pos pins s σ H Q I (k σ H Q q)⟩
theorem _root_.L2.PS.imp {X : Cx} {st : Stmt} {t t' : TS} (h : PS X st t) (k : ∀ D σ H, t' D σ H → t D σ H) : PS X st t' := ⟨fun pins s σ H D I q => h.run pins s σ H D I (k D σ H q)⟩
theorem _root_.L2.PSs.imp {X : Cx} {st : List Stmt} {t t' : TS} (h : PSs X st t) (k : ∀ D σ H, t' D σ H → t D σ H) : PSs X st t' := ⟨fun pins s σ H D I q => h.run pins s σ H D I (k D σ H q)⟩

/-! ### names, constants -/
section
variable {X : Cx} {W : WX}
def mC (d : D) : ME := fun _ L => .ok d L
def mVar (i : Nat) : ME := fun ε L => match ε[i]? with
  | some (some d) => .ok d L
  | _ => .bad
theorem se_var {i : Nat} {e : Expr} (h : PE X e (tVar i)) : PE X e (tM g W (mVar i)) := h.imp fun σ H Q q => by
  obtain ⟨ε, ρ, L, he, hh, q⟩ := q
  unfold mVar at q
  split at q
  · rename_i d hd
    obtain ⟨v, hv, r⟩ := he.2 i d hd
    exact ⟨v, hv, q v ρ H (List.prefix_refl _) (TP.refl H) hh r⟩
  · exact q.elim
/-- a constant: what VR says of it holds everywhere -/
theorem se_c {e : Expr} {d : D} {v : V} (h : PE X e (tC v)) (r : ∀ ρ H, VR g ρ H d v) : PE X e (tM g W (mC d)) := h.imp fun σ H Q q => by
  obtain ⟨ε, ρ, L, he, hh, q⟩ := q
  exact q v ρ H (List.prefix_refl _) (TP.refl H) hh (r ρ H)
theorem se_int {i : Int} {j pos} : PE X (.Constant (.int i) j pos) (tM g W (mC (.int i))) := se_c pe_int fun _ _ => .int i
theorem se_bl {b : Bool} {j pos} : PE X (.Constant (.bool b) j pos) (tM g W (mC (.bl b))) := se_c pe_bl fun _ _ => .bl b
theorem se_str {x : Str} {j pos} : PE X (.Constant (.str x) j pos) (tM g W (mC (.str x))) := se_c pe_str fun _ _ => .str x
theorem se_non {j pos} : PE X (.Constant .none j pos) (tM g W (mC .non)) := se_c pe_non fun _ _ => .non

/-! ### operations on two values -/
/-- what is to be shown of an operation -/
def LfO (g : Gx) (ρ : List Addr) (H : Hp) (r : OD) (Q : VK) : Prop := match r with
  | some (d, L') => ∀ v ρ' H', ρ <+: ρ' → TP H H' → HR g ρ' L' H' → VR g ρ' H' d v → Q v H'
  | none => False
abbrev O2 := D → D → List O → OD
def rM (g : Gx) (o : O2) : R2 := fun x y H Q => ∃ ρ L d e, HR g ρ L H ∧ VR g ρ H d x ∧ VR g ρ H e y ∧ LfO g ρ H (o d e L) Q
def mOp2 (o : O2) (a b : ME) : ME := fun ε L => (a ε L).bind fun x L1 => (b ε L1).bind fun y L2 => ofO (o x y L2)
theorem LfO.of {σ : L2.St} {r : OD} {Q : VK} (h : LfD g ρ H σ W (ofO r) Q) : LfO g ρ H r Q := by
  cases r with
  | none => exact h
  | some p => exact h
theorem tM_op2 {o : O2} {a b : ME} {σ : L2.St} {Q : VK} (q : tM g W (mOp2 o a b) σ H Q) : tM g W a σ H fun x H1 => tM g W b σ H1 fun y H2 => rM g o x y H2 Q := by
  obtain ⟨ε, ρ, L, he, hh, q⟩ := q
  refine ⟨ε, ρ, L, he, hh, Lf.bind q fun x L1 v ρ1 H1 _ p1 t1 h1 r1 q1 => ?_⟩
  refine ⟨ε, ρ1, L1, he.mono p1 t1, h1, Lf.bind q1 fun y L2 u ρ2 H2 _ p2 t2 h2 r2 q2 => ?_⟩
  exact ⟨ρ2, L2, x, y, h2, r1.mono p2 t2, r2, LfO.of q2⟩
theorem se_op {o : O2} {op : Operator} {ea eb : Expr} {a b : ME} {pos} (ho : OpR X (binaryOp op) (rM g o)) (ha : PE X ea (tM g W a)) (hb : PE X eb (tM g W b)) : PE X (.BinOp ea op eb pos) (tM g W (mOp2 o a b)) :=
  (pe_op ho ha hb).imp fun _ _ _ q => tM_op2 q
end
end Tw
end

section
set_option Elab.async false
set_option linter.all false
set_option maxRecDepth 100000
set_option maxHeartbeats 1000000
/-! Tw, part B: operators, comparisons, subscripts by values. -/
namespace Tw
open PySem PySem.Spec L2
variable {g : Gx} {ρ ρ' : List Addr} {H H' : Hp} {X : Cx} {W : WX} {L : List O} {cm : Nat → Addr} {fx : Hp}

/-! ### arithmetic -/
def mulOk (i j : Int) : Bool := decide (-(2 ^ 64) < i ∧ i < 2 ^ 64) || decide (-(2 ^ 64) < j ∧ j < 2 ^ 64) || decide (i.natAbs.log2 + j.natAbs.log2 < 1000000)
def oAdd : O2 := fun x y L => match x, y with
  | .int i, .int j => some (.int (i + j), L)
  | .str a, .str b => if a.length + b.length ≤ sizeLine then some (.str (a ++ b), L) else none
  | .tup xs, .tup ys => if xs.length + ys.length ≤ sizeLine then some (.tup (xs ++ ys), L) else none
  | .ref n, .ref m => match L[n]?, L[m]? with
    | some (.lst xs), some (.lst ys) => if xs.length + ys.length ≤ sizeLine then some (.ref L.length, L ++ [.lst (xs ++ ys)]) else none
    | _, _ => none
  | _, _ => none
def oSub : O2 := fun x y L => match x, y with
  | .int i, .int j => some (.int (i - j), L)
  | _, _ => none
def oMul : O2 := fun x y L => match x, y with
  | .int i, .int j => if mulOk i j then some (.int (i * j), L) else none
  | .ref n, .int k => match L[n]? with
    | some (.lst xs) => if -(2 ^ 63) ≤ k ∧ k < 2 ^ 63 ∧ xs.length * k.toNat ≤ sizeLine then some (.ref L.length, L ++ [.lst (List.replicate k.toNat xs).flatten]) else none
    | _ => none
  | .tup xs, .int k => if xs ≠ [] ∧ 2 ≤ k ∧ k ≤ 1000 ∧ xs.length ≤ 1000 then some (.tup (List.replicate k.toNat xs).flatten, L) else none
  | _, _ => none
def oFdiv : O2 := fun x y L => match x, y with
  | .int i, .int j => if j ≠ 0 ∧ j.natAbs < 1073741824 then some (.int (i.fdiv j), L) else none
  | _, _ => none
def oMod : O2 := fun x y L => match x, y with
  | .int i, .int j => if j ≠ 0 then some (.int (i.fmod j), L) else none
  | _, _ => none
def oPow : O2 := fun x y L => match x, y with
  | .int i, .int j => if 0 ≤ j ∧ j ≤ 1000000 ∧ i.natAbs < 2 ^ 64 then some (.int (i ^ j.toNat), L) else none
  | _, _ => none

/-- nothing is laid -/
theorem LfO.same {d : D} {v : V} {Q : VK} (h : LfO g ρ H (some (d, L)) Q) (hh : HR g ρ L H) (r : VR g ρ H d v) : Q v H := h v ρ H (List.prefix_refl _) (TP.refl H) hh r
/-- a new list -/
theorem LfO.newL {ds : List D} {vs : List V} {Q : VK} (h : LfO g ρ H (some (.ref L.length, L ++ [.lst ds])) Q) (hh : HR g ρ L H) (r : VRs g ρ H ds vs) {p : Addr} (hp : H p = none) : Q (.ref p) (upd H p (.lst vs)) := by
  refine h _ (ρ ++ [p]) _ (pre_snoc _ _) (TP.new hp) (hh.new hp ⟨vs, upd_same, r.mono (pre_snoc _ _) (TP.new hp)⟩) (.ref ?_)
  rw [← hh.len]
  simp
/-- a new tuple -/
theorem LfO.newT {ds : List D} {vs : List V} {Q : VK} (h : LfO g ρ H (some (.tup ds, L)) Q) (hh : HR g ρ L H) (r : VRs g ρ H ds vs) {p : Addr} (hp : H p = none) : Q (.ref p) (upd H p (.tup vs)) :=
  h _ ρ _ (List.prefix_refl _) (TP.new hp) (hh.fresh hp _) (.tup (.inl upd_same) (r.mono (List.prefix_refl _) (TP.new hp)))
theorem HR.lst (hh : HR g ρ L H) {n : Nat} {xs : List D} (e : L[n]? = some (.lst xs)) {a : Addr} (ea : ρ[n]? = some a) : ∃ vs, H a = some (.lst vs) ∧ VRs g ρ H xs vs := hh.ob n _ a e ea

theorem op_oAdd : OpR X (binaryOp .Add) (rM ⟨X.K, cm, fx⟩ oAdd) := by
  have h := (op_add (X := X)).or (op_add_str.or (op_catA.or op_cat))
  intro pins s σ H x y v u Q I rx ry q
  refine h pins s σ H x y v u Q I rx ry ?_
  obtain ⟨ρ, L, d, e, hh, r1, r2, q⟩ := q
  unfold oAdd at q
  split at q
  · cases r1; cases r2
    exact .inl ⟨_, _, rfl, rfl, q.same hh (.int _)⟩
  · cases r1; cases r2
    split at q
    · rename_i hz
      exact .inr (.inl ⟨_, _, rfl, rfl, hz, q.same hh (.str _)⟩)
    · exact q.elim
  · cases r1 with
    | tup s1 t1 =>
      cases r2 with
      | tup s2 t2 =>
        split at q
        · rename_i hz
          rw [t1.length, t2.length] at hz
          refine .inr (.inr (.inl ⟨_, _, _, _, rfl, rfl, s1.sq, s2.sq, hz, fun e => ?_, fun _ e => ?_, fun _ _ p hp => ?_⟩))
          · subst e
            cases t1
            exact q.same hh (.tup s2 (by simpa using t2))
          · subst e
            cases t2
            exact q.same hh (.tup s1 (by simpa using t1))
          · exact q.newT hh (t1.append t2) hp
        · exact q.elim
  · cases r1 with
    | ref e1 =>
      cases r2 with
      | ref e2 =>
        split at q
        · rename_i xs ys h1 h2
          obtain ⟨vs, a1, b1⟩ := hh.lst h1 e1
          obtain ⟨us, a2, b2⟩ := hh.lst h2 e2
          split at q
          · rename_i hz
            rw [b1.length, b2.length] at hz
            exact .inr (.inr (.inr ⟨_, _, _, _, rfl, rfl, a1, a2, hz, fun p hp => q.newL hh (b1.append b2) hp⟩))
          · exact q.elim
        · exact q.elim
  · exact q.elim
theorem op_oSub : OpR X (binaryOp .Sub) (rM g oSub) := by
  intro pins s σ H x y v u Q I rx ry q
  refine op_sub pins s σ H x y v u Q I rx ry ?_
  obtain ⟨ρ, L, d, e, hh, r1, r2, q⟩ := q
  unfold oSub at q
  split at q
  · cases r1; cases r2
    exact ⟨_, _, rfl, rfl, q.same hh (.int _)⟩
  · exact q.elim
theorem VRs.rep {ds : List D} {vs : List V} (r : VRs g ρ H ds vs) : ∀ k : Nat, VRs g ρ H (List.replicate k ds).flatten (List.replicate k vs).flatten
  | 0 => .nil
  | k + 1 => by simp only [List.replicate_succ, List.flatten_cons]; exact r.append (VRs.rep r k)
theorem op_oMul : OpR X (binaryOp .Mult) (rM ⟨X.K, cm, fx⟩ oMul) := by
  have h := (op_mul (X := X)).or (op_mulW.or (op_rep.or op_repT))
  intro pins s σ H x y v u Q I rx ry q
  refine h pins s σ H x y v u Q I rx ry ?_
  obtain ⟨ρ, L, d, e, hh, r1, r2, q⟩ := q
  unfold oMul at q
  split at q
  · cases r1; cases r2
    split at q
    · rename_i hz
      unfold mulOk at hz
      simp only [Bool.or_eq_true, decide_eq_true_eq] at hz
      have q' := q.same hh (.int _)
      rcases hz with (hz | hz) | hz
      · exact .inl ⟨_, _, rfl, rfl, .inl hz, q'⟩
      · exact .inl ⟨_, _, rfl, rfl, .inr hz, q'⟩
      · exact .inr (.inl ⟨_, _, rfl, rfl, hz, q'⟩)
    · exact q.elim
  · cases r1 with
    | ref e1 =>
      cases r2
      split at q
      · rename_i xs h1
        obtain ⟨vs, a1, b1⟩ := hh.lst h1 e1
        split at q
        · rename_i hz
          rw [b1.length] at hz
          exact .inr (.inr (.inl ⟨_, _, _, rfl, rfl, a1, hz.1, hz.2.1, hz.2.2, fun p hp => q.newL hh (b1.rep _) hp⟩))
        · exact q.elim
      · exact q.elim
  · cases r1 with
    | tup s1 t1 =>
      cases r2
      split at q
      · rename_i hz
        have hn : _ ≠ [] := hz.1
        refine .inr (.inr (.inr ⟨_, _, _, rfl, rfl, s1.sq, ?_, hz.2.1, hz.2.2.1, by rw [← t1.length]; exact hz.2.2.2, fun p hp => q.newT hh (t1.rep _) hp⟩))
        intro e
        subst e
        cases t1
        exact hn rfl
      · exact q.elim
  · exact q.elim
theorem op_oFdiv : OpR X (binaryOp .FloorDiv) (rM g oFdiv) := by
  intro pins s σ H x y v u Q I rx ry q
  refine op_fdivN pins s σ H x y v u Q I rx ry ?_
  obtain ⟨ρ, L, d, e, hh, r1, r2, q⟩ := q
  unfold oFdiv at q
  split at q
  · cases r1; cases r2
    split at q
    · rename_i hz
      exact ⟨_, _, rfl, rfl, hz, q.same hh (.int _)⟩
    · exact q.elim
  · exact q.elim
theorem op_oMod : OpR X (binaryOp .Mod) (rM g oMod) := by
  intro pins s σ H x y v u Q I rx ry q
  refine op_modN pins s σ H x y v u Q I rx ry ?_
  obtain ⟨ρ, L, d, e, hh, r1, r2, q⟩ := q
  unfold oMod at q
  split at q
  · cases r1; cases r2
    split at q
    · rename_i hz
      exact ⟨_, _, rfl, rfl, hz, q.same hh (.int _)⟩
    · exact q.elim
  · exact q.elim
theorem op_oPow : OpR X (binaryOp .Pow) (rM g oPow) := by
  intro pins s σ H x y v u Q I rx ry q
  refine op_pow pins s σ H x y v u Q I rx ry ?_
  obtain ⟨ρ, L, d, e, hh, r1, r2, q⟩ := q
  unfold oPow at q
  split at q
  · cases r1; cases r2
    split at q
    · rename_i hz
      exact ⟨_, _, rfl, rfl, hz, q.same hh (.int _)⟩
    · exact q.elim
  · exact q.elim
def oNeg : D → List O → OD := fun x L => match x with
  | .int i => some (.int (-i), L)
  | _ => none
def mOp1 (o : D → List O → OD) (a : ME) : ME := fun ε L => (a ε L).bind fun x L1 => ofO (o x L1)
theorem tM_op1 {o : D → List O → OD} {a : ME} {σ : L2.St} {Q : VK} (q : tM g W (mOp1 o a) σ H Q) : tM g W a σ H fun x H1 => ∃ ρ L d, HR g ρ L H1 ∧ VR g ρ H1 d x ∧ LfO g ρ H1 (o d L) Q := by
  obtain ⟨ε, ρ, L, he, hh, q⟩ := q
  refine ⟨ε, ρ, L, he, hh, Lf.bind q fun x L1 v ρ1 H1 _ p1 t1 h1 r1 q1 => ?_⟩
  exact ⟨ρ1, L1, x, h1, r1, LfO.of q1⟩
theorem se_neg {ea : Expr} {a : ME} {pos} (ha : PE X ea (tM g W a)) : PE X (.UnaryOp .USub ea pos) (tM g W (mOp1 oNeg a)) :=
  (pe_un un_neg ha).imp fun σ H Q q => by
    obtain ⟨ε, ρ, L, he, hh, q⟩ := tM_op1 q
    refine ⟨ε, ρ, L, he, hh, q.imp fun v H' q => ?_⟩
    obtain ⟨ρ, L, d, hh, r, q⟩ := q
    unfold oNeg at q
    split at q
    · cases r
      exact ⟨_, rfl, q.same hh (.int _)⟩
    · exact q.elim

/-! ### == and != of data -/
def optAll {α β : Type} (f : α → Option β) : List α → Option (List β)
  | [] => some []
  | x :: xs => match f x, optAll f xs with
    | some y, some ys => some (y :: ys)
    | _, _ => none
def toPy (L : List O) : Nat → D → Option PyData
  | 0, _ => none
  | n + 1, d => match d with
    | .non => some .none
    | .bl b => some (.bool b)
    | .int i => some (.int i)
    | .str x => some (.str x)
    | .tup ds => (optAll (toPy L n) ds).map .tuple
    | .rol ds => (optAll (toPy L n) ds).map .list
    | .ref k => match L[k]? with
      | some (.lst ds) => (optAll (toPy L n) ds).map .list
      | _ => none
    | .cls _ => none
    | .ty _ => none
theorem toPy_ok (hh : HR g ρ L H) : ∀ (n : Nat) (d : D) (p : PyData) (v : V), toPy L n d = some p → VR g ρ H d v → Dp g.K H v p
  | 0, _, _, _, e, _ => by cases e
  | n + 1, d, p, v, e, r => by
    have all : ∀ (ds : List D) (ps : List PyData) (vs : List V), optAll (toPy L n) ds = some ps → VRs g ρ H ds vs → DpAll g.K H vs ps := by
      intro ds
      induction ds with
      | nil => intro ps vs e r; cases r; cases e; exact .nil
      | cons d ds ih =>
        intro ps vs e r
        cases r with
        | cons r t =>
          unfold optAll at e
          split at e
          · rename_i y ys h1 h2
            cases e
            exact .cons (toPy_ok hh n d y _ h1 r) (ih ys _ h2 t)
          · cases e
    cases r with
    | non => cases e; exact .non
    | bl b => cases e; exact .bl b
    | int i => cases e; exact .int i
    | str x => cases e; exact .str x
    | cls c => cases e
    | ty c => cases e
    | @tup ds a vs s t =>
      unfold toPy at e
      simp only at e
      cases h : optAll (toPy L n) ds with
      | none => rw [h] at e; cases e
      | some ps => rw [h] at e; cases e; exact .tup s.sq (all ds ps vs h t)
    | @rol ds a vs s t =>
      unfold toPy at e
      simp only at e
      cases h : optAll (toPy L n) ds with
      | none => rw [h] at e; cases e
      | some ps => rw [h] at e; cases e; exact .lst s.seq (all ds ps vs h t)
    | @ref k a ea =>
      unfold toPy at e
      simp only at e
      split at e
      · rename_i ds h1
        obtain ⟨vs, b1, b2⟩ := hh.lst h1 ea
        cases h : optAll (toPy L n) ds with
        | none => rw [h] at e; cases e
        | some ps => rw [h] at e; cases e; exact .lst (SqL.of b1) (all ds ps vs h b2)
      · cases e
def pyDeep : Nat := 16
def eqData (L : List O) (x y : D) : Option Bool := match toPy L pyDeep x, toPy L pyDeep y with
  | some p, some q => if SeqAt.shaped p = true ∧ SeqAt.shaped q = true then some (PyData.eqv p q) else none
  | _, _ => none
def oEq : O2 := fun x y L => (eqData L x y).map fun b => (.bl b, L)
def oNe : O2 := fun x y L => (eqData L x y).map fun b => (.bl (!b), L)
theorem op_oEq (hu : X.A.units + 64 < cLine) : OpR X (compareOp .Eq) (rM ⟨X.K, cm, fx⟩ oEq) := by
  intro pins s σ H x y v u Q I rx ry q
  refine op_eqD hu pins s σ H x y v u Q I rx ry ?_
  obtain ⟨ρ, L, d, e, hh, r1, r2, q⟩ := q
  unfold oEq eqData at q
  split at q
  · rename_i p q' h1 h2
    split at q
    · rename_i hz
      exact ⟨p, q', toPy_ok hh _ _ _ _ h1 r1, toPy_ok hh _ _ _ _ h2 r2, hz.1, hz.2, LfO.same q hh (.bl _)⟩
    · exact q.elim
  · exact q.elim
theorem op_oNe (hu : X.A.units + 64 < cLine) : OpR X (compareOp .NotEq) (rM ⟨X.K, cm, fx⟩ oNe) := by
  intro pins s σ H x y v u Q I rx ry q
  refine op_neD hu pins s σ H x y v u Q I rx ry ?_
  obtain ⟨ρ, L, d, e, hh, r1, r2, q⟩ := q
  unfold oNe eqData at q
  split at q
  · rename_i p q' h1 h2
    split at q
    · rename_i hz
      exact ⟨p, q', toPy_ok hh _ _ _ _ h1 r1, toPy_ok hh _ _ _ _ h2 r2, hz.1, hz.2, LfO.same q hh (.bl _)⟩
    · exact q.elim
  · exact q.elim
/-! ### order of ints -/
def oCmp (p : Int → Int → Bool) : O2 := fun x y L => match x, y with
  | .int i, .int j => some (.bl (p i j), L)
  | _, _ => none
theorem oCmp_ok {p : Int → Int → Bool} {x y : V} {Q : VK} (q : rM g (oCmp p) x y H Q) : ∃ i j, x = .int i ∧ y = .int j ∧ Q (.bl (p i j)) H := by
  obtain ⟨ρ, L, d, e, hh, r1, r2, q⟩ := q
  unfold oCmp at q
  split at q
  · cases r1; cases r2
    exact ⟨_, _, rfl, rfl, q.same hh (.bl _)⟩
  · exact q.elim
def oLt : O2 := oCmp fun i j => decide (i < j)
def oLe : O2 := oCmp fun i j => decide (i ≤ j)
def oGt : O2 := oCmp fun i j => decide (j < i)
def oGe : O2 := oCmp fun i j => decide (j ≤ i)
theorem op_oLt : OpR X (compareOp .Lt) (rM g oLt) := fun pins s σ H x y v u Q I rx ry q => op_lt pins s σ H x y v u Q I rx ry (oCmp_ok q)
theorem op_oLe : OpR X (compareOp .LtE) (rM g oLe) := fun pins s σ H x y v u Q I rx ry q => op_le pins s σ H x y v u Q I rx ry (oCmp_ok q)
theorem op_oGt : OpR X (compareOp .Gt) (rM g oGt) := fun pins s σ H x y v u Q I rx ry q => op_gt pins s σ H x y v u Q I rx ry (oCmp_ok q)
theorem op_oGe : OpR X (compareOp .GtE) (rM g oGe) := fun pins s σ H x y v u Q I rx ry q => op_ge pins s σ H x y v u Q I rx ry (oCmp_ok q)
/-! ### is None -/
def oIsN : O2 := fun x y L => match y with
  | .non => some (.bl (match x with | .non => true | _ => false), L)
  | _ => none
def oNotN : O2 := fun x y L => match y with
  | .non => some (.bl (match x with | .non => false | _ => true), L)
  | _ => none
theorem op_oIsN : OpR X (compareOp .Is) (rM g oIsN) := fun pins s σ H x y v u Q I rx ry q => op_isN pins s σ H x y v u Q I rx ry (by
  obtain ⟨ρ, L, d, e, hh, r1, r2, q⟩ := q
  unfold oIsN at q
  split at q
  · cases r2
    refine ⟨rfl, ?_⟩
    cases r1 <;> exact q.same hh (.bl _)
  · exact q.elim)
theorem op_oNotN : OpR X (compareOp .IsNot) (rM g oNotN) := fun pins s σ H x y v u Q I rx ry q => op_notN pins s σ H x y v u Q I rx ry (by
  obtain ⟨ρ, L, d, e, hh, r1, r2, q⟩ := q
  unfold oNotN at q
  split at q
  · cases r2
    refine ⟨rfl, ?_⟩
    cases r1 <;> exact q.same hh (.bl _)
  · exact q.elim)
/-! ### is True -/
def oIsB : O2 := fun x y L => match x, y with
  | .bl a, .bl b => some (.bl (decide (a = b)), L)
  | _, _ => none
def oNotB : O2 := fun x y L => match x, y with
  | .bl a, .bl b => some (.bl (!decide (a = b)), L)
  | _, _ => none
theorem op_oIsB : OpR X (compareOp .Is) (rM g oIsB) := fun pins s σ H x y v u Q I rx ry q => op_isBl pins s σ H x y v u Q I rx ry (by
  obtain ⟨ρ, L, d, e, hh, r1, r2, q⟩ := q
  unfold oIsB at q
  split at q
  · cases r1; cases r2
    exact ⟨_, _, rfl, rfl, q.same hh (.bl _)⟩
  · exact q.elim)
theorem op_oNotB : OpR X (compareOp .IsNot) (rM g oNotB) := fun pins s σ H x y v u Q I rx ry q => op_notBl pins s σ H x y v u Q I rx ry (by
  obtain ⟨ρ, L, d, e, hh, r1, r2, q⟩ := q
  unfold oNotB at q
  split at q
  · cases r1; cases r2
    exact ⟨_, _, rfl, rfl, q.same hh (.bl _)⟩
  · exact q.elim)
end Tw
end

section
set_option Elab.async false
set_option linter.all false
set_option maxRecDepth 100000
set_option maxHeartbeats 1000000
/-! Tw, part C: in, subscripts, slices, displays, tests, attributes. -/
namespace Tw
open PySem PySem.Spec L2
variable {g : Gx} {ρ ρ' : List Addr} {H H' : Hp} {X : Cx} {W : WX} {L : List O} {cm : Nat → Addr} {fx : Hp}

/-! ### in -/
def flatD : D → Bool
  | .non => true | .bl _ => true | .int _ => true | .str _ => true | _ => false
def eqF : D → D → Bool
  | .non, .non => true
  | .bl a, .bl b => a == b
  | .bl a, .int b => (if a then 1 else 0) == b
  | .int a, .bl b => a == (if b then 1 else 0)
  | .int a, .int b => a == b
  | .str a, .str b => a == b
  | _, _ => false
theorem flatD_ok {d : D} {v : V} (r : VR g ρ H d v) : flatV v = flatD d := by cases r <;> rfl
theorem flatDs_ok : ∀ {ds : List D} {vs : List V}, VRs g ρ H ds vs → vs.all flatV = ds.all flatD
  | _, _, .nil => rfl
  | _, _, .cons r t => by rw [List.all_cons, List.all_cons, flatD_ok r, flatDs_ok t]
theorem eqF_ok {d e : D} {v u : V} (r : VR g ρ H d v) (q : VR g ρ H e u) : eqV v u = eqF d e := by
  cases r <;> cases q <;> rfl
theorem inV_ok {d : D} {v : V} (r : VR g ρ H d v) : ∀ {ds : List D} {vs : List V}, VRs g ρ H ds vs → inV v vs = ds.any fun y => eqF y d
  | _, _, .nil => rfl
  | _, _, .cons q t => by
    show (eqV _ v || inV v _) = _
    rw [List.any_cons, eqF_ok q r, inV_ok r t]
def keyD : D → Option Key
  | .int i => some (.inl i)
  | .str x => some (.inr x)
  | _ => none
theorem keyD_ok {d : D} {v : V} {k : Key} (r : VR g ρ H d v) (e : keyD d = some k) : v = kV k := by
  cases r <;> cases e <;> rfl
def lkK (ks : List (Key × D)) (k : Key) : Option D := (ks.find? fun kv => decide (kv.1 = k)).map (·.2)
theorem KR.look (k : Key) : ∀ {ks : List (Key × D)} {vs : List (Key × V)}, KR g ρ H ks vs → (∃ d v, lkK ks k = some d ∧ valV vs k = some v ∧ VR g ρ H d v) ∨ (lkK ks k = none ∧ valV vs k = none)
  | _, _, .nil => .inr ⟨rfl, rfl⟩
  | _, _, .cons (k := j) (d := d) (v := v) (ks := ks) (vs := vs) r t => by
    by_cases e : j = k
    · exact .inl ⟨d, v, by simp [lkK, e], by rw [valV_pos e], r⟩
    · have h1 : lkK ((j, d) :: ks) k = lkK ks k := by simp [lkK, e]
      rw [h1, valV_neg e]
      exact KR.look k t
theorem HR.dic (hh : HR g ρ L H) {n : Nat} {lk : Bool} {ks : List (Key × D)} (e : L[n]? = some (.dic lk ks)) {a : Addr} (ea : ρ[n]? = some a) : ∃ vs, Rd H a (.dK vs) ∧ KR g ρ H ks vs := by
  have q := hh.ob n _ a e ea
  cases lk with
  | false => obtain ⟨vs, h, r⟩ := q; exact ⟨vs, .inl h, r⟩
  | true => obtain ⟨vs, o, h, r⟩ := q; exact ⟨vs, .inr ⟨o, h⟩, r⟩
theorem HR.dget (hh : HR g ρ L H) {n : Nat} {lk : Bool} {ks : List (Key × D)} (e : L[n]? = some (.dic lk ks)) {a : Addr} (ea : ρ[n]? = some a) {d : D} {v : V} {k : Key} (r : VR g ρ H d v) (ek : keyD d = some k) :
    (∃ x z, lkK ks k = some x ∧ VR g ρ H x z ∧ DGet H a v (some z)) ∨ (lkK ks k = none ∧ DGet H a v none) := by
  obtain ⟨vs, h, kr⟩ := hh.dic e ea
  obtain rfl := keyD_ok r ek
  rcases kr.look k with ⟨x, z, h1, h2, h3⟩ | ⟨h1, h2⟩
  · exact .inl ⟨x, z, h1, h3, .inl ⟨vs, k, h, rfl, h2.symm⟩⟩
  · exact .inr ⟨h1, .inl ⟨vs, k, h, rfl, h2.symm⟩⟩
/-- x in a list (any data), a tuple (plain things), a dict (ints, texts) -/
def inD (L : List O) (x y : D) : Option Bool := match y with
  | .tup ds => if flatD x = true ∧ ds.all flatD = true then some (ds.any fun z => eqF z x) else none
  | .ref n => match L[n]? with
    | some (.lst ds) => match toPy L pyDeep x, toPy L pyDeep y with
      | some p, some (.list ps) => if SeqAt.shaped p = true ∧ SeqAt.shaped (.list ps) = true then some (ps.any fun z => PyData.eqv z p) else none
      | _, _ => none
    | some (.dic _ ks) => (keyD x).map fun k => (lkK ks k).isSome
    | _ => none
  | _ => none
def oIn : O2 := fun x y L => (inD L x y).map fun b => (.bl b, L)
def oNotIn : O2 := fun x y L => (inD L x y).map fun b => (.bl (!b), L)
theorem op_dIn (hu : X.A.units + 65 < cLine) : OpR X (compareOp .In) (fun x y H Q => ∃ a o, y = .ref a ∧ DGet H a x o ∧ Q (.bl o.isSome) H) := by
  rintro pins s σ H x y v u Q I rx ry ⟨a, o, rfl, dg, q⟩
  cases ry
  exact d_in (by omega) I dg rx fun s3 I3 => ⟨.bl o.isSome, H, I3, rfl, q⟩
theorem op_dNotIn (hu : X.A.units + 65 < cLine) : OpR X (compareOp .NotIn) (fun x y H Q => ∃ a o, y = .ref a ∧ DGet H a x o ∧ Q (.bl (!o.isSome)) H) := by
  rintro pins s σ H x y v u Q I rx ry ⟨a, o, rfl, dg, q⟩
  cases ry
  exact d_notIn (by omega) I dg rx fun s3 I3 => ⟨.bl (!o.isSome), H, I3, rfl, q⟩
theorem inD_cases {x y : D} {v u : V} (hh : HR g ρ L H) (rx : VR g ρ H x v) (ry : VR g ρ H y u) {b : Bool} (e : inD L x y = some b) :
    (∃ p xs, u = .ref p ∧ SqT g.K H p xs ∧ flatV v = true ∧ xs.all flatV = true ∧ inV v xs = b) ∨
    (∃ d ds, Dp g.K H v d ∧ Dp g.K H u (.list ds) ∧ SeqAt.shaped d = true ∧ SeqAt.shaped (.list ds) = true ∧ (ds.any fun z => PyData.eqv z d) = b) ∨
    ∃ a o, u = .ref a ∧ DGet H a v o ∧ o.isSome = b := by
  unfold inD at e
  split at e
  · cases ry with
    | tup s t =>
      split at e
      · rename_i hz
        cases e
        exact .inl ⟨_, _, rfl, s.sq, by rw [flatD_ok rx]; exact hz.1, by rw [flatDs_ok t]; exact hz.2, inV_ok rx t⟩
      · cases e
  · cases ry with
    | ref ea =>
      split at e
      · rename_i ds h1
        split at e
        · rename_i p ps h2 h3
          split at e
          · rename_i hz
            cases e
            exact .inr (.inl ⟨p, ps, toPy_ok hh _ _ _ _ h2 rx, toPy_ok hh _ _ _ _ h3 (.ref ea), hz.1, hz.2, rfl⟩)
          · cases e
        · cases e
      · rename_i lk ks h1
        cases hk : keyD x with
        | none => rw [hk] at e; cases e
        | some k =>
          rw [hk] at e
          cases e
          rcases hh.dget h1 ea rx hk with ⟨z, w, l, r, dg⟩ | ⟨l, dg⟩
          · exact .inr (.inr ⟨_, _, rfl, dg, by show _ = (lkK ks k).isSome; rw [l]; rfl⟩)
          · exact .inr (.inr ⟨_, _, rfl, dg, by show _ = (lkK ks k).isSome; rw [l]; rfl⟩)
      · cases e
  · cases e
theorem op_oIn (hu : X.A.units + 65 < cLine) : OpR X (compareOp .In) (rM ⟨X.K, cm, fx⟩ oIn) := by
  have h := (op_in_seq (X := X)).or ((op_inD hu).or (op_dIn hu))
  intro pins s σ H x y v u Q I rx ry q
  refine h pins s σ H x y v u Q I rx ry ?_
  obtain ⟨ρ, L, d, e, hh, r1, r2, q⟩ := q
  unfold oIn at q
  cases hb : inD L d e with
  | none => rw [hb] at q; exact q.elim
  | some b =>
    rw [hb] at q
    have q' := LfO.same q hh (.bl b)
    rcases inD_cases hh r1 r2 hb with ⟨p, xs, e1, s1, f1, f2, e2⟩ | ⟨p, ps, d1, d2, s1, s2, e2⟩ | ⟨a, o, e1, dg, e2⟩
    · exact .inl ⟨p, xs, e1, .inr s1, f1, f2, by rw [if_neg (by decide), e2]; exact q'⟩
    · exact .inr (.inl ⟨p, ps, d1, d2, s1, s2, by rw [e2]; exact q'⟩)
    · exact .inr (.inr ⟨a, o, e1, dg, by rw [e2]; exact q'⟩)
theorem op_oNotIn (hu : X.A.units + 65 < cLine) : OpR X (compareOp .NotIn) (rM ⟨X.K, cm, fx⟩ oNotIn) := by
  have h := (op_notIn_seq (X := X)).or ((op_notInD hu).or (op_dNotIn hu))
  intro pins s σ H x y v u Q I rx ry q
  refine h pins s σ H x y v u Q I rx ry ?_
  obtain ⟨ρ, L, d, e, hh, r1, r2, q⟩ := q
  unfold oNotIn at q
  cases hb : inD L d e with
  | none => rw [hb] at q; exact q.elim
  | some b =>
    rw [hb] at q
    have q' := LfO.same q hh (.bl (!b))
    rcases inD_cases hh r1 r2 hb with ⟨p, xs, e1, s1, f1, f2, e2⟩ | ⟨p, ps, d1, d2, s1, s2, e2⟩ | ⟨a, o, e1, dg, e2⟩
    · exact .inl ⟨p, xs, e1, .inr s1, f1, f2, by rw [if_pos rfl, e2]; exact q'⟩
    · exact .inr (.inl ⟨p, ps, d1, d2, s1, s2, by rw [e2]; exact q'⟩)
    · exact .inr (.inr ⟨a, o, e1, dg, by rw [e2]; exact q'⟩)
/-- a comparison as a value, as a test; a chain of two -/
theorem se_cmp {o : O2} {op : CmpOp} {ea eb : Expr} {a b : ME} {pos} (ho : OpR X (compareOp op) (rM g o)) (ha : PE X ea (tM g W a)) (hb : PE X eb (tM g W b)) (hm : behindInMarks op eb = false := by first | exact nomark _ | rfl) : PE X (.Compare ea [op] [eb] pos) (tM g W (mOp2 o a b)) :=
  (pe_cmpR ho ha hb hm).imp fun _ _ _ q => tM_op2 q
def mChain (o o' : O2) (a b c : ME) : ME := fun ε L => (a ε L).bind fun x L1 => (b ε L1).bind fun y L2 => (ofO (o x y L2)).bind fun z L3 => match z with
  | .bl true => (c ε L3).bind fun w L4 => ofO (o' y w L4)
  | .bl false => .ok (.bl false) L3
  | _ => .bad
theorem LfO_bind {α : Type} {σ : L2.St} {o : OD} {f : D → List O → Rs D} {Q : VK} (h : LfD g ρ H σ W ((ofO o).bind f) Q) {Q1 : VK} (k : ∀ d L' v ρ' H', o = some (d, L') → ρ <+: ρ' → TP H H' → HR g ρ' L' H' → VR g ρ' H' d v → LfD g ρ' H' σ W (f d L') Q → Q1 v H') : LfO g ρ H o Q1 := by
  cases o with
  | none => exact h.elim
  | some p =>
    obtain ⟨d, L'⟩ := p
    intro v ρ' H' hp ht hh hr
    exact (Lf.bind (r := .ok d L') h fun a L2 v ρ' H' e p t hh r q => by cases e; exact k d L' v ρ' H' rfl p t hh r q : LfD g ρ H σ W (.ok d L') Q1) v ρ' H' hp ht hh hr
theorem se_chain {o o' : O2} {op op' : CmpOp} {ea eb ec : Expr} {a b c : ME} {pos} (ho : OpR X (compareOp op) (rM g o)) (ho' : OpR X (compareOp op') (rM g o')) (ha : PE X ea (tM g W a)) (hb : PE X eb (tM g W b)) (hc : PE X ec (tM g W c))
    (hm : lastMarks [op, op'] [eb, ec] = false := by with_unfolding_all rfl) : PE X (.Compare ea [op, op'] [eb, ec] pos) (tM g W (mChain o o' a b c)) :=
  (pe_chain ho ho' ha hb hc hm).imp fun σ H Q q => by
    obtain ⟨ε, ρ, L, he, hh, q⟩ := q
    refine ⟨ε, ρ, L, he, hh, Lf.bind q fun x L1 v ρ1 H1 _ p1 t1 h1 r1 q1 => ?_⟩
    refine ⟨ε, ρ1, L1, he.mono p1 t1, h1, Lf.bind q1 fun y L2 u ρ2 H2 _ p2 t2 h2 r2 q2 => ?_⟩
    refine ⟨ρ2, L2, x, y, h2, r1.mono p2 t2, r2, LfO_bind (α := D) q2 fun z L3 zv ρ3 H3 _ p3 t3 h3 r3 q3 => ?_⟩
    cases r3 with
    | bl b =>
      refine ⟨b, rfl, ?_⟩
      cases b with
      | false =>
        rw [if_neg (by decide)]
        exact q3 (.bl false) ρ3 H3 (List.prefix_refl _) (TP.refl H3) h3 (.bl false)
      | true =>
        rw [if_pos rfl]
        refine ⟨ε, ρ3, L3, ((he.mono p1 t1).mono p2 t2).mono p3 t3, h3, Lf.bind q3 fun w' L4 wv ρ4 H4 _ p4 t4 h4 r4 q4 => ?_⟩
        exact ⟨ρ4, L4, y, w', h4, (r2.mono p3 t3).mono p4 t4, r4, LfO.of q4⟩
    | _ => exact q3.elim

/-! ### subscripts -/
def atD (ds : List D) (i : Int) : Option D := atI ds i
theorem VRs.atI {ds : List D} {vs : List V} (r : VRs g ρ H ds vs) {i : Int} {d : D} (e : atI ds i = some d) : ∃ v, L2.atI vs i = some v ∧ VR g ρ H d v := by
  unfold L2.atI at e ⊢
  rw [← r.length]
  cases h : ixN ds.length i with
  | none => rw [h] at e; cases e
  | some j =>
    rw [h] at e
    exact r.get e
def oIdx : O2 := fun x y L => match x with
  | .tup ds => match y with
    | .int i => (atI ds i).map fun d => (d, L)
    | _ => none
  | .rol ds => match y with
    | .int i => (atI ds i).map fun d => (d, L)
    | _ => none
  | .ref n => match L[n]? with
    | some (.lst ds) => match y with
      | .int i => (atI ds i).map fun d => (d, L)
      | _ => none
    | some (.dic _ ks) => match keyD y with
      | some k => (lkK ks k).map fun d => (d, L)
      | none => none
    | _ => none
  | _ => none
theorem ix_dict (hu : X.A.units + 65 < cLine) : IxR X (fun x y H Q => ∃ a v, x = .ref a ∧ DGet H a y (some v) ∧ Q v H) := by
  rintro value slice pins s σ H x y v u Q I rx ry ⟨a, z, rfl, dg, q⟩ hs
  cases rx
  exact PyProof.Rows.tail_any (dict_typeIs I dg) PySem.F.slot_dict_getitem.lookup (d_getItem (by omega) I dg ry fun w' s3 I3 rw' => ⟨z, H, I3, rw', q⟩) hs
theorem ix_oIdx (hu : X.A.units + 65 < cLine) : IxR X (rM ⟨X.K, cm, fx⟩ oIdx) := by
  have h := (ix_list (X := X)).or (ix_tup.or (ix_dict hu))
  intro value slice pins s σ H x y v u Q I rx ry q
  refine h value slice pins s σ H x y v u Q I rx ry ?_
  obtain ⟨ρ, L, d, e, hh, r1, r2, q⟩ := q
  unfold oIdx at q
  split at q
  · cases r1 with
    | tup s1 t1 =>
      split at q
      · rename_i i
        cases r2
        rename_i ds _ _ _
        cases ha : L2.atI ds i with
        | none => rw [ha] at q; exact q.elim
        | some z =>
          rw [ha] at q
          obtain ⟨zv, e1, e2⟩ := t1.atI ha
          exact .inr (.inl ⟨_, _, _, zv, rfl, rfl, s1.sq, e1, LfO.same q hh e2⟩)
      · exact q.elim
  · cases r1 with
    | rol s1 t1 =>
      split at q
      · rename_i i
        cases r2
        rename_i ds _ _ _
        cases ha : L2.atI ds i with
        | none => rw [ha] at q; exact q.elim
        | some z =>
          rw [ha] at q
          obtain ⟨zv, e1, e2⟩ := t1.atI ha
          exact .inl ⟨_, _, _, zv, rfl, rfl, s1.seq, e1, LfO.same q hh e2⟩
      · exact q.elim
  · cases r1 with
    | ref ea =>
      split at q
      · rename_i ds h1
        split at q
        · rename_i i
          cases r2
          obtain ⟨vs, b1, b2⟩ := hh.lst h1 ea
          cases ha : L2.atI ds i with
          | none => rw [ha] at q; exact q.elim
          | some z =>
            rw [ha] at q
            obtain ⟨zv, e1, e2⟩ := b2.atI ha
            exact .inl ⟨_, _, _, zv, rfl, rfl, SqL.of b1, e1, LfO.same q hh e2⟩
        · exact q.elim
      · rename_i lk ks h1
        split at q
        · rename_i k hk
          rcases hh.dget h1 ea r2 hk with ⟨z, zv, l, r, dg⟩ | ⟨l, dg⟩
          · rw [l] at q
            exact .inr (.inr ⟨_, zv, rfl, dg, LfO.same q hh r⟩)
          · rw [l] at q
            exact q.elim
        · exact q.elim
      · exact q.elim
  · exact q.elim
theorem se_idx (hu : X.A.units + 65 < cLine) {ea eb : Expr} {a b : ME} {pos} (ha : PE X ea (tM ⟨X.K, cm, fx⟩ W a)) (hb : PE X eb (tM ⟨X.K, cm, fx⟩ W b)) (hs : PlainIx eb := by exact fun _ _ => rfl) : PE X (.Subscript ea eb pos) (tM ⟨X.K, cm, fx⟩ W (mOp2 oIdx a b)) :=
  (pe_ix (ix_oIdx hu) ha hb hs).imp fun _ _ _ q => tM_op2 q
end Tw
end

section
set_option Elab.async false
set_option linter.all false
set_option maxRecDepth 100000
set_option maxHeartbeats 1000000
/-! Tw, part D: slices, displays, tests, statements without loops. -/
namespace Tw
open PySem PySem.Spec L2
variable {g : Gx} {ρ ρ' : List Addr} {H H' : Hp} {X : Cx} {W : WX} {L : List O} {cm : Nat → Addr} {fx : Hp}

/-! ### slices -/
abbrev MO := En → List O → Rs (Option Int)
def relE {α : Type} : List Addr → Hp → α → α → Prop := fun _ _ a b => a = b
def tMO (g : Gx) (W : WX) (m : MO) : TO := fun σ H Q => ∃ ε ρ L, ER g ρ H σ ε ∧ HR g ρ L H ∧ Lf g ρ H σ W relE (m ε L) Q
def mNoPart : MO := fun _ L => .ok none L
def mPart (a : ME) : MO := fun ε L => (a ε L).bind fun x L1 => match x with
  | .int i => .ok (some i) L1
  | _ => .bad
theorem so_none : PO X none (tMO g W mNoPart) := ⟨fun pins s σ H Q I q => po_none.run pins s σ H Q I (by
  obtain ⟨ε, ρ, L, he, hh, q⟩ := q
  exact q none ρ H (List.prefix_refl _) (TP.refl H) hh rfl)⟩
theorem so_some {e : Expr} {a : ME} (h : PE X e (tM g W a)) : PO X (some e) (tMO g W (mPart a)) := ⟨fun pins s σ H Q I q => (po_some h).run pins s σ H Q I (by
  obtain ⟨ε, ρ, L, he, hh, q⟩ := q
  refine ⟨ε, ρ, L, he, hh, Lf.bind q fun x L1 v ρ1 H1 _ p1 t1 h1 r1 q1 => ?_⟩
  cases r1 with
  | int i => exact ⟨i, rfl, q1 (some i) ρ1 H1 (List.prefix_refl _) (TP.refl H1) h1 rfl⟩
  | _ => exact q1.elim)⟩
def cutD (xs : List D) (lo hi : Option Int) : List D := (xs.drop (HT.sIx xs.length 0 lo)).take (HT.sIx xs.length xs.length hi - HT.sIx xs.length 0 lo)
def oSl (x : D) (lo hi : Option Int) (L : List O) : OD := match x with
  | .tup ds => some (.tup (cutD ds lo hi), L)
  | .rol ds => some (.ref L.length, L ++ [.lst (cutD ds lo hi)])
  | .ref n => match L[n]? with
    | some (.lst ds) => some (.ref L.length, L ++ [.lst (cutD ds lo hi)])
    | _ => none
  | _ => none
theorem VRs.cut {ds : List D} {vs : List V} (r : VRs g ρ H ds vs) (lo hi : Option Int) : VRs g ρ H (cutD ds lo hi) (cutV vs lo hi) := by
  unfold cutD cutV
  rw [← r.length]
  exact (r.drop _).take _
theorem sl_oSl : SlR X (fun x lo hi H Q => ∃ ρ L d, HR ⟨X.K, cm, fx⟩ ρ L H ∧ VR ⟨X.K, cm, fx⟩ ρ H d x ∧ LfO ⟨X.K, cm, fx⟩ ρ H (oSl d lo hi L) Q) := by
  have h := (sl_list (X := X)).or sl_tupA
  intro pins s σ H x v vl vu lo hi sl Q I rx hs pl pu q
  refine h pins s σ H x v vl vu lo hi sl Q I rx hs pl pu ?_
  obtain ⟨ρ, L, d, hh, r1, q⟩ := q
  unfold oSl at q
  split at q
  · cases r1 with
    | tup s1 t1 =>
      rename_i ds _ _
      refine .inr ⟨_, _, rfl, s1.sq, fun e => ?_, fun _ p hp => q.newT hh (t1.cut lo hi) hp⟩
      have e' : cutD ds lo hi = ds := by
        unfold cutD
        rw [t1.length, e.1, e.2]
        simp only [List.drop_zero, Nat.sub_zero]
        rw [← t1.length]
        exact List.take_length
      rw [e'] at q
      exact q.same hh (.tup s1 t1)
  · cases r1 with
    | rol s1 t1 => exact .inl ⟨_, _, rfl, s1.seq, fun p hp => q.newL hh (t1.cut lo hi) hp⟩
  · cases r1 with
    | ref ea =>
      split at q
      · rename_i ds h1
        obtain ⟨vs, b1, b2⟩ := hh.lst h1 ea
        exact .inl ⟨_, _, rfl, SqL.of b1, fun p hp => q.newL hh (b2.cut lo hi) hp⟩
      · exact q.elim
  · exact q.elim
def mSl (a : ME) (lo hi : MO) : ME := fun ε L => (a ε L).bind fun x L1 => (lo ε L1).bind fun i L2 => (hi ε L2).bind fun j L3 => ofO (oSl x i j L3)
theorem se_slice {e : Expr} {lo hi : Option Expr} {a : ME} {ml mh : MO} {pos p2} (he : PE X e (tM ⟨X.K, cm, fx⟩ W a)) (hl : PO X lo (tMO ⟨X.K, cm, fx⟩ W ml)) (hu : PO X hi (tMO ⟨X.K, cm, fx⟩ W mh)) :
    PE X (.Subscript e (.Slice lo hi none p2) pos) (tM ⟨X.K, cm, fx⟩ W (mSl a ml mh)) :=
  (pe_slice sl_oSl he hl hu).imp fun σ H Q q => by
    obtain ⟨ε, ρ, L, he, hh, q⟩ := q
    refine ⟨ε, ρ, L, he, hh, Lf.bind q fun x L1 v ρ1 H1 _ p1 t1 h1 r1 q1 => ?_⟩
    refine ⟨ε, ρ1, L1, he.mono p1 t1, h1, Lf.bind q1 fun i L2 u ρ2 H2 _ p2 t2 h2 r2 q2 => ?_⟩
    cases r2
    refine ⟨ε, ρ2, L2, (he.mono p1 t1).mono p2 t2, h2, Lf.bind q2 fun j L3 u ρ3 H3 _ p3 t3 h3 r3 q3 => ?_⟩
    cases r3
    exact ⟨ρ3, L3, x, h3, (r1.mono p2 t2).mono p3 t3, LfO.of q3⟩

/-! ### argument lists, displays -/
def mNil : MA := fun _ L => .ok [] L
def mCons (a : ME) (r : MA) : MA := fun ε L => (a ε L).bind fun x L1 => (r ε L1).bind fun xs L2 => .ok (x :: xs) L2
theorem sa_nil : PA X [] (tMA g W mNil) := pa_nil.imp fun σ H Q q => by
  obtain ⟨ε, ρ, L, he, hh, q⟩ := q
  exact q [] ρ H (List.prefix_refl _) (TP.refl H) hh .nil
theorem sa_cons {e : Expr} {es : List Expr} {a : ME} {r : MA} (ha : PE X e (tM g W a)) (hr : PA X es (tMA g W r)) (hs : starEach (e :: es) X.env = (false, eval e X.env) :: starEach es X.env := by rfl) : PA X (e :: es) (tMA g W (mCons a r)) :=
  (pa_cons ha hr hs).imp fun σ H Q q => by
    obtain ⟨ε, ρ, L, he, hh, q⟩ := q
    refine ⟨ε, ρ, L, he, hh, Lf.bind q fun x L1 v ρ1 H1 _ p1 t1 h1 r1 q1 => ?_⟩
    refine ⟨ε, ρ1, L1, he.mono p1 t1, h1, Lf.bind q1 fun xs L2 vs ρ2 H2 _ p2 t2 h2 r2 q2 => ?_⟩
    exact q2 _ ρ2 H2 (List.prefix_refl _) (TP.refl H2) h2 (.cons (r1.mono p2 t2) r2)
/-- a star on a list or a tuple -/
def seqD (L : List O) (x : D) : Option (List D) := match x with
  | .tup ds => some ds
  | .rol ds => some ds
  | .ref n => match L[n]? with
    | some (.lst ds) => some ds
    | _ => none
  | _ => none
theorem seqD_ok {x : D} {v : V} {ds : List D} (hh : HR g ρ L H) (r : VR g ρ H x v) (e : seqD L x = some ds) : ∃ a vs, v = .ref a ∧ VRs g ρ H ds vs ∧ (TuT g.K H a vs ∨ SqL g.K H a vs) := by
  unfold seqD at e
  split at e
  · cases e
    cases r with
    | tup s t => exact ⟨_, _, rfl, t, .inl s⟩
  · cases e
    cases r with
    | rol s t => exact ⟨_, _, rfl, t, .inr s.seq⟩
  · cases r with
    | ref ea =>
      split at e
      · rename_i h1
        cases e
        obtain ⟨vs, b1, b2⟩ := hh.lst h1 ea
        exact ⟨_, vs, rfl, b2, .inr (SqL.of b1)⟩
      · cases e
  · cases e
def mStar (a : ME) (r : MA) : MA := fun ε L => (a ε L).bind fun x L1 => match seqD L1 x with
  | some xs => (r ε L1).bind fun ys L2 => .ok (xs ++ ys) L2
  | none => .bad
theorem sa_star {e : Expr} {es : List Expr} {a : ME} {r : MA} {p : Pos} (ha : PE X e (tM ⟨X.K, cm, fx⟩ W a)) (hr : PA X es (tMA ⟨X.K, cm, fx⟩ W r)) (hs : starEach (.Starred e p :: es) X.env = (true, eval e X.env) :: starEach es X.env := by rfl) :
    PA X (.Starred e p :: es) (tMA ⟨X.K, cm, fx⟩ W (mStar a r)) :=
  (StX.pa_star ha hr hs).imp fun σ H Q q => by
    obtain ⟨ε, ρ, L, he, hh, q⟩ := q
    refine ⟨ε, ρ, L, he, hh, Lf.bind q fun x L1 v ρ1 H1 _ p1 t1 h1 r1 q1 => ?_⟩
    cases hs : seqD L1 x with
    | none => rw [hs] at q1; exact q1.elim
    | some xs =>
      rw [hs] at q1
      obtain ⟨b, us, e1, t, sq⟩ := seqD_ok h1 r1 hs
      refine ⟨b, us, e1, sq.imp_left TuT.sq, ε, ρ1, L1, he.mono p1 t1, h1, Lf.bind q1 fun ys L2 vs ρ2 H2 _ p2 t2 h2 r2 q2 => ?_⟩
      exact q2 _ ρ2 H2 (List.prefix_refl _) (TP.refl H2) h2 ((t.mono p2 t2).append r2)
def most : Nat := 1000000
theorem most_le {n : Nat} (h : n ≤ most) : n ≤ sizeLine := Nat.le_trans h (by decide)
def mTup (r : MA) : ME := fun ε L => (r ε L).bind fun xs L1 => if xs.length ≤ most then .ok (.tup xs) L1 else .bad
def mLst (r : MA) : ME := fun ε L => (r ε L).bind fun xs L1 => if xs.length ≤ most then .ok (.ref L1.length) (L1 ++ [.lst xs]) else .bad
theorem se_tup {es : List Expr} {r : MA} {k pos} (h : PA X es (tMA g W r)) : PE X (.Tuple es k pos) (tM g W (mTup r)) :=
  (pe_tup h).imp fun σ H Q q => by
    obtain ⟨ε, ρ, L, he, hh, q⟩ := q
    refine ⟨ε, ρ, L, he, hh, Lf.bind q fun xs L1 vs ρ1 H1 _ p1 t1 h1 r1 q1 => ?_⟩
    by_cases hz : xs.length ≤ most
    · rw [if_pos hz] at q1
      exact ⟨by rw [← r1.length]; exact most_le hz, fun p hp => LfO.newT q1 h1 r1 hp⟩
    · rw [if_neg hz] at q1; exact q1.elim
theorem se_lst {es : List Expr} {r : MA} {pos} (h : PA X es (tMA g W r)) : PE X (.List es pos) (tM g W (mLst r)) :=
  (pe_lst h).imp fun σ H Q q => by
    obtain ⟨ε, ρ, L, he, hh, q⟩ := q
    refine ⟨ε, ρ, L, he, hh, Lf.bind q fun xs L1 vs ρ1 H1 _ p1 t1 h1 r1 q1 => ?_⟩
    by_cases hz : xs.length ≤ most
    · rw [if_pos hz] at q1
      exact ⟨by rw [← r1.length]; exact most_le hz, fun p hp => LfO.newL q1 h1 r1 hp⟩
    · rw [if_neg hz] at q1; exact q1.elim
/-- {} -/
def mDic0 : ME := fun _ L => .ok (.ref L.length) (L ++ [.dic false []])
theorem LfD.newO {σ : L2.St} {o : O} {u : HO} {Q : VK} (h : LfD g ρ H σ W (.ok (.ref L.length) (L ++ [o])) Q) (hh : HR g ρ L H) {p : Addr} (hp : H p = none) (ho : OR g (ρ ++ [p]) (upd H p u) p o) : Q (.ref p) (upd H p u) := by
  refine h _ (ρ ++ [p]) _ (pre_snoc _ _) (TP.new hp) (hh.new hp ho) (.ref ?_)
  rw [← hh.len]
  simp
theorem se_dic0 {pos} : PE X (.Dict [] [] pos) (tM g W mDic0) := pe_dnewK.imp fun σ H Q q => by
  obtain ⟨ε, ρ, L, he, hh, q⟩ := q
  intro p hp
  exact LfD.newO q hh hp ⟨[], upd_same, .nil⟩

/-! ### tests -/
def truth (L : List O) (x : D) : Option Bool := match x with
  | .non => some false
  | .bl b => some b
  | .int i => some (i != 0)
  | .str y => if y.length ≤ most then some ((y.length : Int) != 0) else none
  | .tup ds => some (!ds.isEmpty)
  | .rol ds => some (!ds.isEmpty)
  | .ref n => match L[n]? with
    | some (.lst ds) => some (!ds.isEmpty)
    | some (.dic false ks) => some (!ks.isEmpty)
    | _ => none
  | .cls _ => none
  | .ty _ => none
theorem VRs.isEmpty {ds : List D} {vs : List V} (r : VRs g ρ H ds vs) : vs.isEmpty = ds.isEmpty := by cases r <;> rfl
theorem KR.isEmpty {ds : List (Key × D)} {vs : List (Key × V)} (r : KR g ρ H ds vs) : vs.isEmpty = ds.isEmpty := by cases r <;> rfl
theorem truth_ok {x : D} {v : V} {b : Bool} (hh : HR g ρ L H) (r : VR g ρ H x v) (e : truth L x = some b) : TruV g.K v H b := by
  unfold truth at e
  cases r with
  | non => cases e; rfl
  | bl b => cases e; rfl
  | int i => cases e; rfl
  | cls c => cases e
  | ty c => cases e
  | str y =>
    simp only at e
    split at e
    · rename_i hz
      cases e
      exact ⟨most_le hz, rfl⟩
    · cases e
  | tup s t =>
    cases e
    exact .inr (.inl ⟨_, s.sq, by rw [t.isEmpty]⟩)
  | rol s t =>
    cases e
    exact .inl ⟨_, s.seq, by rw [t.isEmpty]⟩
  | ref ea =>
    simp only at e
    split at e
    · rename_i h1
      cases e
      obtain ⟨vs, b1, b2⟩ := hh.lst h1 ea
      exact .inl ⟨_, SqL.of b1, by rw [b2.isEmpty]⟩
    · rename_i h1
      cases e
      obtain ⟨vs, b1, b2⟩ := hh.ob _ _ _ h1 ea
      exact .inr (.inr ⟨_, b1, by rw [b2.isEmpty]⟩)
    · cases e
def mTst (a : ME) : MB := fun ε L => (a ε L).bind fun x L1 => match x with
  | .bl b => .ok b L1
  | _ => .bad
def mTru (a : ME) : MB := fun ε L => (a ε L).bind fun x L1 => match truth L1 x with
  | some b => .ok b L1
  | none => .bad
theorem st_cmp {o : O2} {op : CmpOp} {ea eb : Expr} {a b : ME} {pos} (ho : OpR X (compareOp op) (rM g o)) (ha : PE X ea (tM g W a)) (hb : PE X eb (tM g W b)) (hm : behindInMarks op eb = false := by first | exact nomark _ | rfl) : PT X (.Compare ea [op] [eb] pos) (tMB g W (mTst (mOp2 o a b))) :=
  (pt_cmpR ho ha hb hm).imp fun σ H Q q => by
    obtain ⟨ε, ρ, L, he, hh, q⟩ := q
    have q' := tM_op2 (W := W) (g := g) (σ := σ) (H := H) (Q := fun x H' => ∃ k, x = .bl k ∧ Q k H') ⟨ε, ρ, L, he, hh, Lf.bind q fun x L1 v ρ1 H1 _ p1 t1 h1 r1 q1 => by
      cases r1 with
      | bl b => exact ⟨b, rfl, q1 b ρ1 H1 (List.prefix_refl _) (TP.refl H1) h1 rfl⟩
      | _ => exact q1.elim⟩
    exact q'
theorem st_chain {o o' : O2} {op op' : CmpOp} {ea eb ec : Expr} {a b c : ME} {pos} (ho : OpR X (compareOp op) (rM g o)) (ho' : OpR X (compareOp op') (rM g o')) (ha : PE X ea (tM g W a)) (hb : PE X eb (tM g W b)) (hc : PE X ec (tM g W c))
    (hm : lastMarks [op, op'] [eb, ec] = false := by with_unfolding_all rfl) : PT X (.Compare ea [op, op'] [eb, ec] pos) (tMB g W (mTst (mChain o o' a b c))) :=
  (pt_chain ho ho' ha hb hc hm).imp fun σ H Q q => by
    obtain ⟨ε, ρ, L, he, hh, q⟩ := q
    -- as se_chain, what is wanted behind it a truth value
    have q0 : LfD g ρ H σ W (mChain o o' a b c ε L) (fun x H' => ∃ k, x = .bl k ∧ Q k H') := Lf.bind q fun x L1 v ρ1 H1 _ p1 t1 h1 r1 q1 => by
      cases r1 with
      | bl b => exact ⟨b, rfl, q1 b ρ1 H1 (List.prefix_refl _) (TP.refl H1) h1 rfl⟩
      | _ => exact q1.elim
    show tChain _ _ _ _ _ σ H _
    refine ⟨ε, ρ, L, he, hh, Lf.bind q0 fun x L1 v ρ1 H1 _ p1 t1 h1 r1 q1 => ?_⟩
    refine ⟨ε, ρ1, L1, he.mono p1 t1, h1, Lf.bind q1 fun y L2 u ρ2 H2 _ p2 t2 h2 r2 q2 => ?_⟩
    refine ⟨ρ2, L2, x, y, h2, r1.mono p2 t2, r2, LfO_bind (α := D) q2 fun z L3 zv ρ3 H3 _ p3 t3 h3 r3 q3 => ?_⟩
    cases r3 with
    | bl b =>
      refine ⟨b, rfl, ?_⟩
      cases b with
      | false =>
        rw [if_neg (by decide)]
        exact q3 (.bl false) ρ3 H3 (List.prefix_refl _) (TP.refl H3) h3 (.bl false)
      | true =>
        rw [if_pos rfl]
        refine ⟨ε, ρ3, L3, ((he.mono p1 t1).mono p2 t2).mono p3 t3, h3, Lf.bind q3 fun w' L4 wv ρ4 H4 _ p4 t4 h4 r4 q4 => ?_⟩
        exact ⟨ρ4, L4, y, w', h4, (r2.mono p3 t3).mono p4 t4, r4, LfO.of q4⟩
    | _ => exact q3.elim
theorem st_tru {e : Expr} {a : ME} (h : PE X e (tM ⟨X.K, cm, fx⟩ W a)) (he : ∀ whole, isTrue e X.env whole = (do let v ← whole; standAt e.pos; holding [v] (truthy v)) := by exact fun _ => rfl) : PT X e (tMB ⟨X.K, cm, fx⟩ W (mTru a)) :=
  (pt_truth h he).imp fun σ H Q q => by
    obtain ⟨ε, ρ, L, he, hh, q⟩ := q
    refine ⟨ε, ρ, L, he, hh, Lf.bind q fun x L1 v ρ1 H1 _ p1 t1 h1 r1 q1 => ?_⟩
    cases ht : truth L1 x with
    | none => rw [ht] at q1; exact q1.elim
    | some b =>
      rw [ht] at q1
      exact ⟨b, truth_ok h1 r1 ht, q1 b ρ1 H1 (List.prefix_refl _) (TP.refl H1) h1 rfl⟩
def mNotB (a : MB) : MB := fun ε L => (a ε L).bind fun b L1 => .ok (!b) L1
def mAndB (a b : MB) : MB := fun ε L => (a ε L).bind fun c L1 => if c = true then b ε L1 else .ok false L1
def mOrB (a b : MB) : MB := fun ε L => (a ε L).bind fun c L1 => if c = true then .ok true L1 else b ε L1
theorem st_not {e : Expr} {a : MB} {pos} (h : PT X e (tMB g W a)) : PT X (.UnaryOp .Not e pos) (tMB g W (mNotB a)) :=
  (pt_not h).imp fun σ H Q q => by
    obtain ⟨ε, ρ, L, he, hh, q⟩ := q
    refine ⟨ε, ρ, L, he, hh, Lf.bind q fun b L1 v ρ1 H1 _ p1 t1 h1 r1 q1 => ?_⟩
    cases r1
    exact q1 _ ρ1 H1 (List.prefix_refl _) (TP.refl H1) h1 rfl
theorem _root_.L2.PW.imp {X : Cx} {e : Expr} {t t' : TT} (h : PW X e t) (k : ∀ σ H Q, t' σ H Q → t σ H Q) : PW X e t' := ⟨fun wh pins s σ H Q I q => h.run wh pins s σ H Q I (k σ H Q q)⟩
theorem sw_and {ea eb : Expr} {rest : List Expr} {a b : MB} {pos} (ha : PT X ea (tMB g W a)) (hb : PW X (.BoolOp .And (eb :: rest) pos) (tMB g W b)) : PW X (.BoolOp .And (ea :: eb :: rest) pos) (tMB g W (mAndB a b)) :=
  (pw_and ha hb).imp fun σ H Q q => by
    obtain ⟨ε, ρ, L, he, hh, q⟩ := q
    refine ⟨ε, ρ, L, he, hh, Lf.bind q fun c L1 v ρ1 H1 _ p1 t1 h1 r1 q1 => ?_⟩
    cases r1
    cases c with
    | true => exact ⟨ε, ρ1, L1, he.mono p1 t1, h1, q1⟩
    | false => exact q1 _ ρ1 H1 (List.prefix_refl _) (TP.refl H1) h1 rfl
theorem sw_or {ea eb : Expr} {rest : List Expr} {a b : MB} {pos} (ha : PT X ea (tMB g W a)) (hb : PW X (.BoolOp .Or (eb :: rest) pos) (tMB g W b)) : PW X (.BoolOp .Or (ea :: eb :: rest) pos) (tMB g W (mOrB a b)) :=
  (pw_or ha hb).imp fun σ H Q q => by
    obtain ⟨ε, ρ, L, he, hh, q⟩ := q
    refine ⟨ε, ρ, L, he, hh, Lf.bind q fun c L1 v ρ1 H1 _ p1 t1 h1 r1 q1 => ?_⟩
    cases r1
    cases c with
    | true => exact q1 _ ρ1 H1 (List.prefix_refl _) (TP.refl H1) h1 rfl
    | false => exact ⟨ε, ρ1, L1, he.mono p1 t1, h1, q1⟩
/-- and, or, not as values -/
def mAndV (a b : ME) : ME := fun ε L => (a ε L).bind fun x L1 => match truth L1 x with
  | some true => b ε L1
  | some false => .ok x L1
  | none => .bad
def mOrV (a b : ME) : ME := fun ε L => (a ε L).bind fun x L1 => match truth L1 x with
  | some true => .ok x L1
  | some false => b ε L1
  | none => .bad
def mNotV (a : ME) : ME := fun ε L => (a ε L).bind fun x L1 => match truth L1 x with
  | some b => .ok (.bl (!b)) L1
  | none => .bad
theorem se_one {op} {ea : Expr} {a : ME} {pos} (ha : PE X ea (tM g W a)) : PE X (.BoolOp op [ea] pos) (tM g W a) := pe_one ha
theorem se_andV {ea eb : Expr} {rest : List Expr} {a b : ME} {pos} (ha : PE X ea (tM ⟨X.K, cm, fx⟩ W a)) (hb : PE X (.BoolOp .And (eb :: rest) pos) (tM ⟨X.K, cm, fx⟩ W b)) : PE X (.BoolOp .And (ea :: eb :: rest) pos) (tM ⟨X.K, cm, fx⟩ W (mAndV a b)) :=
  (pe_andT ha hb).imp fun σ H Q q => by
    obtain ⟨ε, ρ, L, he, hh, q⟩ := q
    refine ⟨ε, ρ, L, he, hh, Lf.bind q fun x L1 v ρ1 H1 _ p1 t1 h1 r1 q1 => ?_⟩
    cases ht : truth L1 x with
    | none => rw [ht] at q1; exact q1.elim
    | some c =>
      rw [ht] at q1
      refine ⟨c, truth_ok h1 r1 ht, ?_⟩
      cases c with
      | true => rw [if_pos rfl]; exact ⟨ε, ρ1, L1, he.mono p1 t1, h1, q1⟩
      | false => rw [if_neg (by decide)]; exact q1 _ ρ1 H1 (List.prefix_refl _) (TP.refl H1) h1 r1
theorem se_orV {ea eb : Expr} {rest : List Expr} {a b : ME} {pos} (ha : PE X ea (tM ⟨X.K, cm, fx⟩ W a)) (hb : PE X (.BoolOp .Or (eb :: rest) pos) (tM ⟨X.K, cm, fx⟩ W b)) : PE X (.BoolOp .Or (ea :: eb :: rest) pos) (tM ⟨X.K, cm, fx⟩ W (mOrV a b)) :=
  (pe_orT ha hb).imp fun σ H Q q => by
    obtain ⟨ε, ρ, L, he, hh, q⟩ := q
    refine ⟨ε, ρ, L, he, hh, Lf.bind q fun x L1 v ρ1 H1 _ p1 t1 h1 r1 q1 => ?_⟩
    cases ht : truth L1 x with
    | none => rw [ht] at q1; exact q1.elim
    | some c =>
      rw [ht] at q1
      refine ⟨c, truth_ok h1 r1 ht, ?_⟩
      cases c with
      | true => rw [if_pos rfl]; exact q1 _ ρ1 H1 (List.prefix_refl _) (TP.refl H1) h1 r1
      | false => rw [if_neg (by decide)]; exact ⟨ε, ρ1, L1, he.mono p1 t1, h1, q1⟩
theorem se_notV {ea : Expr} {a : ME} {pos} (ha : PE X ea (tM ⟨X.K, cm, fx⟩ W a)) : PE X (.UnaryOp .Not ea pos) (tM ⟨X.K, cm, fx⟩ W (mNotV a)) :=
  (pe_notT ha).imp fun σ H Q q => by
    obtain ⟨ε, ρ, L, he, hh, q⟩ := q
    refine ⟨ε, ρ, L, he, hh, Lf.bind q fun x L1 v ρ1 H1 _ p1 t1 h1 r1 q1 => ?_⟩
    cases ht : truth L1 x with
    | none => rw [ht] at q1; exact q1.elim
    | some c =>
      rw [ht] at q1
      exact ⟨c, truth_ok h1 r1 ht, q1 _ ρ1 H1 (List.prefix_refl _) (TP.refl H1) h1 (.bl _)⟩
def mIfE (c : MB) (a b : ME) : ME := fun ε L => (c ε L).bind fun t L1 => if t = true then a ε L1 else b ε L1
theorem se_ifE {ec ea eb : Expr} {c : MB} {a b : ME} {pos} (hc : PT X ec (tMB g W c)) (ha : PE X ea (tM g W a)) (hb : PE X eb (tM g W b)) : PE X (.IfExp ec ea eb pos) (tM g W (mIfE c a b)) :=
  (pe_ifExp hc ha hb).imp fun σ H Q q => by
    obtain ⟨ε, ρ, L, he, hh, q⟩ := q
    refine ⟨ε, ρ, L, he, hh, Lf.bind q fun c L1 v ρ1 H1 _ p1 t1 h1 r1 q1 => ?_⟩
    cases r1
    cases c with
    | true => rw [if_pos rfl] at q1 ⊢; exact ⟨ε, ρ1, L1, he.mono p1 t1, h1, q1⟩
    | false => rw [if_neg (by decide)] at q1 ⊢; exact ⟨ε, ρ1, L1, he.mono p1 t1, h1, q1⟩

/-! ### attributes -/
def mFld (c : Nat) (f : Str) (a : ME) : ME := fun ε L => (a ε L).bind fun x L1 => match x with
  | .ref n => match L1[n]? with
    | some (.ins c' fs) => if c' = c then (match fs.lookup f with | some d => .ok d L1 | none => .bad) else .bad
    | _ => .bad
  | _ => .bad
theorem HR.ins (hh : HR g ρ L H) {n c : Nat} {fs : List (Str × D)} (e : L[n]? = some (.ins c fs)) {a : Addr} (ea : ρ[n]? = some a) : ∃ dx vs, H a = some (.ins (g.cm c) dx vs) ∧ FR g ρ H fs vs := hh.ob n _ a e ea
theorem se_fld {e : Expr} {a : ME} {c : Nat} {f : Str} {pos} (he : PE X e (tM ⟨X.K, cm, fx⟩ W a)) (hc : Cls X.K (cm c)) (hn : NoAttr X.K (cm c) f) (hb : attributeBase e f X.env (eval e X.env) = eval e X.env := by rfl) : PE X (.Attribute e f pos) (tM ⟨X.K, cm, fx⟩ W (mFld c f a)) :=
  (pe_fld he hb).imp fun σ H Q q => by
    obtain ⟨ε, ρ, L, he, hh, q⟩ := q
    refine ⟨ε, ρ, L, he, hh, Lf.bind q fun x L1 v ρ1 H1 _ p1 t1 h1 r1 q1 => ?_⟩
    cases r1 with
    | ref ea =>
      simp only at q1
      split at q1
      · rename_i c' fs hi
        split at q1
        · rename_i hcc
          subst hcc
          obtain ⟨dx, vs, e1, fr⟩ := h1.ins hi ea
          rcases fr.look f with ⟨d, z, l1, l2, r⟩ | ⟨l1, _⟩
          · rw [l1] at q1
            exact ⟨_, _, _, _, z, rfl, e1, hc, hn, l2, q1 _ ρ1 H1 (List.prefix_refl _) (TP.refl H1) h1 r⟩
          · rw [l1] at q1; exact q1.elim
        · exact q1.elim
      · exact q1.elim
    | _ => exact q1.elim
end Tw
end

section
set_option Elab.async false
set_option linter.all false
set_option maxRecDepth 100000
set_option maxHeartbeats 1000000
/-! Tw, part E: statements, loops, comprehensions. -/
namespace Tw
open PySem PySem.Spec L2
variable {g : Gx} {ρ ρ' : List Addr} {H H' : Hp} {X : Cx} {W : WX} {L : List O} {cm : Nat → Addr} {fx : Hp}

inductive RS where
  | nx (ε : En) (L : List O) | rt (d : D) (L : List O) | bk (ε : En) (L : List O) | ct (ε : En) (L : List O) | ex (c : Nat) (fs : List (Str × D)) (ε : En) (L : List O) | bad
abbrev MS := En → List O → RS
def Rs.bindS {α : Type} (r : Rs α) (ε : En) (f : α → List O → RS) : RS := match r with
  | .ok a L => f a L
  | .ex c fs L => .ex c fs ε L
  | .bad => .bad
def LfS (g : Gx) (ρ : List Addr) (H : Hp) (W : WX) (r : RS) (D : Ends) : Prop := match r with
  | .nx ε' L' => ∀ σ' ρ' H', ρ <+: ρ' → TP H H' → HR g ρ' L' H' → ER g ρ' H' σ' ε' → D.nx σ' H'
  | .rt d L' => ∀ v ρ' H', ρ <+: ρ' → TP H H' → HR g ρ' L' H' → VR g ρ' H' d v → D.rt v H'
  | .bk ε' L' => ∀ σ' ρ' H', ρ <+: ρ' → TP H H' → HR g ρ' L' H' → ER g ρ' H' σ' ε' → D.bk σ' H'
  | .ct ε' L' => ∀ σ' ρ' H', ρ <+: ρ' → TP H H' → HR g ρ' L' H' → ER g ρ' H' σ' ε' → D.ct σ' H'
  | .ex c fs ε' L' => ∀ σ' ρ' H' dx, ρ <+: ρ' → TP H H' → HR g ρ' L' H' → ER g ρ' H' σ' ε' → XR g ρ' H' fs dx → W (.ref (g.cm c)) dx σ' H'
  | .bad => False
def tMS (g : Gx) (W : WX) (m : MS) : TS := fun D σ H => ∃ ε ρ L, ER g ρ H σ ε ∧ HR g ρ L H ∧ LfS g ρ H W (m ε L) D
theorem LfS.mono {D : Ends} {r : RS} (hp : ρ <+: ρ') (ht : TP H H') (h : LfS g ρ H W r D) : LfS g ρ' H' W r D := by
  cases r with
  | nx ε L => exact fun σ' ρ2 H2 p t a b => h σ' ρ2 H2 (hp.trans p) (ht.trans t) a b
  | rt ε L => exact fun σ' ρ2 H2 p t a b => h σ' ρ2 H2 (hp.trans p) (ht.trans t) a b
  | bk ε L => exact fun σ' ρ2 H2 p t a b => h σ' ρ2 H2 (hp.trans p) (ht.trans t) a b
  | ct ε L => exact fun σ' ρ2 H2 p t a b => h σ' ρ2 H2 (hp.trans p) (ht.trans t) a b
  | ex c fs ε L => exact fun σ' ρ2 H2 dx p t a b => h σ' ρ2 H2 dx (hp.trans p) (ht.trans t) a b
  | bad => exact h
theorem LfS.bind {α β : Type} {σ : L2.St} {ε : En} {rel : List Addr → Hp → α → β → Prop} {r : Rs α} {f : α → List O → RS} {D : Ends} {Q1 : β → Hp → Prop} (he : ER g ρ H σ ε) (h : LfS g ρ H W (r.bindS ε f) D)
    (k : ∀ a L' v ρ' H', r = .ok a L' → ρ <+: ρ' → TP H H' → HR g ρ' L' H' → rel ρ' H' a v → LfS g ρ' H' W (f a L') D → Q1 v H') : Lf g ρ H σ W rel r Q1 := by
  cases r with
  | ok a L' => exact fun v ρ' H' hp ht hh hr => k a L' v ρ' H' rfl hp ht hh hr (LfS.mono hp ht h)
  | ex c fs L' => exact fun ρ' H' dx hp ht hh hx => h σ ρ' H' dx hp ht hh (he.mono hp ht) hx
  | bad => exact h
theorem LfS.imp {D D' : Ends} {r : RS} (h : LfS g ρ H W r D) (h1 : ∀ σ H, D.nx σ H → D'.nx σ H) (h2 : ∀ v H, D.rt v H → D'.rt v H) (h3 : ∀ σ H, D.bk σ H → D'.bk σ H) (h4 : ∀ σ H, D.ct σ H → D'.ct σ H) : LfS g ρ H W r D' := by
  cases r with
  | nx ε L => exact fun σ' ρ2 H2 p t a b => h1 _ _ (h σ' ρ2 H2 p t a b)
  | rt ε L => exact fun σ' ρ2 H2 p t a b => h2 _ _ (h σ' ρ2 H2 p t a b)
  | bk ε L => exact fun σ' ρ2 H2 p t a b => h3 _ _ (h σ' ρ2 H2 p t a b)
  | ct ε L => exact fun σ' ρ2 H2 p t a b => h4 _ _ (h σ' ρ2 H2 p t a b)
  | ex c fs ε L => exact h
  | bad => exact h

/-! ### blocks -/
def mNext : MS := fun ε L => .nx ε L
def mSeq (a b : MS) : MS := fun ε L => match a ε L with
  | .nx ε' L' => b ε' L'
  | r => r
theorem sb_nil : PSs X [] (tMS g W mNext) := pss_nil.imp fun D σ H q => by
  obtain ⟨ε, ρ, L, he, hh, q⟩ := q
  exact q σ ρ H (List.prefix_refl _) (TP.refl H) hh he
theorem sb_cons {st : Stmt} {sts : List Stmt} {a b : MS} (h1 : PS X st (tMS g W a)) (h2 : PSs X sts (tMS g W b)) : PSs X (st :: sts) (tMS g W (mSeq a b)) :=
  (pss_cons h1 h2).imp fun D σ H q => by
    obtain ⟨ε, ρ, L, he, hh, q⟩ := q
    refine ⟨ε, ρ, L, he, hh, ?_⟩
    unfold mSeq at q
    cases ha : a ε L with
    | nx ε' L' => rw [ha] at q; exact fun σ' ρ' H' p t h e => ⟨ε', ρ', L', e, h, LfS.mono p t q⟩
    | rt d L' => rw [ha] at q; exact q
    | bk ε' L' => rw [ha] at q; exact q
    | ct ε' L' => rw [ha] at q; exact q
    | ex c fs ε' L' => rw [ha] at q; exact q
    | bad => rw [ha] at q; exact q
theorem sb_one {st : Stmt} {a : MS} (h1 : PS X st (tMS g W a)) : PSs X [st] (tMS g W a) := pss_one h1
def mBad : MS := fun _ _ => .bad
theorem ss_never {st : Stmt} : PS X st (tMS g W mBad) := ps_never.imp fun D σ H q => by
  obtain ⟨ε, ρ, L, he, hh, q⟩ := q
  exact q
theorem ss_pass {pos} : PS X (.Pass pos) (tMS g W mNext) := ps_pass.imp fun D σ H q => by
  obtain ⟨ε, ρ, L, he, hh, q⟩ := q
  exact q σ ρ H (List.prefix_refl _) (TP.refl H) hh he
theorem ss_doc {x j pos pos'} : PS X (.Expr (.Constant (.str x) j pos) pos') (tMS g W mNext) := ps_doc.imp fun D σ H q => by
  obtain ⟨ε, ρ, L, he, hh, q⟩ := q
  exact q σ ρ H (List.prefix_refl _) (TP.refl H) hh he
def mDrop (a : ME) : MS := fun ε L => (a ε L).bindS ε fun _ L1 => .nx ε L1
theorem ss_expr {e : Expr} {a : ME} {pos : Pos} (h : PE X e (tM g W a)) (hs : swapsWith e none pos.line X.env = pure false := by rfl) : PS X (.Expr e pos) (tMS g W (mDrop a)) :=
  (ps_expr h hs).imp fun D σ H q => by
    obtain ⟨ε, ρ, L, he, hh, q⟩ := q
    exact ⟨ε, ρ, L, he, hh, LfS.bind he q fun x L1 v ρ1 H1 _ p1 t1 h1 r1 q1 => q1 σ ρ1 H1 (List.prefix_refl _) (TP.refl H1) h1 (he.mono p1 t1)⟩
def mRet (a : ME) : MS := fun ε L => (a ε L).bindS ε fun x L1 => .rt x L1
theorem ss_ret {e : Expr} {a : ME} {pos} (h : PE X e (tM g W a)) : PS X (.Return (some e) pos) (tMS g W (mRet a)) :=
  (ps_ret h).imp fun D σ H q => by
    obtain ⟨ε, ρ, L, he, hh, q⟩ := q
    exact ⟨ε, ρ, L, he, hh, LfS.bind he q fun x L1 v ρ1 H1 _ p1 t1 h1 r1 q1 => q1 v ρ1 H1 (List.prefix_refl _) (TP.refl H1) h1 r1⟩
def mRetN : MS := fun _ L => .rt .non L
theorem ss_retN {pos} : PS X (.Return none pos) (tMS g W mRetN) := ps_retN.imp fun D σ H q => by
  obtain ⟨ε, ρ, L, he, hh, q⟩ := q
  exact q .non ρ H (List.prefix_refl _) (TP.refl H) hh .non
def mBrk : MS := fun ε L => .bk ε L
def mCnt : MS := fun ε L => .ct ε L
theorem ss_break {pos} : PS X (.Break pos) (tMS g W mBrk) := ps_break.imp fun D σ H q => by
  obtain ⟨ε, ρ, L, he, hh, q⟩ := q
  exact q σ ρ H (List.prefix_refl _) (TP.refl H) hh he
theorem ss_cont {pos} : PS X (.Continue pos) (tMS g W mCnt) := ps_continue.imp fun D σ H q => by
  obtain ⟨ε, ρ, L, he, hh, q⟩ := q
  exact q σ ρ H (List.prefix_refl _) (TP.refl H) hh he
def mIf (c : MB) (a b : MS) : MS := fun ε L => (c ε L).bindS ε fun t L1 => if t = true then a ε L1 else b ε L1
theorem ss_if {ec : Expr} {sa sb : List Stmt} {c : MB} {a b : MS} {pos} (hc : PT X ec (tMB g W c)) (ha : PSs X sa (tMS g W a)) (hb : PSs X sb (tMS g W b)) : PS X (.If ec sa sb pos) (tMS g W (mIf c a b)) :=
  (ps_if hc ha hb).imp fun D σ H q => by
    obtain ⟨ε, ρ, L, he, hh, q⟩ := q
    refine ⟨ε, ρ, L, he, hh, LfS.bind he q fun c L1 v ρ1 H1 _ p1 t1 h1 r1 q1 => ?_⟩
    cases r1
    cases c with
    | true => rw [if_pos rfl] at q1 ⊢; exact ⟨ε, ρ1, L1, he.mono p1 t1, h1, q1⟩
    | false => rw [if_neg (by decide)] at q1 ⊢; exact ⟨ε, ρ1, L1, he.mono p1 t1, h1, q1⟩

/-! ### targets that are names -/
def Upd (is : List Nat) (σ σ' : L2.St) : Prop := σ'.length = σ.length ∧ ∀ j, j ∉ is → σ'[j]? = σ[j]?
theorem Upd.refl (is : List Nat) (σ : L2.St) : Upd is σ σ := ⟨rfl, fun _ _ => rfl⟩
theorem Upd.trans {is : List Nat} {σ σ1 σ2 : L2.St} (a : Upd is σ σ1) (b : Upd is σ1 σ2) : Upd is σ σ2 := ⟨b.1.trans a.1, fun j hj => (b.2 j hj).trans (a.2 j hj)⟩
theorem Upd.set {is : List Nat} {i : Nat} (hi : i ∈ is) (σ : L2.St) (v : Option V) : Upd is σ (σ.set i v) := ⟨by simp, fun j hj => by
  rw [List.getElem?_set_ne]
  rintro rfl
  exact hj hi⟩
theorem Upd.sub {is js : List Nat} {σ σ' : L2.St} (h : ∀ i ∈ is, i ∈ js) (u : Upd is σ σ') : Upd js σ σ' := ⟨u.1, fun j hj => u.2 j fun z => hj (h j z)⟩
structure MG where
  is : List Nat
  f : D → En → Option En
structure MGs where
  is : List Nat
  f : List D → En → Option En
def tMG (g : Gx) (m : MG) : TG := fun v σ H Q => ∃ ρ ε d ε', ER g ρ H σ ε ∧ VR g ρ H d v ∧ m.f d ε = some ε' ∧ ∀ σ', ER g ρ H σ' ε' → Upd m.is σ σ' → Q σ' H
def tMGs (g : Gx) (m : MGs) : TGs := fun vs σ H Q => ∃ ρ ε ds ε', ER g ρ H σ ε ∧ VRs g ρ H ds vs ∧ m.f ds ε = some ε' ∧ ∀ σ', ER g ρ H σ' ε' → Upd m.is σ σ' → Q σ' H
theorem _root_.L2.PG.imp {X : Cx} {e : Expr} {t t' : TG} (h : PG X e t) (k : ∀ v σ H Q, t' v σ H Q → t v σ H Q) : PG X e t' := ⟨fun pins s σ H v u Q I r q => h.run pins s σ H v u Q I r (k v σ H Q q)⟩
theorem _root_.L2.PGs.imp {X : Cx} {e : List Expr} {t t' : TGs} (h : PGs X e t) (k : ∀ v σ H Q, t' v σ H Q → t v σ H Q) : PGs X e t' := ⟨fun pins s σ H v u Q I r q => h.run pins s σ H v u Q I r (k v σ H Q q)⟩
def gNm (i : Nat) : MG := ⟨[i], fun d ε => some (ε.set i (some d))⟩
def gsNil : MGs := ⟨[], fun ds ε => match ds with | [] => some ε | _ => none⟩
def gsCons (a : MG) (r : MGs) : MGs := ⟨a.is ++ r.is, fun ds ε => match ds with
  | d :: ds => (a.f d ε).bind fun ε1 => r.f ds ε1
  | [] => none⟩
def gTupM (n : Nat) (r : MGs) : MG := ⟨r.is, fun d ε => match d with
  | .tup ds => if ds.length = n then r.f ds ε else none
  | _ => none⟩
theorem sg_name {i : Nat} {x : Str} {pos : Pos} (hN : X.N.Nodup) (hi : X.N[i]? = some x) (hx : Loc X.env.scope x := by first | exact .inl rfl | exact .inr rfl) (hf : X.fn x = true ∨ X.env.scope.names.lookup x = some .local := by first | exact .inl rfl | exact .inr rfl) : PG X (.Name x pos) (tMG g (gNm i)) :=
  (pg_name hN hi hx hf).imp fun v σ H Q q => by
    obtain ⟨ρ, ε, d, ε', he, r, e, k⟩ := q
    cases e
    exact k _ (he.set i r) (Upd.set (by simp [gNm]) σ _)
theorem sgs_nil : PGs X [] (tMGs g gsNil) := pgs_nil.imp fun vs σ H Q q => by
  obtain ⟨ρ, ε, ds, ε', he, r, e, k⟩ := q
  cases r with
  | nil => cases e; exact ⟨rfl, k σ he (Upd.refl _ _)⟩
  | cons _ _ => cases e
theorem sgs_cons {e : Expr} {es : List Expr} {a : MG} {r : MGs} (h1 : PG X e (tMG g a)) (h2 : PGs X es (tMGs g r)) (hs : (assignEach (e :: es) X.env).map (·.2) = assign e X.env :: (assignEach es X.env).map (·.2) := by rfl) : PGs X (e :: es) (tMGs g (gsCons a r)) :=
  (pgs_cons h1 h2 hs).imp fun vs σ H Q q => by
    obtain ⟨ρ, ε, ds, ε', he, rr, e, k⟩ := q
    cases rr with
    | nil => cases e
    | cons rd rt =>
      simp only [gsCons] at e
      cases h1 : a.f _ ε with
      | none => rw [h1] at e; cases e
      | some ε1 =>
        rw [h1] at e
        refine ⟨_, _, rfl, ρ, ε, _, ε1, he, rd, h1, fun σ1 he1 u1 => ?_⟩
        refine ⟨ρ, ε1, _, ε', he1, rt, e, fun σ2 he2 u2 => k σ2 he2 ?_⟩
        exact (u1.sub fun i hi => List.mem_append_left _ hi).trans (u2.sub fun i hi => List.mem_append_right _ hi)
theorem sg_tup {es : List Expr} {k : Nat} {r : MGs} {n : Nat} {pos} (hc : X.calm = true) (h : PGs X es (tMGs ⟨X.K, cm, fx⟩ r)) (hn : (assignEach es X.env).length = n := by rfl) (hst : (assignEach es X.env).findIdx? (·.1) = none := by rfl) : PG X (.Tuple es k pos) (tMG ⟨X.K, cm, fx⟩ (gTupM n r)) :=
  (pg_tup hc h hn hst).imp fun v σ H Q q => by
    obtain ⟨ρ, ε, d, ε', he, rr, e, k⟩ := q
    simp only [gTupM] at e
    cases rr with
    | tup s t =>
      simp only at e
      split at e
      · rename_i hz
        exact ⟨_, _, rfl, s.sq, by rw [← t.length]; exact hz, ρ, ε, _, ε', he, t, e, k⟩
      · cases e
    | _ => cases e
/-- target = value, the target made of names -/
def mAsg (a : ME) (t : MG) : MS := fun ε L => (a ε L).bindS ε fun x L1 => match t.f x ε with
  | some ε' => .nx ε' L1
  | none => .bad
theorem ss_asg {tg e : Expr} {a : ME} {t : MG} {pos : Pos} (he : PE X e (tM g W a)) (hg : PG X tg (tMG g t)) (hs : swapsWithSole [tg] e pos.line X.env = pure false := by rfl) (hw : swappedStores [tg] e X.env = pure none := by rfl)
    (h1 : (assignEach [tg] X.env).map (·.2) = [assign tg X.env] := by rfl) : PS X (.Assign [tg] e pos) (tMS g W (mAsg a t)) :=
  (ps_asg he hg hs hw h1).imp fun D σ H q => by
    obtain ⟨ε, ρ, L, he, hh, q⟩ := q
    refine ⟨ε, ρ, L, he, hh, LfS.bind he q fun x L1 v ρ1 H1 _ p1 t1 h1 r1 q1 => ?_⟩
    cases ht : t.f x ε with
    | none => rw [ht] at q1; exact q1.elim
    | some ε' =>
      rw [ht] at q1
      exact ⟨ρ1, ε, x, ε', he.mono p1 t1, r1, ht, fun σ' he' _ => q1 σ' ρ1 H1 (List.prefix_refl _) (TP.refl H1) h1 he'⟩
def mSet (i : Nat) (a : ME) : MS := fun ε L => (a ε L).bindS ε fun x L1 => .nx (ε.set i (some x)) L1
theorem ss_set {i : Nat} {x : Str} {e : Expr} {a : ME} {pos pos' : Pos} (hN : X.N.Nodup) (hi : X.N[i]? = some x) (he : PE X e (tM g W a)) (hx : Loc X.env.scope x := by first | exact .inl rfl | exact .inr rfl) (hs : swapsWith e (some (.Name x pos')) pos.line X.env = pure false := by rfl)
    (hf : X.fn x = true ∨ X.env.scope.names.lookup x = some .local := by first | exact .inl rfl | exact .inr rfl) : PS X (.Assign [.Name x pos'] e pos) (tMS g W (mSet i a)) :=
  (ps_set hN hi hx he hs hf).imp fun D σ H q => by
    obtain ⟨ε, ρ, L, he, hh, q⟩ := q
    exact ⟨ε, ρ, L, he, hh, LfS.bind he q fun x L1 v ρ1 H1 _ p1 t1 h1 r1 q1 => q1 _ ρ1 H1 (List.prefix_refl _) (TP.refl H1) h1 ((he.mono p1 t1).set i r1)⟩
/-- a, b = x, y with two local names: no tuple is made -/
def mPar (i j : Nat) (r : MA) : MS := fun ε L => (r ε L).bindS ε fun xs L1 => match xs with
  | [x, y] => .nx ((ε.set i (some x)).set j (some y)) L1
  | _ => .bad
theorem ss_par {i j : Nat} {x y : Str} {a b : Expr} {r : MA} {px py pt pos : Pos} {kt k2 pt2} (hc : X.calm = true) (hN : X.N.Nodup) (hi : X.N[i]? = some x) (hj : X.N[j]? = some y) (hij : i ≠ j) (ha : PA X [a, b] (tMA g W r))
    (hx : X.env.scope.names.lookup x = some .local := by rfl) (hy : X.env.scope.names.lookup y = some .local := by rfl)
    (hw : swappedStores [.Tuple [.Name x px, .Name y py] kt pt] (.Tuple [a, b] k2 pt2) X.env = pure (some [x, y]) := by rfl)
    (hs : swapsWithSole [.Tuple [.Name x px, .Name y py] kt pt] (.Tuple [a, b] k2 pt2) pos.line X.env = pure false := by rfl) :
    PS X (.Assign [.Tuple [.Name x px, .Name y py] kt pt] (.Tuple [a, b] k2 pt2) pos) (tMS g W (mPar i j r)) :=
  (ps_par hc hN hi hj hij hx hy ha hw hs).imp fun D σ H q => by
    obtain ⟨ε, ρ, L, he, hh, q⟩ := q
    refine ⟨ε, ρ, L, he, hh, LfS.bind he q fun xs L1 vs ρ1 H1 _ p1 t1 h1 r1 q1 => ?_⟩
    split at q1
    · obtain ⟨v, u, rfl, a, b⟩ := r1.two
      exact ⟨v, u, rfl, q1 _ ρ1 H1 (List.prefix_refl _) (TP.refl H1) h1 (((he.mono p1 t1).set i a).set j b)⟩
    · exact q1.elim

/-! ### o.f = e; o[i] = e -/
def mFldSet (c : Nat) (f : Str) (o v : ME) : MS := fun ε L => (v ε L).bindS ε fun y L1 => (o ε L1).bindS ε fun x L2 => match x with
  | .ref n => match L2[n]? with
    | some (.ins c' fs) => if c' = c ∧ fs.length < 100 then .nx ε (L2.set n (.ins c (putD f y fs))) else .bad
    | _ => .bad
  | _ => .bad
theorem ss_fld {o e : Expr} {mo mv : ME} {c : Nat} {f : Str} {pos pos' : Pos} (ho : PE X o (tM ⟨X.K, cm, fx⟩ W mo)) (hv : PE X e (tM ⟨X.K, cm, fx⟩ W mv)) (hc : Cls X.K (cm c)) (hn : NoAttr X.K (cm c) f)
    (hs : swapsWith e (some (.Attribute o f pos')) pos.line X.env = pure false := by rfl) : PS X (.Assign [.Attribute o f pos'] e pos) (tMS ⟨X.K, cm, fx⟩ W (mFldSet c f mo mv)) :=
  (ps_fld ho hv hs).imp fun D σ H q => by
    obtain ⟨ε, ρ, L, he, hh, q⟩ := q
    refine ⟨ε, ρ, L, he, hh, LfS.bind he q fun y L1 yv ρ1 H1 _ p1 t1 h1 r1 q1 => ?_⟩
    refine ⟨ε, ρ1, L1, he.mono p1 t1, h1, LfS.bind (he.mono p1 t1) q1 fun x L2 xv ρ2 H2 _ p2 t2 h2 r2 q2 => ?_⟩
    cases r2 with
    | ref ea =>
      simp only at q2
      split at q2
      · rename_i c' fs hi
        split at q2
        · rename_i hz
          obtain ⟨rfl, hz⟩ := hz
          obtain ⟨dx, vs, e1, fr⟩ := h2.ins hi ea
          refine ⟨_, _, dx, vs, rfl, e1, hc, hn, by rw [← fr.length]; omega, ?_⟩
          have tt : TP H2 (upd H2 _ (.ins (cm c') dx (putF f yv vs))) := TP.mut e1 rfl
          exact q2 σ ρ2 _ (List.prefix_refl _) tt (h2.set ea e1 rfl ⟨dx, _, upd_same, ((fr.put (r1.mono p2 t2)).mono (List.prefix_refl _) tt)⟩) (((he.mono p1 t1).mono p2 t2).mono (List.prefix_refl _) tt)
        · exact q2.elim
      · exact q2.elim
    | _ => exact q2.elim
/-- o[i] = v by values -/
def putKD (ks : List (Key × D)) (k : Key) (v : D) : List (Key × D) := if (ks.any fun kv => decide (kv.1 = k)) = true then ks.map (fun kv => if kv.1 = k then (kv.1, v) else kv) else ks ++ [(k, v)]
theorem KR.any {ks : List (Key × D)} {vs : List (Key × V)} (r : KR g ρ H ks vs) (k : Key) : (ks.any fun kv => decide (kv.1 = k)) = (vs.any fun kv => decide (kv.1 = k)) := by
  induction r with
  | nil => rfl
  | cons r t ih => rw [List.any_cons, List.any_cons, ih]
theorem KR.snoc {ks : List (Key × D)} {vs : List (Key × V)} (r : KR g ρ H ks vs) {k : Key} {d : D} {v : V} (q : VR g ρ H d v) : KR g ρ H (ks ++ [(k, d)]) (vs ++ [(k, v)]) := by
  induction r with
  | nil => exact .cons q .nil
  | cons r t ih => exact .cons r ih
theorem KR.repl {ks : List (Key × D)} {vs : List (Key × V)} (r : KR g ρ H ks vs) {k : Key} {d : D} {v : V} (q : VR g ρ H d v) : KR g ρ H (ks.map (fun kv => if kv.1 = k then (kv.1, d) else kv)) (vs.map (fun kv => if kv.1 = k then (kv.1, v) else kv)) := by
  induction r with
  | nil => exact .nil
  | cons r t ih =>
    rw [List.map_cons, List.map_cons]
    simp only
    split
    · exact .cons q ih
    · exact .cons r ih
theorem KR.put {ks : List (Key × D)} {vs : List (Key × V)} (r : KR g ρ H ks vs) {k : Key} {d : D} {v : V} (q : VR g ρ H d v) : KR g ρ H (putKD ks k d) (putK vs k v) := by
  unfold putKD putK
  rw [r.any]
  split
  · exact r.repl q
  · exact r.snoc q
def oPut (x y v : D) (L : List O) : Option (List O) := match x with
  | .ref n => match L[n]? with
    | some (.lst ds) => match y with
      | .int i => (ixN ds.length i).map fun j => L.set n (.lst (ds.set j v))
      | _ => none
    | some (.dic false ks) => match keyD y with
      | some k => if ks.length < most then some (L.set n (.dic false (putKD ks k v))) else none
      | none => none
    | _ => none
  | _ => none
theorem set_dict (hu : X.A.units + 65 < cLine) : PSet X (fun o i v H Q => ∃ a H', o = .ref a ∧ DPut H a i v H' ∧ Q H') := by
  rintro pins s σ H o i v ov iv u Q I ro ri rv ⟨a, H', rfl, dp, q⟩
  cases ro
  exact d_setItem (by omega) I dp ri rv fun s' I' => ⟨H', I', q⟩
theorem PSet.or {t t' : TSet} (h : PSet X t) (h' : PSet X t') : PSet X (fun o i v H Q => t o i v H Q ∨ t' o i v H Q) := fun pins s σ H o i v ov iv u Q I ro ri rv q =>
  q.elim (h pins s σ H o i v ov iv u Q I ro ri rv) (h' pins s σ H o i v ov iv u Q I ro ri rv)
theorem set_oPut (hu : X.A.units + 65 < cLine) : PSet X (fun o i v H Q => ∃ ρ L x y z L', HR ⟨X.K, cm, fx⟩ ρ L H ∧ VR ⟨X.K, cm, fx⟩ ρ H x o ∧ VR ⟨X.K, cm, fx⟩ ρ H y i ∧ VR ⟨X.K, cm, fx⟩ ρ H z v ∧ oPut x y z L = some L' ∧ ∀ H', TP H H' → HR ⟨X.K, cm, fx⟩ ρ L' H' → Q H') := by
  intro pins s σ H o i v ov iv u Q I ro ri rv q
  refine PSet.or set_list (set_dict hu) pins s σ H o i v ov iv u Q I ro ri rv ?_
  obtain ⟨ρ, L, x, y, z, L', hh, rx, ry, rz, e, k⟩ := q
  unfold oPut at e
  split at e
  · cases rx with
    | ref ea =>
      split at e
      · rename_i ds h1
        obtain ⟨vs, b1, b2⟩ := hh.lst h1 ea
        split at e
        · rename_i i
          cases ry
          cases hj : ixN ds.length i with
          | none => rw [hj] at e; cases e
          | some j =>
            rw [hj] at e
            cases e
            have tt : TP H (upd H _ (.lst (vs.set j v))) := TP.mut b1 rfl
            refine .inl ⟨_, vs, i, j, rfl, rfl, b1, by rw [← b2.length]; exact hj, k _ tt ?_⟩
            exact hh.set ea b1 rfl ⟨_, upd_same, (b2.set rz j).mono (List.prefix_refl _) tt⟩
        · cases e
      · rename_i ks h1
        obtain ⟨vs, b1, b2⟩ := hh.ob _ _ _ h1 ea
        split at e
        · rename_i kk hk
          split at e
          · rename_i hz
            cases e
            obtain rfl := keyD_ok ry hk
            have tt : TP H (upd H _ (.dK (putK vs kk v))) := TP.mut b1 rfl
            refine .inr ⟨_, _, rfl, DPut.k b1 (Nat.lt_of_lt_of_le (by rw [← b2.length]; exact hz) (most_le (Nat.le_refl _))), k _ tt ?_⟩
            exact hh.set ea b1 rfl ⟨_, upd_same, (b2.put rz).mono (List.prefix_refl _) tt⟩
          · cases e
        · cases e
      · cases e
  · cases e
def mPut (o i v : ME) : MS := fun ε L => (v ε L).bindS ε fun z L1 => (o ε L1).bindS ε fun x L2 => (i ε L2).bindS ε fun y L3 => match oPut x y z L3 with
  | some L4 => .nx ε L4
  | none => .bad
theorem ss_put (hu : X.A.units + 65 < cLine) {o i e : Expr} {mo mi mv : ME} {pos pos' : Pos} (ho : PE X o (tM ⟨X.K, cm, fx⟩ W mo)) (hi : PE X i (tM ⟨X.K, cm, fx⟩ W mi)) (hv : PE X e (tM ⟨X.K, cm, fx⟩ W mv))
    (ha : ∀ v, assign (.Subscript o i pos') X.env v = (do
      let ov ← holding [v] (eval o X.env)
      let iv ← holding [v, ov] (eval i X.env)
      standAt pos'
      holding [v, ov, iv] (setItem ov iv v)
      release [v, ov, iv] []) := by exact fun _ => rfl)
    (hs : swapsWithSole [.Subscript o i pos'] e pos.line X.env = pure false := by rfl) (hw : swappedStores [.Subscript o i pos'] e X.env = pure none := by rfl)
    (h1 : (assignEach [.Subscript o i pos'] X.env).map (·.2) = [assign (.Subscript o i pos') X.env] := by rfl) : PS X (.Assign [.Subscript o i pos'] e pos) (tMS ⟨X.K, cm, fx⟩ W (mPut mo mi mv)) :=
  (ps_asg hv (pg_sub ho hi (set_oPut hu) ha) hs hw h1).imp fun D σ H q => by
    obtain ⟨ε, ρ, L, he, hh, q⟩ := q
    refine ⟨ε, ρ, L, he, hh, LfS.bind he q fun z L1 zv ρ1 H1 _ p1 t1 h1 r1 q1 => ?_⟩
    refine ⟨ε, ρ1, L1, he.mono p1 t1, h1, LfS.bind (he.mono p1 t1) q1 fun x L2 xv ρ2 H2 _ p2 t2 h2 r2 q2 => ?_⟩
    have he2 := (he.mono p1 t1).mono p2 t2
    refine ⟨ε, ρ2, L2, he2, h2, LfS.bind he2 q2 fun y L3 yv ρ3 H3 _ p3 t3 h3 r3 q3 => ?_⟩
    cases hp : oPut x y z L3 with
    | none => rw [hp] at q3; exact q3.elim
    | some L4 =>
      rw [hp] at q3
      exact ⟨ρ3, L3, x, y, z, L4, h3, r2.mono p3 t3, r3, (r1.mono p2 t2).mono p3 t3, hp, fun H4 t4 h4 => q3 σ ρ3 H4 (List.prefix_refl _) t4 h4 ((he2.mono p3 t3).mono (List.prefix_refl _) t4)⟩
end Tw
end

section
set_option Elab.async false
set_option linter.all false
set_option maxRecDepth 100000
set_option maxHeartbeats 1000000
/-! Tw, part F: what is walked, for, while, comprehensions over lists, tuples, ranges. -/
namespace Tw
open PySem PySem.Spec L2
variable {g : Gx} {ρ ρ' : List Addr} {H H' : Hp} {X : Cx} {W : WX} {L : List O} {cm : Nat → Addr} {fx : Hp}

/-! ### what is walked -/
structure Src where
  ds : List D
  at_ : Option (Nat × O)
def Src.ok (s : Src) (L : List O) : Bool := match s.at_ with
  | none => true
  | some (n, o) => decide (L[n]? = some o)
abbrev MI := En → List O → Rs Src
structure Wk (g : Gx) (ρ₀ : List Addr) (H₀ : Hp) (src : Src) (J : It) : Prop where
  go : ∀ (i : Nat) ρ' L' H, i < src.ds.length → ρ₀ <+: ρ' → TP H₀ H → HR g ρ' L' H → src.ok L' = true → J.go i H
  stop : ∀ ρ' L' H, ρ₀ <+: ρ' → TP H₀ H → HR g ρ' L' H → src.ok L' = true → J.stop src.ds.length H
  yld : ∀ (i : Nat) d ρ' L' H x H', src.ds[i]? = some d → ρ₀ <+: ρ' → TP H₀ H → HR g ρ' L' H → src.ok L' = true → J.yld i H x H' → TP H H' ∧ HR g ρ' L' H' ∧ VR g ρ' H' d x
def relW (g : Gx) : List Addr → Hp → Src → It → Prop := fun ρ H src J => Wk g ρ H src J
def tMI (g : Gx) (W : WX) (mi : MI) : TI := fun σ H R => ∃ ε ρ L, ER g ρ H σ ε ∧ HR g ρ L H ∧ Lf g ρ H σ W (relW g) (mi ε L) R
theorem _root_.L2.PI.imp {X : Cx} {tg e : Expr} {t t' : TI} (h : PI X tg e t) (k : ∀ σ H Q, t' σ H Q → t σ H Q) : PI X tg e t' := ⟨fun pins s σ H Q I q => h.run pins s σ H Q I (k σ H Q q)⟩
theorem PI.or {X : Cx} {tg e : Expr} {t t' : TI} (h : PI X tg e t) (h' : PI X tg e t') : PI X tg e (fun σ H R => t σ H R ∨ t' σ H R) := ⟨fun pins s σ H Q I q => q.elim (h.run pins s σ H Q I) (h'.run pins s σ H Q I)⟩
/-- the items of a list that stands, of a tuple -/
def mIter (a : ME) : MI := fun ε L => (a ε L).bind fun x L1 => match x with
  | .tup ds => .ok ⟨ds, none⟩ L1
  | .rol ds => .ok ⟨ds, none⟩ L1
  | .ref n => match L1[n]? with
    | some (.lst ds) => .ok ⟨ds, some (n, .lst ds)⟩ L1
    | _ => .bad
  | _ => .bad
theorem wk_tup {ds : List D} {a : Addr} {vs : List V} (s : SqT g.K H a vs) (t : VRs g ρ H ds vs) : Wk g ρ H ⟨ds, none⟩ (Itt g.K a) where
  go := fun i ρ' L' H' hi p tt _ _ => by
    have := t.length
    exact ⟨vs, vs[i]'(by rw [← this]; exact hi), tt.rd s, by simp⟩
  stop := fun ρ' L' H' p tt _ _ => ⟨vs, tt.rd s, by rw [← t.length]; exact Nat.le_refl _⟩
  yld := fun i d ρ' L' H' x H2 e p tt hh _ y => by
    obtain ⟨rfl, y⟩ := y
    obtain ⟨v, ev, r⟩ := t.get e
    have := y vs (tt.rd s)
    rw [ev] at this
    cases this
    exact ⟨TP.refl _, hh, r.mono p tt⟩
theorem wk_rol {ds : List D} {a : Addr} {vs : List V} (s : RoL g.K H a vs) (t : VRs g ρ H ds vs) : Wk g ρ H ⟨ds, none⟩ (Itl g.K a) where
  go := fun i ρ' L' H' hi p tt _ _ => by
    have := t.length
    exact ⟨vs, vs[i]'(by rw [← this]; exact hi), (tt.rol s).seq, by simp⟩
  stop := fun ρ' L' H' p tt _ _ => ⟨vs, (tt.rol s).seq, by rw [← t.length]; exact Nat.le_refl _⟩
  yld := fun i d ρ' L' H' x H2 e p tt hh _ y => by
    obtain ⟨rfl, y⟩ := y
    obtain ⟨v, ev, r⟩ := t.get e
    have := y vs (tt.rol s).seq
    rw [ev] at this
    cases this
    exact ⟨TP.refl _, hh, r.mono p tt⟩
theorem ok_at {src : Src} {n : Nat} {o : O} (h : (⟨ds, some (n, o)⟩ : Src).ok L = true) : L[n]? = some o := of_decide_eq_true h
theorem wk_lst {ds : List D} {n : Nat} {a : Addr} (ea : ρ[n]? = some a) : Wk g ρ H ⟨ds, some (n, .lst ds)⟩ (Itl g.K a) where
  go := fun i ρ' L' H' hi p tt hh ok => by
    obtain ⟨vs, b1, b2⟩ := hh.lst (of_decide_eq_true ok) (pre_get p ea)
    have := b2.length
    exact ⟨vs, vs[i]'(by rw [← this]; exact hi), SqL.of b1, by simp⟩
  stop := fun ρ' L' H' p tt hh ok => by
    obtain ⟨vs, b1, b2⟩ := hh.lst (of_decide_eq_true ok) (pre_get p ea)
    exact ⟨vs, SqL.of b1, by rw [← b2.length]; exact Nat.le_refl _⟩
  yld := fun i d ρ' L' H' x H2 e p tt hh ok y => by
    obtain ⟨rfl, y⟩ := y
    obtain ⟨vs, b1, b2⟩ := hh.lst (of_decide_eq_true ok) (pre_get p ea)
    obtain ⟨v, ev, r⟩ := b2.get e
    have := y vs (SqL.of b1)
    rw [ev] at this
    cases this
    exact ⟨TP.refl _, hh, r⟩
theorem si_iter {tg e : Expr} {a : ME} (h : PE X e (tM ⟨X.K, cm, fx⟩ W a)) : PI X tg e (tMI ⟨X.K, cm, fx⟩ W (mIter a)) :=
  (PI.or (pi_list h) (pi_tup h)).imp fun σ H R q => by
    obtain ⟨ε, ρ, L, he, hh, q⟩ := q
    -- which of both is known from the value
    by_cases ht : ∃ ds L1, a ε L = .ok (.tup ds) L1
    · obtain ⟨ds, L1, ht⟩ := ht
      refine .inr ⟨ε, ρ, L, he, hh, Lf.bind q fun x L1 v ρ1 H1 e1 p1 t1 h1 r1 q1 => ?_⟩
      rw [ht] at e1
      cases e1
      cases r1 with
      | tup s t => exact ⟨_, rfl, ⟨_, s.sq⟩, q1 _ ρ1 H1 (List.prefix_refl _) (TP.refl H1) h1 (wk_tup s.sq t)⟩
    · refine .inl ⟨ε, ρ, L, he, hh, Lf.bind q fun x L1 v ρ1 H1 e1 p1 t1 h1 r1 q1 => ?_⟩
      cases r1 with
      | tup s t => exact (ht ⟨_, _, e1⟩).elim
      | rol s t => exact ⟨_, rfl, ⟨_, s.seq⟩, q1 _ ρ1 H1 (List.prefix_refl _) (TP.refl H1) h1 (wk_rol s t)⟩
      | ref ea =>
        simp only at q1
        split at q1
        · rename_i ds h2
          obtain ⟨vs, b1, b2⟩ := h1.lst h2 ea
          exact ⟨_, rfl, ⟨_, SqL.of b1⟩, q1 _ ρ1 H1 (List.prefix_refl _) (TP.refl H1) h1 (wk_lst ea)⟩
        · exact q1.elim
      | _ => exact q1.elim
def rngD (lo : Int) (n : Nat) : List D := (List.range n).map fun (k : Nat) => .int (lo + k)
theorem rngD_len (lo : Int) (n : Nat) : (rngD lo n).length = n := by simp [rngD]
theorem wk_rng {lo : Int} {n : Nat} : Wk g ρ H ⟨rngD lo n, none⟩ (Itr lo n) where
  go := fun i ρ' L' H' hi p tt _ _ => by rw [rngD_len] at hi; exact hi
  stop := fun ρ' L' H' p tt _ _ => by show n ≤ _; rw [rngD_len]; exact Nat.le_refl _
  yld := fun i d ρ' L' H' x H2 e p tt hh _ y => by
    obtain ⟨rfl, rfl⟩ := y
    have hi : i < n := by
      obtain ⟨q, _⟩ := List.getElem?_eq_some_iff.mp e
      rw [rngD_len] at q; exact q
    simp only [rngD, List.getElem?_map, List.getElem?_range hi, Option.map_some, Option.some.injEq] at e
    subst e
    exact ⟨TP.refl _, hh, .int _⟩
/-- range(n), range(lo, n) -/
def mRng1 (a : ME) : MI := fun ε L => (a ε L).bind fun x L1 => match x with
  | .int n => if -1000000 ≤ n ∧ n ≤ 1000000 then .ok ⟨rngD 0 n.toNat, none⟩ L1 else .bad
  | _ => .bad
def mRng2 (a b : ME) : MI := fun ε L => (a ε L).bind fun x L1 => (b ε L1).bind fun y L2 => match x, y with
  | .int lo, .int n => if -1000000 ≤ lo ∧ lo ≤ 1000000 ∧ -1000000 ≤ n ∧ n ≤ 1000000 then .ok ⟨rngD lo (n - lo).toNat, none⟩ L2 else .bad
  | _, _ => .bad
theorem si_rng1 {tg e : Expr} {a : ME} {p pos} (hg : Gl X "range") (hm : X.mg "range" = none) (h : PA X [e] (tCons (tM g W a) tNil)) (hs : starEach [e] X.env = [(false, eval e X.env)] := by rfl) : PI X tg (.Call (.Name "range" p) [e] [] pos) (tMI g W (mRng1 a)) :=
  (pi_range1 hg hm h hs).imp fun σ H R q => by
    obtain ⟨ε, ρ, L, he, hh, q⟩ := q
    refine ⟨ε, ρ, L, he, hh, Lf.bind q fun x L1 v ρ1 H1 e1 p1 t1 h1 r1 q1 => ?_⟩
    cases r1 with
    | int n =>
      simp only at q1
      split at q1
      · rename_i hz
        refine ⟨n, rfl, by omega, by omega, q1 _ ρ1 H1 (List.prefix_refl _) (TP.refl H1) h1 wk_rng⟩
      · exact q1.elim
    | _ => exact q1.elim
theorem si_rng2 {tg e1 e2 : Expr} {a b : ME} {p pos} (hg : Gl X "range") (hm : X.mg "range" = none) (h : PA X [e1, e2] (tCons (tM g W a) (tCons (tM g W b) tNil))) (hs : starEach [e1, e2] X.env = [(false, eval e1 X.env), (false, eval e2 X.env)] := by rfl) (hs2 : starEach [e2] X.env = [(false, eval e2 X.env)] := by rfl) :
    PI X tg (.Call (.Name "range" p) [e1, e2] [] pos) (tMI g W (mRng2 a b)) :=
  (pi_range2 hg hm h hs hs2).imp fun σ H R q => by
    obtain ⟨ε, ρ, L, he, hh, q⟩ := q
    refine ⟨ε, ρ, L, he, hh, Lf.bind q fun x L1 v ρ1 H1 e1 p1 t1 h1 r1 q1 => ?_⟩
    refine ⟨ε, ρ1, L1, he.mono p1 t1, h1, Lf.bind q1 fun y L2 u ρ2 H2 e2 p2 t2 h2 r2 q2 => ?_⟩
    split at q2
    · cases r1; cases r2
      split at q2
      · rename_i hz
        exact ⟨_, _, rfl, by omega, q2 _ ρ2 H2 (List.prefix_refl _) (TP.refl H2) h2 wk_rng⟩
      · exact q2.elim
    · exact q2.elim

/-! ### for -/
def loopF (src : Src) (t : MG) (body : MS) : List D → MS
  | [], ε, L => if src.ok L = true then .nx ε L else .bad
  | d :: ds, ε, L => if src.ok L = true then (match t.f d ε with
    | none => .bad
    | some ε1 => match body ε1 L with
      | .nx ε2 L2 => loopF src t body ds ε2 L2
      | .ct ε2 L2 => loopF src t body ds ε2 L2
      | .bk ε2 L2 => .nx ε2 L2
      | r => r) else .bad
def mFor (mi : MI) (t : MG) (body : MS) : MS := fun ε L => (mi ε L).bindS ε fun src L1 => loopF src t body src.ds ε L1
theorem drop_cons {α : Type} {l : List α} {i : Nat} (h : i < l.length) : ∃ d, l[i]? = some d ∧ l.drop i = d :: l.drop (i + 1) := ⟨l[i], by simp, by rw [List.drop_eq_getElem_cons h]⟩
theorem loopF_ok {src : Src} {t : MG} {body : MS} {ds : List D} {ε : En} {D : Ends} (h : LfS g ρ H W (loopF src t body ds ε L) D) : src.ok L = true := by
  cases hk : src.ok L with
  | true => rfl
  | false =>
    cases ds with
    | nil => unfold loopF at h; rw [hk] at h; exact h.elim
    | cons d ds => unfold loopF at h; rw [hk] at h; exact h.elim
theorem ss_for {tg iter : Expr} {sts : List Stmt} {mi : MI} {t : MG} {body : MS} {pos : Pos} (hp : PassesOwn (model X.prog X.w) X.A X.env X.xe) (hc : X.calm = true) (hi : PI X tg iter (tMI g W mi)) (hg : PG X tg (tMG g t)) (hb : PSs X sts (tMS g W body))
    (hs : ∀ x, foldedSetIterable iter X.env x = pure x := by intro _; rfl) : PS X (.For tg iter sts [] pos) (tMS g W (mFor mi t body)) :=
  (ps_for hp hc hi hg hb hs).imp fun D σ H q => by
    obtain ⟨ε, ρ, L, he, hh, q⟩ := q
    refine ⟨ε, ρ, L, he, hh, LfS.bind he q fun src L1 J ρ1 H1 _ p1 t1 h1 wk q1 => ?_⟩
    let Wd : Nat → Nat → L2.St → Hp → Prop := fun i m σ H => m = src.ds.length - i ∧ i ≤ src.ds.length ∧ ∃ ρ' L' ε', ρ1 <+: ρ' ∧ TP H1 H ∧ HR g ρ' L' H ∧ ER g ρ' H σ ε' ∧ LfS g ρ' H W (loopF src t body (src.ds.drop i) ε' L') D
    refine ⟨Wd,
      ⟨_, rfl, Nat.zero_le _, ρ1, L1, ε, List.prefix_refl _, TP.refl H1, h1, he.mono p1 t1, q1⟩, ?_⟩
    rintro i m σ2 H2 ⟨rfl, hi, ρ2, L2, ε2, p2, t2, h2, he2, q2⟩
    have hok := loopF_ok q2
    by_cases hlt : i < src.ds.length
    · obtain ⟨d, hd, hdr⟩ := drop_cons hlt
      rw [hdr] at q2
      unfold loopF at q2
      rw [if_pos hok] at q2
      refine .inr ⟨wk.go i ρ2 L2 H2 hlt p2 t2 h2 hok, Wd (i + 1) (src.ds.length - (i + 1)), fun σ' H' n => ⟨src.ds.length - (i + 1), by omega, n⟩, fun x H3 y => ?_⟩
      · obtain ⟨t3, h3, r3⟩ := wk.yld i d ρ2 L2 H2 x H3 hd p2 t2 h2 hok y
        cases ht : t.f d ε2 with
        | none => rw [ht] at q2; exact q2.elim
        | some ε3 =>
          rw [ht] at q2
          simp only at q2
          refine ⟨ρ2, ε2, d, ε3, he2.mono (List.prefix_refl _) t3, r3, ht, fun σ4 he4 _ => ?_⟩
          refine ⟨ε3, ρ2, L2, he4, h3, ?_⟩
          have t23 := t2.trans t3
          cases hbd : body ε3 L2 with
          | nx ε5 L5 =>
            rw [hbd] at q2
            exact fun σ' ρ' H' p t' a b => ⟨rfl, hlt, ρ', L5, ε5, p2.trans p, t23.trans t', a, b, LfS.mono p (t3.trans t') q2⟩
          | ct ε5 L5 =>
            rw [hbd] at q2
            exact fun σ' ρ' H' p t' a b => ⟨rfl, hlt, ρ', L5, ε5, p2.trans p, t23.trans t', a, b, LfS.mono p (t3.trans t') q2⟩
          | bk ε5 L5 =>
            rw [hbd] at q2
            exact fun σ' ρ' H' p t' a b => q2 σ' ρ' H' p (t3.trans t') a b
          | rt d L5 =>
            rw [hbd] at q2
            exact fun v ρ' H' p t' a b => q2 v ρ' H' p (t3.trans t') a b
          | ex c fs ε5 L5 =>
            rw [hbd] at q2
            exact fun σ' ρ' H' dx p t' a b => q2 σ' ρ' H' dx p (t3.trans t') a b
          | bad => rw [hbd] at q2; exact q2.elim
    · have e : i = src.ds.length := by omega
      subst e
      rw [List.drop_length] at q2
      unfold loopF at q2
      rw [if_pos hok] at q2
      exact .inl ⟨wk.stop ρ2 L2 H2 p2 t2 h2 hok, q2 σ2 ρ2 H2 (List.prefix_refl _) (TP.refl H2) h2 he2⟩

/-! ### while -/
def loopW (c : MB) (body : MS) : Nat → MS
  | 0, _, _ => .bad
  | n + 1, ε, L => (c ε L).bindS ε fun t L1 => if t = true then (match body ε L1 with
      | .nx ε2 L2 => loopW c body n ε2 L2
      | .ct ε2 L2 => loopW c body n ε2 L2
      | .bk ε2 L2 => .nx ε2 L2
      | r => r) else .nx ε L1
theorem ss_while {ec : Expr} {sts : List Stmt} {c : MB} {body : MS} {pos : Pos} (n : Nat) (hp : PassesOwn (model X.prog X.w) X.A X.env X.xe) (hc : PT X ec (tMB g W c)) (hb : PSs X sts (tMS g W body)) : PS X (.While ec sts [] pos) (tMS g W (loopW c body n)) :=
  (ps_while hp hc hb).imp fun D σ H q => by
    obtain ⟨ε, ρ, L, he, hh, q⟩ := q
    refine ⟨fun m σ H => ∃ ρ' L' ε', HR g ρ' L' H ∧ ER g ρ' H σ ε' ∧ LfS g ρ' H W (loopW c body m ε' L') D, ⟨n, ρ, L, ε, hh, he, q⟩, ?_⟩
    rintro m σ1 H1 ⟨ρ1, L1, ε1, h1, he1, q1⟩
    cases m with
    | zero => exact q1.elim
    | succ m =>
      unfold loopW at q1
      refine ⟨ε1, ρ1, L1, he1, h1, LfS.bind he1 q1 fun b L2 v ρ2 H2 _ p2 t2 h2 r2 q2 => ?_⟩
      cases r2
      have he2 := he1.mono p2 t2
      cases b with
      | false => rw [if_neg (by decide)] at q2 ⊢; exact q2 σ1 ρ2 H2 (List.prefix_refl _) (TP.refl H2) h2 he2
      | true =>
        rw [if_pos rfl] at q2 ⊢
        refine ⟨_, fun σ' H' n => ⟨m, Nat.lt_succ_self m, n⟩, ε1, ρ2, L2, he2, h2, ?_⟩
        cases hbd : body ε1 L2 with
        | nx ε5 L5 =>
          rw [hbd] at q2
          exact fun σ' ρ' H' p t' a b => ⟨ρ', L5, ε5, a, b, LfS.mono p t' q2⟩
        | ct ε5 L5 =>
          rw [hbd] at q2
          exact fun σ' ρ' H' p t' a b => ⟨ρ', L5, ε5, a, b, LfS.mono p t' q2⟩
        | bk ε5 L5 => rw [hbd] at q2; exact q2
        | rt d L5 => rw [hbd] at q2; exact q2
        | ex c fs ε5 L5 => rw [hbd] at q2; exact q2
        | bad => rw [hbd] at q2; exact q2.elim
/-! ### comprehensions -/
abbrev W0 : WX := fun _ _ _ _ => False
def wipeE (ε : En) : List Nat → En
  | [] => ε
  | v :: vs => (wipeE ε vs).set v none
theorem ER.wipes {σ : L2.St} {ε : En} (e : ER g ρ H σ ε) : ∀ vs : List Nat, ER g ρ H (L2.wipe σ vs) (wipeE ε vs)
  | [] => e
  | v :: vs => (ER.wipes e vs).wipe v
theorem wipe_get {σ : L2.St} : ∀ {vs : List Nat} {j : Nat}, j ∈ vs → j < σ.length → (wipe σ vs)[j]? = some none
  | v :: vs, j, h, hl => by
    unfold wipe
    by_cases e : v = j
    · subst e
      rw [List.getElem?_set_self (by rw [wipe_length]; exact hl)]
    · rw [List.getElem?_set_ne e]
      exact wipe_get (by rcases List.mem_cons.mp h with z | z; exact absurd z.symm e; exact z) hl
theorem wipe_upd {σ σ' : L2.St} {is vs : List Nat} (u : Upd is σ σ') (h : ∀ i ∈ is, i ∈ vs) : wipe σ' vs = wipe σ vs := by
  refine List.ext_getElem? fun j => ?_
  by_cases hj : j ∈ vs
  · by_cases hl : j < σ.length
    · rw [wipe_get hj hl, wipe_get hj (by rw [u.1]; exact hl)]
    · rw [List.getElem?_eq_none (by rw [wipe_length, u.1]; omega), List.getElem?_eq_none (by rw [wipe_length]; omega)]
  · rw [wipe_out hj, wipe_out hj]
    exact u.2 j fun z => hj (h j z)
theorem wipe_wipe (σ : L2.St) (vs : List Nat) : wipe (wipe σ vs) vs = wipe σ vs := by
  refine List.ext_getElem? fun j => ?_
  by_cases hj : j ∈ vs
  · by_cases hl : j < σ.length
    · rw [wipe_get hj (by rw [wipe_length]; exact hl), wipe_get hj hl]
    · rw [List.getElem?_eq_none (by rw [wipe_length, wipe_length]; omega), List.getElem?_eq_none (by rw [wipe_length]; omega)]
  · rw [wipe_out hj]
/-- nothing is raised in a comprehension's block -/
def Rs.nox {α : Type} (r : Rs α) : Rs α := match r with
  | .ex _ _ _ => .bad
  | r => r
def loopC (src : Src) (t : MG) (tt : MB) (te : ME) (n : Nat) (ε : En) : List D → List O → Rs D
  | [], L => if src.ok L = true then .ok (.ref n) L else .bad
  | d :: ds, L => if src.ok L = true then (match t.f d ε with
    | none => .bad
    | some ε1 => (tt ε1 L).nox.bind fun b L2 => if b = true then (te ε1 L2).nox.bind fun y L3 => (match L3[n]? with
        | some (.lst acc) => if acc.length < most then loopC src t tt te n ε ds (L3.set n (.lst (acc ++ [y]))) else .bad
        | _ => .bad) else loopC src t tt te n ε ds L2) else .bad
def mComp (vs : List Nat) (mi : MI) (t : MG) (tt : MB) (te : ME) : ME := fun ε L => (mi ε L).bind fun src L1 => loopC src t tt te L1.length (wipeE ε vs) src.ds (L1 ++ [.lst []])
def mYes : MB := fun _ L => .ok true L
structure STs (g : Gx) (X : Cx) (ifs : List Expr) (m : MB) : Prop where
  h : PTs X ifs (tMB g W0 m)
theorem sts_nil : STs g X [] mYes := ⟨⟨fun pins s σ H Q I q => (pts_nil (X := X)).run pins s σ H Q I (by
  obtain ⟨ε, ρ, L, he, hh, q⟩ := q
  exact q true ρ H (List.prefix_refl _) (TP.refl H) hh rfl)⟩⟩
theorem sts_one {c : Expr} {m : MB} (h : PT X c (tMB g W0 m)) : STs g X [c] m := ⟨pts_one h⟩
theorem loopC_ok {src : Src} {t : MG} {tt : MB} {te : ME} {n : Nat} {ε : En} {ds : List D} {σ : L2.St} {Q : VK} (h : LfD g ρ H σ W (loopC src t tt te n ε ds L) Q) : src.ok L = true := by
  cases hk : src.ok L with
  | true => rfl
  | false =>
    cases ds with
    | nil => unfold loopC at h; rw [hk] at h; exact h.elim
    | cons d ds => unfold loopC at h; rw [hk] at h; exact h.elim
theorem Lf.nox {α β : Type} {σ σ' : L2.St} {rel : List Addr → Hp → α → β → Prop} {r : Rs α} {Q : β → Hp → Prop} (h : Lf g ρ H σ W rel r.nox Q) : Lf g ρ H σ' W0 rel r Q := by
  cases r with
  | ok a L => exact h
  | ex c fs L => exact h.elim
  | bad => exact h
theorem LfD.mono {σ : L2.St} {r : Rs D} {Q : VK} (hp : ρ <+: ρ') (ht : TP H H') (h : LfD g ρ H σ W r Q) : LfD g ρ' H' σ W r Q := by
  cases r with
  | ok d L => exact fun v ρ2 H2 p t a b => h v ρ2 H2 (hp.trans p) (ht.trans t) a b
  | ex c fs L => exact fun ρ2 H2 dx p t a b => h ρ2 H2 dx (hp.trans p) (ht.trans t) a b
  | bad => exact h
theorem comp_turns {src : Src} {t : MG} {tt : MB} {te : ME} {own : List Nat} {σ : L2.St} {ε : En} {J : It} {Q : VK} (hsub : ∀ i ∈ t.is, i ∈ own) (wk : Wk g ρ H src J) (he : ER g ρ H σ ε) {Dl : Addr} (hD : H Dl = none) (hh : HR g ρ L H)
    (q : LfD g ρ H σ W (loopC src t tt te L.length (wipeE ε own) src.ds (L ++ [.lst []])) Q) :
    ∃ Wv : Nat → Nat → Hp → Prop, (∃ m, Wv 0 m (upd H Dl (.lst []))) ∧ ∀ i m H, Wv i m H →
      (J.stop i H ∧ Q (.ref Dl) H) ∨ (J.go i H ∧ ∃ Nx : Hp → Prop, (∀ H', Nx H' → ∃ m', m' < m ∧ Wv (i + 1) m' H') ∧ ∀ x H', J.yld i H x H' → tMG g t x (wipe σ own) H' fun σ2 H2 => wipe σ2 own = wipe σ own ∧ tMB g W0 tt σ2 H2 fun b H3 =>
        if b = true then tM g W0 te σ2 H3 fun y H4 => ∃ acc, H4 Dl = some (.lst acc) ∧ acc.length < sizeLine ∧ Nx (upd H4 Dl (.lst (acc ++ [y]))) else Nx H3) := by
  have tD : TP H (upd H Dl (.lst [])) := TP.new hD
  have hr := hh.new hD (u := .lst []) (o := .lst []) ⟨[], upd_same, .nil⟩
  have eD : (ρ ++ [Dl])[L.length]? = some Dl := by rw [← hh.len]; simp
  let Wd : Nat → Nat → Hp → Prop := fun i m H1 => m = src.ds.length - i ∧ i ≤ src.ds.length ∧ ∃ ρ' L', ρ ++ [Dl] <+: ρ' ∧ TP H H1 ∧ HR g ρ' L' H1 ∧ LfD g ρ' H1 σ W (loopC src t tt te L.length (wipeE ε own) (src.ds.drop i) L') Q
  refine ⟨Wd,
    ⟨_, rfl, Nat.zero_le _, ρ ++ [Dl], _, List.prefix_refl _, tD, hr, LfD.mono (pre_snoc _ _) tD q⟩, ?_⟩
  rintro i m H2 ⟨rfl, hi, ρ2, L2, p2, t2, h2, q2⟩
  have p02 : ρ <+: ρ2 := (pre_snoc _ _).trans p2
  have hok := loopC_ok q2
  have eD2 : ρ2[L.length]? = some Dl := pre_get p2 eD
  by_cases hlt : i < src.ds.length
  · obtain ⟨d, hd, hdr⟩ := drop_cons hlt
    rw [hdr] at q2
    unfold loopC at q2
    rw [if_pos hok] at q2
    refine .inr ⟨wk.go i ρ2 L2 H2 hlt p02 t2 h2 hok, Wd (i + 1) (src.ds.length - (i + 1)), fun H' n => ⟨src.ds.length - (i + 1), by omega, n⟩, fun x H3 y => ?_⟩
    · obtain ⟨t3, h3, r3⟩ := wk.yld i d ρ2 L2 H2 x H3 hd p02 t2 h2 hok y
      have he3 : ER g ρ2 H3 (wipe σ own) (wipeE ε own) := (he.mono p02 (t2.trans t3)).wipes own
      cases ht : t.f d (wipeE ε own) with
      | none => rw [ht] at q2; exact q2.elim
      | some ε3 =>
        rw [ht] at q2
        have q3 := LfD.mono (List.prefix_refl _) t3 q2
        refine ⟨ρ2, _, d, ε3, he3, r3, ht, fun σ4 he4 u4 => ⟨by rw [wipe_upd u4 hsub, wipe_wipe], ε3, ρ2, L2, he4, h3, ?_⟩⟩
        refine Lf.nox (Lf.bind q3 fun b L5 v ρ5 H5 _ p5 t5 h5 r5 q5 => ?_)
        cases r5
        have p25 := p2.trans p5
        have t05 := (t2.trans t3).trans t5
        cases b with
        | false =>
          rw [if_neg (by decide)] at q5 ⊢
          exact ⟨rfl, hlt, ρ5, L5, p25, t05, h5, q5⟩
        | true =>
          rw [if_pos rfl] at q5 ⊢
          refine ⟨ε3, ρ5, L5, he4.mono p5 t5, h5, Lf.nox (Lf.bind q5 fun y L6 yv ρ6 H6 _ p6 t6 h6 r6 q6 => ?_)⟩
          split at q6
          · rename_i acc ha
            split at q6
            · rename_i hz
              have e6 : ρ6[L.length]? = some Dl := pre_get (p5.trans p6) eD2
              obtain ⟨vs, b1, b2⟩ := h6.lst ha e6
              have t7 : TP H6 (upd H6 Dl (.lst (vs ++ [yv]))) := TP.mut b1 rfl
              refine ⟨vs, b1, Nat.lt_of_lt_of_le (by rw [← b2.length]; exact hz) (most_le (Nat.le_refl _)), rfl, hlt, ρ6, _, p25.trans p6, (t05.trans t6).trans t7, ?_, LfD.mono (List.prefix_refl _) t7 q6⟩
              exact h6.set e6 b1 rfl ⟨_, upd_same, (b2.append (.cons r6 .nil)).mono (List.prefix_refl _) t7⟩
            · exact q6.elim
          · exact q6.elim
  · have e : i = src.ds.length := by omega
    subst e
    rw [List.drop_length] at q2
    unfold loopC at q2
    rw [if_pos hok] at q2
    exact .inl ⟨wk.stop ρ2 L2 H2 p02 t2 h2 hok, q2 _ ρ2 H2 (List.prefix_refl _) (TP.refl H2) h2 (.ref eD2)⟩
end Tw
end

section
set_option Elab.async false
set_option linter.all false
set_option maxRecDepth 100000
set_option maxHeartbeats 1000000
/-! Tw, part G: comprehensions as expressions; defs, methods, classes as functions of data. -/
namespace Tw
open PySem PySem.Spec L2
open PyProof.Rows (envOfC)
variable {g : Gx} {ρ ρ' : List Addr} {H H' : Hp} {X : Cx} {W : WX} {L : List O} {cm : Nat → Addr} {fx : Hp}

/-! ### comprehensions -/
/-- the parts of a comprehension's block, in whatever block it runs -/
abbrev InBlk (X : Cx) (scope : Scope) (p : Cx → Prop) : Prop := ∀ (s : Shared) (H : Hp) (C : Addr) (cl : List (Str × Addr)) (fp : List Addr), p (X.blk s H scope (compEnvC scope cl C X.env) fp)
theorem tLc_ok {own : List Nat} {mi : MI} {t : MG} {tt : MB} {te : ME} {σ : L2.St} {Q : VK} (hsub : ∀ i ∈ t.is, i ∈ own) (q : tM g W (mComp own mi t tt te) σ H Q) : tLc (tMI g W mi) (tMG g t) (tMB g W0 tt) (tM g W0 te) own σ H Q := by
  obtain ⟨ε, ρ, L, he, hh, q⟩ := q
  refine ⟨ε, ρ, L, he, hh, Lf.bind q fun src L1 J ρ1 H1 _ p1 t1 h1 wk q1 => fun Dl hD => ?_⟩
  exact comp_turns hsub wk (he.mono p1 t1) hD h1 q1
theorem se_lc {elt tg iter : Expr} {ifs : List Expr} {scope : Scope} {own : List (Str × Nat)} {pos : Pos} {mi : MI} {t : MG} {tt : MB} {te : ME} (hc : X.calm = true) (hN : X.N.Nodup) (hi : PI X tg iter (tMI g W mi)) (ok : BlkOk X.N X.env.scope scope own)
    (hg : InBlk X scope fun Y => PG Y tg (tMG g t)) (ht : InBlk X scope fun Y => STs g Y ifs tt) (he : InBlk X scope fun Y => PE Y elt (tM g W0 te)) (hsub : ∀ i ∈ t.is, i ∈ own.map (·.2) := by decide) (hs : ∀ x, foldedSetIterable iter X.env x = pure x := by intro _; rfl) :
    PE X (.ListComp elt [⟨tg, iter, ifs, 0⟩] scope pos) (tM g W (mComp (own.map (·.2)) mi t tt te)) :=
  (pe_lc hc hN hi ok hg (fun s H C cl fp => (ht s H C cl fp).h) he hs).imp fun σ H Q q => tLc_ok hsub q
theorem ss_setLc {i : Nat} {y : Str} {py : Pos} {elt tg iter : Expr} {ifs : List Expr} {scope : Scope} {own : List (Str × Nat)} {pos spos : Pos} {mi : MI} {t : MG} {tt : MB} {te : ME} (hc : X.calm = true) (hN : X.N.Nodup) (hy : X.N[i]? = some y) (hi : PI X tg iter (tMI g W mi)) (ok : BlkOk X.N X.env.scope scope own)
    (hg : InBlk X scope fun Y => PG Y tg (tMG g t)) (ht : InBlk X scope fun Y => STs g Y ifs tt) (he : InBlk X scope fun Y => PE Y elt (tM g W0 te)) (hsub : ∀ i ∈ t.is, i ∈ own.map (·.2) := by decide) (hyl : X.env.scope.names.lookup y = some .local := by rfl)
    (hsw : swapsWith (.ListComp elt [⟨tg, iter, ifs, 0⟩] scope pos) (some (.Name y py)) spos.line X.env = pure true := by exact sw_true rfl rfl rfl (by decide +kernel)) (hs : ∀ x, foldedSetIterable iter X.env x = pure x := by intro _; rfl) :
    PS X (.Assign [.Name y py] (.ListComp elt [⟨tg, iter, ifs, 0⟩] scope pos) spos) (tMS g W (mSet i (mComp (own.map (·.2)) mi t tt te))) :=
  (ps_setLc hc hN hy hyl hsw hi ok hg (fun s H C cl fp => (ht s H C cl fp).h) he hs).imp fun D σ H q => by
    obtain ⟨ε, ρ, L, he, hh, q⟩ := q
    exact tLc_ok hsub ⟨ε, ρ, L, he, hh, LfS.bind he q fun x L1 v ρ1 H1 _ p1 t1 h1 r1 q1 => q1 _ ρ1 H1 (List.prefix_refl _) (TP.refl H1) h1 ((he.mono p1 t1).set i r1)⟩

/-! ### defs -/
abbrev FS := List D → List O → Rs D
def LfF (g : Gx) (ρ : List Addr) (H : Hp) (r : Rs D) (Q : VK) (E : XK) : Prop := match r with
  | .ok d L' => ∀ v ρ' H', ρ <+: ρ' → TP H H' → HR g ρ' L' H' → VR g ρ' H' d v → Q v H'
  | .ex c fs L' => ∀ ρ' H' dx, ρ <+: ρ' → TP H H' → HR g ρ' L' H' → XR g ρ' H' fs dx → E (.ref (g.cm c)) dx H'
  | .bad => False
def spF (K : PySem.W.Frag) (cm : Nat → Addr) (n : Nat) (F : FS) : Sp := fun vs H Q E => vs.length = n ∧ ∃ fx ρ L ds, HR ⟨K, cm, fx⟩ ρ L H ∧ VRs ⟨K, cm, fx⟩ ρ H ds vs ∧ LfF ⟨K, cm, fx⟩ ρ H (F ds L) Q E
def runF (n N : Nat) (m : MS) : FS := fun ds L => if ds.length = n then (match m (ds.map some ++ List.replicate (N - n) none) L with
  | .nx _ L' => .ok .non L'
  | .rt d L' => .ok d L'
  | .ex c fs _ L' => .ex c fs L'
  | _ => .bad) else .bad
theorem ER.begin {ds : List D} {vs : List V} (r : VRs g ρ H ds vs) (N : List Str) : ER g ρ H (L2.start N vs) (ds.map some ++ List.replicate (N.length - ds.length) none) := by
  refine ⟨by simp [L2.start, r.length], fun i d e => ?_⟩
  unfold L2.start
  by_cases hi : i < ds.length
  · rw [List.getElem?_append_left (by simpa using hi)] at e
    rw [List.getElem?_append_left (by simpa [← r.length] using hi)]
    have e' : ds[i]? = some d := by
      rw [List.getElem?_map] at e
      cases h : ds[i]? with
      | none => rw [h] at e; cases e
      | some z => rw [h] at e; cases e; rfl
    obtain ⟨v, h1, h2⟩ := r.get e'
    exact ⟨v, by rw [List.getElem?_map, h1]; rfl, h2⟩
  · rw [List.getElem?_append_right (by simpa using hi)] at e
    obtain ⟨h1, h2⟩ := List.getElem?_eq_some_iff.mp e
    simp at h2
section
variable {P : Program} {w : World} {K : PySem.W.Frag} {mg : Str → Option Value} {base : Heap} {cm : Nat → Addr} {fx : Hp}
/-- the wish about exceptions in a def's body -/
abbrev WF (E : XK) : WX := fun cls d _ H => E cls d H
abbrev cxF (P : Program) (w : World) (K : PySem.W.Frag) (mg : Str → Option Value) (base : Heap) (N : List Str) (qual : Str) (sc : Scope) (f : Addr) (cdv : Value) (A : Around) (outer : List Env) (s : Shared) (H : Hp) (E : XK) : Cx := cxOf (L2.CX P w) P w K mg base N qual sc f cdv A outer s H E
/-- the body does what m says -/
def BodyOk (P : Program) (w : World) (K : PySem.W.Frag) (mg : Str → Option Value) (base : Heap) (cm : Nat → Addr) (N : List Str) (qual : Str) (sc : Scope) (f : Addr) (body : List Stmt) (k : Nat) (m : MS) : Prop :=
  ∀ (fx : Hp) (cdv : Value) (A : Around) (outer : List Env) (s : Shared) (H : Hp) (E : XK), Room k (A.deeper (envOfC qual sc s.heap.objs.size f cdv)) → Takes (cxF P w K mg base N qual sc f cdv A outer s H E) (WF E) →
    PassesOwn (model P w) (cxF P w K mg base N qual sc f cdv A outer s H E).A (cxF P w K mg base N qual sc f cdv A outer s H E).env (cxF P w K mg base N qual sc f cdv A outer s H E).xe →
    PSs (cxF P w K mg base N qual sc f cdv A outer s H E) body (tMS ⟨K, cm, fx⟩ (WF E) m)
theorem body_run {N ps : List Str} {qual : Str} {sc : Scope} {f : Addr} {body : List Stmt} {k : Nat} {m : MS} (h : BodyOk P w K mg base cm N qual sc f body k m) (hN : ps.length ≤ N.length) :
    ∀ (cdv : Value) (A : Around) (outer : List Env) (s : Shared) (H : Hp) (vs : List V) (Q : VK) (E : XK), Room k (A.deeper (envOfC qual sc s.heap.objs.size f cdv)) → spF K cm ps.length (runF ps.length N.length m) vs H Q E →
      ∃ t, PSs (cxOf (L2.CX P w) P w K mg base N qual sc f cdv A outer s H E) body t ∧ t { nx := fun _ H' => Q .non H', rt := Q } (start N vs) H := by
  intro cdv A outer s H vs Q E hr hsp
  obtain ⟨hl, fx, ρ, L, ds, hh, r, q⟩ := hsp
  refine ⟨_, h fx cdv A outer s H E hr (takes_of rfl rfl rfl rfl) (passes_of rfl), ?_⟩
  unfold runF at q
  have hd : ds.length = ps.length := r.length.trans hl
  rw [if_pos hd] at q
  have he := ER.begin r N
  rw [hd] at he
  refine ⟨_, ρ, L, he, hh, ?_⟩
  cases hm : m (ds.map some ++ List.replicate (N.length - ps.length) none) L with
  | nx ε' L' => rw [hm] at q; exact fun σ' ρ' H' p t a b => q .non ρ' H' p t a .non
  | rt d L' => rw [hm] at q; exact q
  | bk ε' L' => rw [hm] at q; exact q.elim
  | ct ε' L' => rw [hm] at q; exact q.elim
  | ex c fs ε' L' => rw [hm] at q; exact fun σ' ρ' H' dx p t a b x => q ρ' H' dx p t a x
  | bad => rw [hm] at q; exact q.elim
abbrev FnF (P : Program) (w : World) (K : PySem.W.Frag) (mg : Str → Option Value) (base : Heap) (cm : Nat → Addr) (k : Nat) (f : Addr) (fd : FuncData) (ps : List Str) (F : FS) : Prop := FnOk P w K mg base (L2.CX P w) k f fd ps (spF K cm ps.length F)
theorem fn_ok {x qual : Str} {st : Stmt} {f : Addr} {fd : FuncData} {N ps : List Str} {k : Nat} {m : MS} (F : Fun K x qual st f fd) (S : FnScope N ps (defScope st)) (h : BodyOk P w K mg base cm N qual (defScope st) f (defBody st) k m) (hN : ps.length ≤ N.length := by decide) :
    FnF P w K mg base cm (k + 1) f fd ps (runF ps.length N.length m) := F.okX S (fun vs H Q E hsp => hsp.1) (body_run h hN)
theorem fnD_ok {x qual : Str} {params : Arguments} {body : List Stmt} {sc : Scope} {dvs : List V} {kws : List (Str × V)} {f : Addr} {fd : FuncData} {N ps : List Str} {k : Nat} {m : MS} (F : FunD K x qual params body sc dvs kws f fd) (S : FnScope N ps sc)
    (h : BodyOk P w K mg base cm N qual sc f body k m) (hN : ps.length ≤ N.length := by decide) : FnF P w K mg base cm (k + 1) f fd ps (runF ps.length N.length m) := by
  obtain ⟨oc, od, dV, kV, doc, pm, an, cdv, ct, osl, rfl, lk, hcd, _⟩ := F.ex
  exact fn_of lk hcd S (fun vs H Q E hsp => hsp.1) fun A outer s H vs Q E hr hsp => body_run h hN cdv A outer s H vs Q E hr hsp
/-- a def by its global name -/
structure FI (P : Program) (w : World) (K : PySem.W.Frag) (mg : Str → Option Value) (base : Heap) (cm : Nat → Addr) (x : Str) (k n : Nat) (F : FS) : Prop where
  ex : ∃ (f : Addr) (fd : FuncData) (ps : List Str), mg x = some (.ref f) ∧ PySem.W.keepIn K (.ref f) = true ∧ Binds K fd ps [] ∧ ps.length = n ∧ FnF P w K mg base cm k f fd ps F
/-- a method of the class c -/
structure MtI (P : Program) (w : World) (K : PySem.W.Frag) (mg : Str → Option Value) (base : Heap) (cm : Nat → Addr) (c : Nat) (x : Str) (k n : Nat) (F : FS) : Prop where
  ex : ∃ (f : Addr) (fd : FuncData) (ps : List Str), Meth K (cm c) x f ∧ Cls K (cm c) ∧ Binds K fd ps [] ∧ ps.length = n ∧ FnF P w K mg base cm k f fd ps F
/-- the class c by its name, its __init__ -/
structure CI (P : Program) (w : World) (K : PySem.W.Frag) (mg : Str → Option Value) (base : Heap) (cm : Nat → Addr) (x : Str) (c k n : Nat) (F : FS) : Prop where
  ex : ∃ (f : Addr) (fd : FuncData) (ps : List Str), mg x = some (.ref (cm c)) ∧ Mk K (cm c) f ∧ Binds K fd ps [] ∧ ps.length = n ∧ FnF P w K mg base cm k f fd ps F
/-- a property of the class c -/
structure PrI (P : Program) (w : World) (K : PySem.W.Frag) (mg : Str → Option Value) (base : Heap) (cm : Nat → Addr) (c : Nat) (x : Str) (k : Nat) (F : FS) : Prop where
  ex : ∃ (p f : Addr) (fd : FuncData) (ps : List Str), PropOf K (cm c) x p f ∧ Cls K (cm c) ∧ Binds K fd ps [] ∧ ps.length = 1 ∧ FnF P w K mg base cm k f fd ps F
end

/-! ### calls -/
abbrev EW (W : WX) (σ : L2.St) : XK := fun cls d H => W cls d σ H
theorem pass_at {W : WX} (tk : Takes X W) (σ : L2.St) : PassesAt (L2.CX X.prog X.w) X σ (EW W σ) := L2.passAt tk σ
theorem takes0' {X : Cx} : Takes X W0 := takes0
def mCall (F : FS) (args : MA) : ME := fun ε L => (args ε L).bind fun ds L1 => F ds L1
theorem LfF.of {σ : L2.St} {r : Rs D} {Q : VK} (h : LfD g ρ H σ W r Q) : LfF g ρ H r Q (EW W σ) := by
  cases r with
  | ok d L => exact h
  | ex c fs L => exact h
  | bad => exact h
theorem tMA_sp {n : Nat} {F : FS} {args : MA} {σ : L2.St} {Q : VK} (hn : ∀ ε L ds L', args ε L = .ok ds L' → ds.length = n) (q : tM g W (mCall F args) σ H Q) : tMA g W args σ H fun vs H1 => spF g.K g.cm n F (vs ++ []) H1 Q (EW W σ) := by
  obtain ⟨ε, ρ, L, he, hh, q⟩ := q
  refine ⟨ε, ρ, L, he, hh, Lf.bind q fun ds L1 vs ρ1 H1 e1 p1 t1 h1 r1 q1 => ?_⟩
  rw [List.append_nil]
  exact ⟨by rw [← r1.length]; exact hn _ _ _ _ e1, g.fx, ρ1, L1, ds, h1, r1, LfF.of q1⟩
/-- how many an argument list gives -/
structure Len (m : MA) (n : Nat) : Prop where
  h : ∀ ε L ds L', m ε L = .ok ds L' → ds.length = n
theorem len_nil : Len mNil 0 := ⟨fun ε L ds L' e => by cases e; rfl⟩
theorem len_cons {a : ME} {r : MA} {n : Nat} (h : Len r n) : Len (mCons a r) (n + 1) := ⟨fun ε L ds L' e => by
  unfold mCons at e
  cases ha : a ε L with
  | ok x L1 =>
    rw [ha] at e
    simp only [Rs.bind] at e
    cases hr : r ε L1 with
    | ok xs L2 => rw [hr] at e; cases e; simp [h.h _ _ _ _ hr]
    | ex c fs L2 => rw [hr] at e; cases e
    | bad => rw [hr] at e; cases e
  | ex c fs L1 => rw [ha] at e; cases e
  | bad => rw [ha] at e; cases e⟩
theorem se_call {cm : Nat → Addr} {fx : Hp} {x : Str} {k n : Nat} {F : FS} {e : Expr} {es : List Expr} {args : MA} {p pos : Pos} (h : FI X.prog X.w X.K X.mg X.base cm x k n F) (hr : Room k X.A) (tk : Takes X W) (ha : PA X (e :: es) (tMA ⟨X.K, cm, fx⟩ W args)) (hl : Len args n)
    (hg : Gl X x := by rfl) (hdb : (x == ("__debug__" : Str)) = false := by decide) (he : starEach (e :: es) X.env = (false, eval e X.env) :: starEach es X.env := by rfl) (hpl : (backTo pos (starEach es X.env)).any (·.1) = false := by rfl) :
    PE X (.Call (.Name x p) (e :: es) [] pos) (tM ⟨X.K, cm, fx⟩ W (mCall F args)) := by
  obtain ⟨f, fd, ps, hm, hk, hb, hps, G⟩ := h.ex
  refine (pe_callSD (E := EW W) G hr hg hm hk hb .nil (fun σ => pass_at tk σ) ha hdb he hpl).imp fun σ H Q q => ?_
  subst hps
  exact tMA_sp hl.h q
/-- o.m(..) where what is raised is wished for at the caller's slots -/
def tMethSD (C : Addr) (m : Str) (sp : Sp) (dvs : List V) (E : L2.St → XK) (ta : TE) (t : TA) : TE := fun σ H Q => ta σ H fun x H1 => ∃ a dx fs, x = .ref a ∧ H1 a = some (.ins C dx fs) ∧ fs.lookup m = none ∧ t σ H1 fun vs H2 => sp (x :: (vs ++ dvs)) H2 Q (E σ)
section
variable {CX : CXT} {k : Nat} {f C : Addr} {fd : FuncData} {ps : List Str} {sp : Sp} {dvs : List V} {ds : List Value} {E : L2.St → XK} {x m : Str} {p pos apos : Pos} {e o : Expr} {es : List Expr} {ta : TE} {t : TA}
theorem pe_methSD {pl : Sem Bool} (he : PE X o ta) (c : Cls X.K C) (hm : Meth X.K C m f) (F : FnOk X.prog X.w X.K X.mg X.base CX k f fd ps sp) (hr : Room k X.A) (hb : Binds X.K fd ps ds) (hd : Vals dvs ds) (hx : ∀ σ, PassesAt CX X σ (E σ)) (ha : PA X (e :: es) t)
    (hst : starEach (e :: es) X.env = (false, eval e X.env) :: starEach es X.env := by rfl) (hpl : (backTo pos (starEach es X.env)).any (·.1) = false := by rfl)
    (ht : eval (.Call (.Attribute o m apos) (e :: es) [] pos) X.env = (do
      let ov ← eval o X.env
      standAt apos.atName
      let (f, first) ← holding [ov] (getMethod ov m pl)
      callWith pos f first (backTo pos (starEach (e :: es) X.env)) (backToKw pos (keywordEach [] X.env))) := by rfl) :
    PE X (.Call (.Attribute o m apos) (e :: es) [] pos) (tMethSD C m sp dvs E ta t) := by
  refine ⟨fun pins s σ H Q I h => ?_⟩
  refine PySem.W.methodCall_KW (pl := pl) (thn (he.run pins s σ H _ I h) fun u s1 ⟨x, H1, I1, rx, a, dx, fs, ex, ea, l, q⟩ => ?_) ht
  subst ex
  obtain rfl : u = Value.ref a := rx
  refine getmeth_ok I1 ea c hm l ?_
  refine PySem.W.callWith_K (first := [.ref a]) (h₀ := X.base) I.ok.mod.kin hm.kp (thn (ha.run pos pins s1 σ H1 _ I1 q) fun us s2 ⟨vs, H2, I2, r, q2⟩ => ⟨I2.kIn, ?_⟩) hst hpl
  exact run_fnSD (us := .ref a :: us) (vs := .ref a :: vs) F hr hb hd (hx σ) I2 (.cons rfl r) q2
theorem pe_meth0SD {pl : Sem Bool} (he : PE X o ta) (c : Cls X.K C) (hm : Meth X.K C m f) (F : FnOk X.prog X.w X.K X.mg X.base CX k f fd ps sp) (hr : Room k X.A) (hb : Binds X.K fd ps ds) (hd : Vals dvs ds) (hx : ∀ σ, PassesAt CX X σ (E σ))
    (ht : eval (.Call (.Attribute o m apos) [] [] pos) X.env = (do
      let ov ← eval o X.env
      standAt apos.atName
      let (f, first) ← holding [ov] (getMethod ov m pl)
      callWith pos f first (backTo pos (starEach [] X.env)) (backToKw pos (keywordEach [] X.env))) := by rfl) :
    PE X (.Call (.Attribute o m apos) [] [] pos) (tMethSD C m sp dvs E ta tNil) := by
  refine ⟨fun pins s σ H Q I h => ?_⟩
  refine PySem.W.methodCall_KW (pl := pl) (thn (he.run pins s σ H _ I h) fun u s1 ⟨x, H1, I1, rx, a, dx, fs, ex, ea, l, q⟩ => ?_) ht
  subst ex
  obtain rfl : u = Value.ref a := rx
  refine getmeth_ok I1 ea c hm l ?_
  exact PySem.W.callWith_K0 (first := [.ref a]) I1.kIn hm.kp (run_fnSD (us := [.ref a]) (vs := [.ref a]) F hr hb hd (hx σ) I1 (.cons rfl .nil) q)
end
def isIns (c : Nat) (m : Str) (L : List O) (x : D) : Bool := match x with
  | .ref n => match L[n]? with
    | some (.ins c' fs) => decide (c' = c) && (fs.lookup m).isNone
    | _ => false
  | _ => false
theorem isIns_ok {c : Nat} {m : Str} {x : D} {v : V} (hh : HR g ρ L H) (r : VR g ρ H x v) (e : isIns c m L x = true) : ∃ a dx fs, v = .ref a ∧ H a = some (.ins (g.cm c) dx fs) ∧ fs.lookup m = none := by
  unfold isIns at e
  cases r with
  | ref ea =>
    simp only at e
    split at e
    · rename_i c' fs h1
      simp only [Bool.and_eq_true, decide_eq_true_eq] at e
      obtain ⟨rfl, e2⟩ := e
      obtain ⟨dx, vs, e3, fr⟩ := hh.ins h1 ea
      refine ⟨_, dx, vs, rfl, e3, ?_⟩
      rcases fr.look m with ⟨d, z, l1, l2, _⟩ | ⟨_, l2⟩
      · rw [l1] at e2; cases e2
      · exact l2
    · cases e
  | _ => cases e
def mMeth (c : Nat) (m : Str) (F : FS) (o : ME) (args : MA) : ME := fun ε L => (o ε L).bind fun x L1 => if isIns c m L1 x = true then (args ε L1).bind fun ds L2 => F (x :: ds) L2 else .bad
theorem se_meth {cm : Nat → Addr} {fx : Hp} {c : Nat} {m : Str} {k n : Nat} {F : FS} {o e : Expr} {es : List Expr} {mo : ME} {args : MA} {pos apos : Pos} {pl : Sem Bool} (h : MtI X.prog X.w X.K X.mg X.base cm c m k (n + 1) F) (hr : Room k X.A) (tk : Takes X W) (ho : PE X o (tM ⟨X.K, cm, fx⟩ W mo)) (ha : PA X (e :: es) (tMA ⟨X.K, cm, fx⟩ W args)) (hl : Len args n)
    (hst : starEach (e :: es) X.env = (false, eval e X.env) :: starEach es X.env := by rfl) (hpl : (backTo pos (starEach es X.env)).any (·.1) = false := by rfl)
    (ht : eval (.Call (.Attribute o m apos) (e :: es) [] pos) X.env = (do
      let ov ← eval o X.env
      standAt apos.atName
      let (f, first) ← holding [ov] (getMethod ov m pl)
      callWith pos f first (backTo pos (starEach (e :: es) X.env)) (backToKw pos (keywordEach [] X.env))) := by rfl) :
    PE X (.Call (.Attribute o m apos) (e :: es) [] pos) (tM ⟨X.K, cm, fx⟩ W (mMeth c m F mo args)) := by
  obtain ⟨f, fd, ps, hm, hc, hb, hps, G⟩ := h.ex
  refine (pe_methSD (E := EW W) ho hc hm G hr hb .nil (fun σ => pass_at tk σ) ha hst hpl ht).imp fun σ H Q q => ?_
  obtain ⟨ε, ρ, L, he, hh, q⟩ := q
  refine ⟨ε, ρ, L, he, hh, Lf.bind q fun x L1 v ρ1 H1 e1 p1 t1 h1 r1 q1 => ?_⟩
  cases hi : isIns c m L1 x with
  | false => rw [hi, if_neg (by decide)] at q1; exact q1.elim
  | true =>
    rw [hi, if_pos rfl] at q1
    obtain ⟨a, dx, fs, e2, e3, e4⟩ := isIns_ok h1 r1 hi
    refine ⟨a, dx, fs, e2, e3, e4, ε, ρ1, L1, he.mono p1 t1, h1, Lf.bind q1 fun ds L2 vs ρ2 H2 e5 p2 t2 h2 r2 q2 => ?_⟩
    rw [List.append_nil]
    exact ⟨by rw [hps, List.length_cons, ← r2.length, hl.h _ _ _ _ e5], fx, ρ2, L2, x :: ds, h2, .cons (r1.mono p2 t2) r2, LfF.of q2⟩
theorem se_meth0 {cm : Nat → Addr} {fx : Hp} {c : Nat} {m : Str} {k : Nat} {F : FS} {o : Expr} {mo : ME} {pos apos : Pos} {pl : Sem Bool} (h : MtI X.prog X.w X.K X.mg X.base cm c m k 1 F) (hr : Room k X.A) (tk : Takes X W) (ho : PE X o (tM ⟨X.K, cm, fx⟩ W mo))
    (ht : eval (.Call (.Attribute o m apos) [] [] pos) X.env = (do
      let ov ← eval o X.env
      standAt apos.atName
      let (f, first) ← holding [ov] (getMethod ov m pl)
      callWith pos f first (backTo pos (starEach [] X.env)) (backToKw pos (keywordEach [] X.env))) := by rfl) :
    PE X (.Call (.Attribute o m apos) [] [] pos) (tM ⟨X.K, cm, fx⟩ W (mMeth c m F mo mNil)) := by
  obtain ⟨f, fd, ps, hm, hc, hb, hps, G⟩ := h.ex
  refine (pe_meth0SD (E := EW W) ho hc hm G hr hb .nil (fun σ => pass_at tk σ) ht).imp fun σ H Q q => ?_
  obtain ⟨ε, ρ, L, he, hh, q⟩ := q
  refine ⟨ε, ρ, L, he, hh, Lf.bind q fun x L1 v ρ1 H1 e1 p1 t1 h1 r1 q1 => ?_⟩
  cases hi : isIns c m L1 x with
  | false => rw [hi, if_neg (by decide)] at q1; exact q1.elim
  | true =>
    rw [hi, if_pos rfl] at q1
    obtain ⟨a, dx, fs, e2, e3, e4⟩ := isIns_ok h1 r1 hi
    exact ⟨a, dx, fs, e2, e3, e4, by rw [hps]; rfl, fx, ρ1, L1, [x], h1, .cons r1 .nil, LfF.of q1⟩
/-- a property: nothing is raised there -/
def mProp (c : Nat) (F : FS) (o : ME) : ME := fun ε L => (o ε L).bind fun x L1 => if isIns c Str.empty L1 x = true then (F [x] L1).nox else .bad
theorem se_prop {cm : Nat → Addr} {fx : Hp} {c : Nat} {f : Str} {k : Nat} {F : FS} {e : Expr} {mo : ME} {pos : Pos} (h : PrI X.prog X.w X.K X.mg X.base cm c f k F) (hr : Room (k + 1) X.A) (ho : PE X e (tM ⟨X.K, cm, fx⟩ W mo)) (hab : attributeBase e f X.env (eval e X.env) = eval e X.env := by rfl) :
    PE X (.Attribute e f pos) (tM ⟨X.K, cm, fx⟩ W (mProp c F mo)) := by
  obtain ⟨p, fa, fd, ps, hp, hc, hb, hps, G⟩ := h.ex
  refine (pe_prop (E := E0) ho hc hp G hr hb .nil passL hab).imp fun σ H Q q => ?_
  obtain ⟨ε, ρ, L, he, hh, q⟩ := q
  refine ⟨ε, ρ, L, he, hh, Lf.bind q fun x L1 v ρ1 H1 e1 p1 t1 h1 r1 q1 => ?_⟩
  cases hi : isIns c Str.empty L1 x with
  | false => rw [hi, if_neg (by decide)] at q1; exact q1.elim
  | true =>
    rw [hi, if_pos rfl] at q1
    obtain ⟨a, dx, fs, e2, e3, e4⟩ := isIns_ok h1 r1 hi
    refine ⟨a, dx, fs, e2, e3, by rw [hps]; rfl, fx, ρ1, L1, [x], h1, .cons (by rw [← e2]; exact r1) .nil, ?_⟩
    cases hF : F [x] L1 with
    | ok d L2 => rw [hF] at q1; exact q1
    | ex c fs L2 => rw [hF] at q1; exact q1.elim
    | bad => rw [hF] at q1; exact q1.elim
/-! ### a new instance -/
def tMakeSD (C : Addr) (sp : Sp) (dvs : List V) (E : L2.St → XK) (t : TA) : TE := fun σ H Q => t σ H fun vs H1 => ∀ x dx, H1 x = none → H1 dx = none → dx ≠ x →
  sp (.ref x :: (vs ++ dvs)) (upd (upd H1 dx (.own x)) x (.ins C dx [])) (fun v H2 => v = .non ∧ Q (.ref x) H2) (E σ)
section
variable {CX : CXT} {k : Nat} {f C : Addr} {fd : FuncData} {ps : List Str} {sp : Sp} {dvs : List V} {ds : List Value} {x m : Str} {p pos apos : Pos} {e o : Expr} {es : List Expr} {ta : TE} {t : TA}
theorem run_makeSD {E : XK} {pins : List (Addr × Obj)} {σ : L2.St} {H : Hp} {s : Shared} {Q : VK} {us : List Value} {vs : List V} (M : Mk X.K C f) (F : FnOk X.prog X.w X.K X.mg X.base CX k f fd ps sp) (hr : Room (k + 1) X.A) (hb : Binds X.K fd ps ds) (hd : Vals dvs ds)
    (hx : PassesAt CX X σ E) (I : Inv X pins σ H s) (r : Vals vs us)
    (h : ∀ x dx, H x = none → H dx = none → dx ≠ x → sp (.ref x :: (vs ++ dvs)) (upd (upd H dx (.own x)) x (.ins C dx [])) (fun v H2 => v = .non ∧ Q (.ref x) H2) E) :
    wpAny (model X.prog X.w) X.A (call (.ref C) us) (EP X pins σ Q) X.xe s := by
  have hq := h (s.heap.objs.size + 1) s.heap.objs.size (I.hok.fresh (Nat.le_succ _)) (I.hok.fresh (Nat.le_refl _)) (Nat.ne_of_lt (Nat.lt_succ_self _))
  have I2 := Inv.made (C := C) I
  have r2 : Vals (V.ref (s.heap.objs.size + 1) :: (vs ++ dvs)) (Value.ref (s.heap.objs.size + 1) :: (us ++ ds)) := .cons rfl (r.append hd)
  have hl : (Value.ref (s.heap.objs.size + 1) :: us ++ ds).length = ps.length := by
    have e := r2.length
    rw [F.len _ _ _ _ hq] at e
    exact e.symm
  refine wpAny_call (make_map (f := f) I.kIn M.makes M.init (beq_iff_eq.mp M.fn) (codeAny_mono (F.run _ X.stack _ _ ⟨Value.ref (s.heap.objs.size + 1) :: us, []⟩ (Value.ref (s.heap.objs.size + 1) :: (us ++ ds)) _ _ E (hr.make C us [])
    (I2.env0.make C us []) (hb _ (Value.ref (s.heap.objs.size + 1) :: us) I2.kIn hl) r2 hq) fun r s' hq' => ?_))
  cases r with
  | error e => exact hx pins _ _ e s' I2 hq'
  | ok fl =>
    cases fl with
    | ret u =>
      obtain ⟨v, H', I3, rv, ev, q3⟩ := I2.after hq'
      subst ev
      exact ⟨rv, ⟨V.ref (s.heap.objs.size + 1), H', I3, rfl, q3⟩⟩
    | next => exact False.elim hq'
    | brk => exact False.elim hq'
    | cont => exact False.elim hq'
theorem pe_makeSD {E : L2.St → XK} (M : Mk X.K C f) (F : FnOk X.prog X.w X.K X.mg X.base CX k f fd ps sp) (hr : Room (k + 1) X.A) (hg : Gl X x) (hm : X.mg x = some (.ref C)) (hb : Binds X.K fd ps ds) (hd : Vals dvs ds) (hx : ∀ σ, PassesAt CX X σ (E σ))
    (ha : PA X (e :: es) t) (hdb : (x == ("__debug__" : Str)) = false := by decide) (he : starEach (e :: es) X.env = (false, eval e X.env) :: starEach es X.env := by rfl) (hpl : (backTo pos (starEach es X.env)).any (·.1) = false := by rfl) :
    PE X (.Call (.Name x p) (e :: es) [] pos) (tMakeSD C sp dvs E t) := by
  refine ⟨fun pins s σ H Q I h => ?_⟩
  refine wpAny_Call_Name_kw (ld_glob I hg hm ?_ hdb)
  refine PySem.W.callWith_K (h₀ := X.base) I.ok.mod.kin M.kp (thn (ha.run pos pins s σ H _ I h) fun us s1 ⟨vs, H1, I1, r, q⟩ => ⟨I1.kIn, ?_⟩) he hpl
  exact run_makeSD M F hr hb hd (hx σ) I1 r q
end
def mMade (c : Nat) (F : FS) (ds : List D) (L : List O) : Rs D := (F (.ref L.length :: ds) (L ++ [.ins c []])).bind fun d L' => match d with
  | .non => .ok (.ref L.length) L'
  | _ => .bad
def mMake (c : Nat) (F : FS) (args : MA) : ME := fun ε L => (args ε L).bind fun ds L1 => mMade c F ds L1
theorem made_sp {n c : Nat} {F : FS} {ds : List D} {vs : List V} {σ : L2.St} {Q : VK} (hh : HR g ρ L H) (r : VRs g ρ H ds vs) (hn : vs.length + 1 = n) (q : LfD g ρ H σ W (mMade c F ds L) Q) {x dx : Addr} (nx : H x = none) (nd : H dx = none) (ne : dx ≠ x) :
    spF g.K g.cm n F (.ref x :: vs) (upd (upd H dx (.own x)) x (.ins (g.cm c) dx [])) (fun v H2 => v = .non ∧ Q (.ref x) H2) (EW W σ) := by
  have nx' : upd H dx (.own x) x = none := by rw [upd_ne (Ne.symm ne)]; exact nx
  have t1 : TP H (upd H dx (.own x)) := TP.new nd
  have t2 := t1.trans (TP.new (o := .ins (g.cm c) dx []) nx')
  have h2 := (hh.fresh nd (.own x)).new nx' (u := .ins (g.cm c) dx []) (o := .ins c []) ⟨dx, [], upd_same, .nil⟩
  have ex : (ρ ++ [x])[L.length]? = some x := by rw [← hh.len]; simp
  refine ⟨by simpa using hn, g.fx, ρ ++ [x], L ++ [.ins c []], .ref L.length :: ds, h2, .cons (.ref ex) (r.mono (pre_snoc _ _) t2), ?_⟩
  unfold mMade at q
  cases hF : F (.ref L.length :: ds) (L ++ [.ins c []]) with
  | ok d L' =>
    rw [hF] at q
    intro v ρ' H' p t h rv
    cases rv with
    | non => exact ⟨rfl, q _ ρ' H' ((pre_snoc _ _).trans p) (t2.trans t) h (.ref (pre_get p ex))⟩
    | _ => exact q.elim
  | ex c' fs L' =>
    rw [hF] at q
    exact fun ρ' H' dx p t h x => q ρ' H' dx ((pre_snoc _ _).trans p) (t2.trans t) h x
  | bad => rw [hF] at q; exact q.elim
theorem se_make {cm : Nat → Addr} {fx : Hp} {x : Str} {c k n : Nat} {F : FS} {e : Expr} {es : List Expr} {args : MA} {p pos : Pos} (h : CI X.prog X.w X.K X.mg X.base cm x c k (n + 1) F) (hr : Room (k + 1) X.A) (tk : Takes X W) (ha : PA X (e :: es) (tMA ⟨X.K, cm, fx⟩ W args)) (hl : Len args n)
    (hg : Gl X x := by rfl) (hdb : (x == ("__debug__" : Str)) = false := by decide) (he : starEach (e :: es) X.env = (false, eval e X.env) :: starEach es X.env := by rfl) (hpl : (backTo pos (starEach es X.env)).any (·.1) = false := by rfl) :
    PE X (.Call (.Name x p) (e :: es) [] pos) (tM ⟨X.K, cm, fx⟩ W (mMake c F args)) := by
  obtain ⟨f, fd, ps, hm, M, hb, hps, G⟩ := h.ex
  refine (pe_makeSD (E := EW W) M G hr hg hm hb .nil (fun σ => pass_at tk σ) ha hdb he hpl).imp fun σ H Q q => ?_
  obtain ⟨ε, ρ, L, he, hh, q⟩ := q
  refine ⟨ε, ρ, L, he, hh, Lf.bind q fun ds L1 vs ρ1 H1 e1 p1 t1 h1 r1 q1 => fun x dx nx nd ne => ?_⟩
  rw [List.append_nil]
  exact made_sp h1 r1 (by rw [hps, ← r1.length, hl.h _ _ _ _ e1]) q1 nx nd ne
end Tw
end

section
set_option Elab.async false
set_option linter.all false
set_option maxRecDepth 100000
set_option maxHeartbeats 1000000
/-! Tw, part H: built-in functions, methods of lists. -/
namespace Tw
open PySem PySem.Spec L2
variable {g : Gx} {ρ ρ' : List Addr} {H H' : Hp} {X : Cx} {W : WX} {L : List O} {cm : Nat → Addr} {fx : Hp}

abbrev OC := List D → List O → OD
def rC (g : Gx) (oc : OC) : List V → Hp → VK → Prop := fun vs H Q => ∃ ρ L ds, HR g ρ L H ∧ VRs g ρ H ds vs ∧ LfO g ρ H (oc ds L) Q
def mFn (oc : OC) (args : MA) : ME := fun ε L => (args ε L).bind fun ds L1 => ofO (oc ds L1)
theorem tMA_fn {oc : OC} {args : MA} {σ : L2.St} {Q : VK} (q : tM g W (mFn oc args) σ H Q) : tMA g W args σ H fun vs H1 => rC g oc vs H1 Q := by
  obtain ⟨ε, ρ, L, he, hh, q⟩ := q
  exact ⟨ε, ρ, L, he, hh, Lf.bind q fun ds L1 vs ρ1 H1 e1 p1 t1 h1 r1 q1 => ⟨ρ1, L1, ds, h1, r1, LfO.of q1⟩⟩
theorem se_fnB {oc : OC} {x : Str} {id : String} {e : Expr} {es : List Expr} {args : MA} {p pos : Pos} (hc : CallR X (.builtin id) (rC g oc)) (hm : X.mg x = none) (ha : PA X (e :: es) (tMA g W args)) (hv : bootBuiltins x = some (.builtin id) := by decide +kernel) (hg : Gl X x := by rfl) (hn : x ≠ "__name__" := by decide) (hdb : (x == ("__debug__" : Str)) = false := by decide)
    (he : starEach (e :: es) X.env = (false, eval e X.env) :: starEach es X.env := by rfl) (hpl : (backTo pos (starEach es X.env)).any (·.1) = false := by rfl) : PE X (.Call (.Name x p) (e :: es) [] pos) (tM g W (mFn oc args)) :=
  (pe_callB hc hg hm hv ha hn hdb he hpl).imp fun σ H Q q => tMA_fn q
theorem se_fnT {oc : OC} {x : Str} {T : String} {e : Expr} {es : List Expr} {args : MA} {p pos : Pos} (hc : CallR X (.type T) (rC g oc)) (hm : X.mg x = none) (ha : PA X (e :: es) (tMA g W args)) (hv : bootBuiltins x = some (.type T) := by decide +kernel) (hg : Gl X x := by rfl) (hn : x ≠ "__name__" := by decide) (hdb : (x == ("__debug__" : Str)) = false := by decide)
    (he : starEach (e :: es) X.env = (false, eval e X.env) :: starEach es X.env := by rfl) (hpl : (backTo pos (starEach es X.env)).any (·.1) = false := by rfl) : PE X (.Call (.Name x p) (e :: es) [] pos) (tM g W (mFn oc args)) :=
  (pe_callTy hc hg hm hv ha hn hdb he hpl).imp fun σ H Q q => tMA_fn q
theorem rC_one {oc : OC} {us : List V} {Q : VK} (q : rC g oc us H Q) : ∃ ρ L ds, HR g ρ L H ∧ VRs g ρ H ds us ∧ LfO g ρ H (oc ds L) Q := q
/-! len, abs, int, max, min -/
def cLen : OC := fun ds L => match ds with
  | [x] => match x with
    | .str y => if y.length ≤ most then some (.int y.length, L) else none
    | .ref n => match L[n]? with
      | some (.dic false ks) => some (.int ks.length, L)
      | some (.lst ds) => some (.int ds.length, L)
      | _ => none
    | .tup ds => some (.int ds.length, L)
    | .rol ds => some (.int ds.length, L)
    | _ => none
  | _ => none
theorem c_len : CallR X (.builtin "len") (rC ⟨X.K, cm, fx⟩ cLen) := by
  have h := (call_len (X := X)).or call_lenD
  intro pins s σ H xs us Q I r q
  refine h pins s σ H xs us Q I r ?_
  obtain ⟨ρ, L, ds, hh, rr, q⟩ := q
  unfold cLen at q
  split at q
  · obtain ⟨v, rfl, rv⟩ := rr.one
    split at q
    · cases rv
      split at q
      · rename_i hz
        exact .inl ⟨_, _, rfl, ⟨most_le hz, rfl⟩, q.same hh (.int _)⟩
      · exact q.elim
    · cases rv with
      | ref ea =>
        split at q
        · rename_i ks h1
          obtain ⟨vs, b1, b2⟩ := hh.ob _ _ _ h1 ea
          exact .inr ⟨_, _, rfl, b1, by rw [← b2.length]; exact q.same hh (.int _)⟩
        · rename_i ds h1
          obtain ⟨vs, b1, b2⟩ := hh.lst h1 ea
          exact .inl ⟨_, _, rfl, .inl ⟨_, SqL.of b1, rfl⟩, by rw [← b2.length]; exact q.same hh (.int _)⟩
        · exact q.elim
    · cases rv with
      | tup s1 t1 => exact .inl ⟨_, _, rfl, .inr ⟨_, s1.sq, rfl⟩, by rw [← t1.length]; exact q.same hh (.int _)⟩
    · cases rv with
      | rol s1 t1 => exact .inl ⟨_, _, rfl, .inl ⟨_, s1.seq, rfl⟩, by rw [← t1.length]; exact q.same hh (.int _)⟩
    · exact q.elim
  · exact q.elim
def cAbs : OC := fun ds L => match ds with
  | [.int i] => some (.int (if i < 0 then -i else i), L)
  | _ => none
theorem c_abs : CallR X (.builtin "abs") (rC g cAbs) := fun pins s σ H xs us Q I r q => call_abs pins s σ H xs us Q I r (by
  obtain ⟨ρ, L, ds, hh, rr, q⟩ := q
  unfold cAbs at q
  split at q
  · obtain ⟨v, rfl, rv⟩ := rr.one
    cases rv
    exact ⟨_, rfl, q.same hh (.int _)⟩
  · exact q.elim)
def cInt : OC := fun ds L => match ds with
  | [.int i] => some (.int i, L)
  | [.bl b] => some (.int (if b then 1 else 0), L)
  | _ => none
theorem c_int : CallR X (.type "int") (rC g cInt) := fun pins s σ H xs us Q I r q => call_int1 pins s σ H xs us Q I r (by
  obtain ⟨ρ, L, ds, hh, rr, q⟩ := q
  unfold cInt at q
  split at q
  · obtain ⟨v, rfl, rv⟩ := rr.one
    cases rv
    exact .inl ⟨_, rfl, q.same hh (.int _)⟩
  · obtain ⟨v, rfl, rv⟩ := rr.one
    cases rv
    exact .inr ⟨_, rfl, q.same hh (.int _)⟩
  · exact q.elim)
/-- ints of a list of data -/
def intsD : List D → Option (List Int)
  | [] => some []
  | .int i :: ds => (intsD ds).map (i :: ·)
  | _ => none
theorem intsD_ok : ∀ {ds : List D} {vs : List V} {ns : List Int}, VRs g ρ H ds vs → intsD ds = some ns → vs = ns.map V.int ∧ ds = ns.map D.int
  | [], _, _, r, e => by cases r; cases e; exact ⟨rfl, rfl⟩
  | d :: ds, _, ns, r, e => by
    cases r with
    | cons r t =>
      unfold intsD at e
      cases r with
      | int i =>
        simp only at e
        cases h : intsD ds with
        | none => rw [h] at e; cases e
        | some ms =>
          rw [h] at e
          cases e
          obtain ⟨e1, e2⟩ := intsD_ok t h
          exact ⟨by rw [e1]; rfl, by rw [e2]; rfl⟩
      | _ => cases e
def maxI : List Int → Int
  | [] => 0
  | a :: l => l.foldl (fun m x => if x > m then x else m) a
def minI : List Int → Int
  | [] => 0
  | a :: l => l.foldl (fun m x => if x < m then x else m) a
theorem foldmax (l : List Int) : ∀ a, (∀ y ∈ a :: l, y ≤ l.foldl (fun m x => if x > m then x else m) a) ∧ l.foldl (fun m x => if x > m then x else m) a ∈ a :: l := by
  induction l with
  | nil => intro a; simp
  | cons b l ih =>
    intro a
    simp only [List.foldl_cons]
    obtain ⟨h1, h2⟩ := ih (if b > a then b else a)
    have hb := h1 _ List.mem_cons_self
    generalize List.foldl (fun m x => if x > m then x else m) (if b > a then b else a) l = F at h1 h2 hb ⊢
    refine ⟨fun y hy => ?_, ?_⟩
    · rcases List.mem_cons.mp hy with rfl | hy
      · split at hb <;> omega
      · rcases List.mem_cons.mp hy with rfl | hy
        · split at hb <;> omega
        · exact h1 y (List.mem_cons_of_mem _ hy)
    · rcases List.mem_cons.mp h2 with e | h2
      · rw [e]
        split <;> simp
      · exact List.mem_cons_of_mem _ (List.mem_cons_of_mem _ h2)
theorem foldmin (l : List Int) : ∀ a, (∀ y ∈ a :: l, l.foldl (fun m x => if x < m then x else m) a ≤ y) ∧ l.foldl (fun m x => if x < m then x else m) a ∈ a :: l := by
  induction l with
  | nil => intro a; simp
  | cons b l ih =>
    intro a
    simp only [List.foldl_cons]
    obtain ⟨h1, h2⟩ := ih (if b < a then b else a)
    have hb := h1 _ List.mem_cons_self
    generalize List.foldl (fun m x => if x < m then x else m) (if b < a then b else a) l = F at h1 h2 hb ⊢
    refine ⟨fun y hy => ?_, ?_⟩
    · rcases List.mem_cons.mp hy with rfl | hy
      · split at hb <;> omega
      · rcases List.mem_cons.mp hy with rfl | hy
        · split at hb <;> omega
        · exact h1 y (List.mem_cons_of_mem _ hy)
    · rcases List.mem_cons.mp h2 with e | h2
      · rw [e]
        split <;> simp
      · exact List.mem_cons_of_mem _ (List.mem_cons_of_mem _ h2)
def cMax : OC := fun ds L => match ds with
  | [.int i, .int j] => some (.int (if j > i then j else i), L)
  | [x] => match seqD L x with
    | some ds => match x with
      | .tup _ => none
      | _ => match intsD ds with
        | some (a :: l) => some (.int (maxI (a :: l)), L)
        | _ => none
    | none => none
  | _ => none
def cMin : OC := fun ds L => match ds with
  | [.int i, .int j] => some (.int (if j < i then j else i), L)
  | [x] => match seqD L x with
    | some ds => match x with
      | .tup _ => none
      | _ => match intsD ds with
        | some (a :: l) => some (.int (minI (a :: l)), L)
        | _ => none
    | none => none
  | _ => none
theorem seqL_ok {x : D} {v : V} {ds : List D} (hh : HR g ρ L H) (r : VR g ρ H x v) (e : seqD L x = some ds) (hx : ∀ l, x ≠ .tup l) : ∃ a vs, v = .ref a ∧ VRs g ρ H ds vs ∧ SqL g.K H a vs := by
  unfold seqD at e
  split at e
  · exact (hx _ rfl).elim
  · cases e
    cases r with
    | rol s t => exact ⟨_, _, rfl, t, s.seq⟩
  · cases r with
    | ref ea =>
      split at e
      · rename_i h1
        cases e
        obtain ⟨vs, b1, b2⟩ := hh.lst h1 ea
        exact ⟨_, vs, rfl, b2, SqL.of b1⟩
      · cases e
  · cases e
theorem c_max (hc : X.calm = true) : CallR X (.builtin "max") (rC ⟨X.K, cm, fx⟩ cMax) := by
  have h := (call_max2 (X := X) hc).or (cr_max hc)
  intro pins s σ H xs us Q I r q
  refine h pins s σ H xs us Q I r ?_
  obtain ⟨ρ, L, ds, hh, rr, q⟩ := q
  unfold cMax at q
  split at q
  · obtain ⟨v, u, rfl, r1, r2⟩ := rr.two
    cases r1; cases r2
    exact .inl ⟨_, _, rfl, q.same hh (.int _)⟩
  · obtain ⟨v, rfl, rv⟩ := rr.one
    split at q
    · rename_i ds hs
      split at q
      · exact q.elim
      · rename_i hx
        split at q
        · rename_i a l hi
          obtain ⟨b, vs, rfl, t, sq⟩ := seqL_ok hh rv hs (fun l e => hx l e)
          obtain ⟨e1, _⟩ := intsD_ok t hi
          subst e1
          refine .inr ⟨b, a :: l, rfl, sq, by simp, fun m hm hmax => ?_⟩
          obtain ⟨f1, f2⟩ := foldmax l a
          have : m = maxI (a :: l) := by
            have h1 := hmax _ f2
            have h2 := f1 m hm
            show m = l.foldl _ a
            omega
          rw [this]
          exact q.same hh (.int _)
        · exact q.elim
    · exact q.elim
  · exact q.elim
theorem c_min (hc : X.calm = true) : CallR X (.builtin "min") (rC ⟨X.K, cm, fx⟩ cMin) := by
  have h := (call_min2 (X := X) hc).or (cr_min hc)
  intro pins s σ H xs us Q I r q
  refine h pins s σ H xs us Q I r ?_
  obtain ⟨ρ, L, ds, hh, rr, q⟩ := q
  unfold cMin at q
  split at q
  · obtain ⟨v, u, rfl, r1, r2⟩ := rr.two
    cases r1; cases r2
    exact .inl ⟨_, _, rfl, q.same hh (.int _)⟩
  · obtain ⟨v, rfl, rv⟩ := rr.one
    split at q
    · rename_i ds hs
      split at q
      · exact q.elim
      · rename_i hx
        split at q
        · rename_i a l hi
          obtain ⟨b, vs, rfl, t, sq⟩ := seqL_ok hh rv hs (fun l e => hx l e)
          obtain ⟨e1, _⟩ := intsD_ok t hi
          subst e1
          refine .inr ⟨b, a :: l, rfl, sq, by simp, fun m hm hmin => ?_⟩
          obtain ⟨f1, f2⟩ := foldmin l a
          have : m = minI (a :: l) := by
            have h1 := hmin _ f2
            have h2 := f1 m hm
            show m = l.foldl _ a
            omega
          rw [this]
          exact q.same hh (.int _)
        · exact q.elim
    · exact q.elim
  · exact q.elim
/-! all, any of a list of truths -/
def blsD : List D → Option (List Bool)
  | [] => some []
  | .bl i :: ds => (blsD ds).map (i :: ·)
  | _ => none
theorem blsD_ok : ∀ {ds : List D} {vs : List V} {ns : List Bool}, VRs g ρ H ds vs → blsD ds = some ns → vs = ns.map V.bl
  | [], _, _, r, e => by cases r; cases e; rfl
  | d :: ds, _, ns, r, e => by
    cases r with
    | cons r t =>
      unfold blsD at e
      cases r with
      | bl i =>
        simp only at e
        cases h : blsD ds with
        | none => rw [h] at e; cases e
        | some ms =>
          rw [h] at e
          cases e
          rw [blsD_ok t h]
          rfl
      | _ => cases e
def cAll : OC := fun ds L => match ds with
  | [.ref n] => match L[n]? with
    | some (.lst ds) => (blsD ds).map fun bs => (.bl (bs.all id), L)
    | _ => none
  | _ => none
def cAny : OC := fun ds L => match ds with
  | [.ref n] => match L[n]? with
    | some (.lst ds) => (blsD ds).map fun bs => (.bl (bs.any id), L)
    | _ => none
  | _ => none
theorem c_all (hc : X.calm = true) : CallR X (.builtin "all") (rC ⟨X.K, cm, fx⟩ cAll) := fun pins s σ H xs us Q I r q => cr_all hc pins s σ H xs us Q I r (by
  obtain ⟨ρ, L, ds, hh, rr, q⟩ := q
  unfold cAll at q
  split at q
  · obtain ⟨v, rfl, rv⟩ := rr.one
    cases rv with
    | ref ea =>
      split at q
      · rename_i ds h1
        obtain ⟨vs, b1, b2⟩ := hh.lst h1 ea
        cases hb : blsD ds with
        | none => rw [hb] at q; exact q.elim
        | some bs =>
          rw [hb] at q
          refine ⟨_, bs, rfl, ?_, LfO.same q hh (.bl _)⟩
          rw [← blsD_ok b2 hb]
          exact SqL.of b1
      · exact q.elim
  · exact q.elim)
theorem c_any (hc : X.calm = true) : CallR X (.builtin "any") (rC ⟨X.K, cm, fx⟩ cAny) := fun pins s σ H xs us Q I r q => cr_any hc pins s σ H xs us Q I r (by
  obtain ⟨ρ, L, ds, hh, rr, q⟩ := q
  unfold cAny at q
  split at q
  · obtain ⟨v, rfl, rv⟩ := rr.one
    cases rv with
    | ref ea =>
      split at q
      · rename_i ds h1
        obtain ⟨vs, b1, b2⟩ := hh.lst h1 ea
        cases hb : blsD ds with
        | none => rw [hb] at q; exact q.elim
        | some bs =>
          rw [hb] at q
          refine ⟨_, bs, rfl, ?_, LfO.same q hh (.bl _)⟩
          rw [← blsD_ok b2 hb]
          exact SqL.of b1
      · exact q.elim
  · exact q.elim)
/-! list(xs), tuple(xs) -/
def cList : OC := fun ds L => match ds with
  | [x] => (seqD L x).map fun ds => (.ref L.length, L ++ [.lst ds])
  | _ => none
def cTuple : OC := fun ds L => match ds with
  | [x] => (seqD L x).map fun ds => (.tup ds, L)
  | _ => none
theorem c_list : CallR X (.type "list") (rC ⟨X.K, cm, fx⟩ cList) := fun pins s σ H xs us Q I r q => call_list_of pins s σ H xs us Q I r (by
  obtain ⟨ρ, L, ds, hh, rr, q⟩ := q
  unfold cList at q
  split at q
  · obtain ⟨v, rfl, rv⟩ := rr.one
    cases hs : seqD L _ with
    | none => rw [hs] at q; exact q.elim
    | some ds =>
      rw [hs] at q
      obtain ⟨a, vs, rfl, t, sq⟩ := seqD_ok hh rv hs
      exact ⟨a, vs, rfl, (sq.imp_left TuT.sq).symm, fun p hp => LfO.newL q hh t hp⟩
  · exact q.elim)
theorem c_tuple : CallR X (.type "tuple") (rC ⟨X.K, cm, fx⟩ cTuple) := fun pins s σ H xs us Q I r q => call_tuple_of pins s σ H xs us Q I r (by
  obtain ⟨ρ, L, ds, hh, rr, q⟩ := q
  unfold cTuple at q
  split at q
  · obtain ⟨v, rfl, rv⟩ := rr.one
    cases hs : seqD L _ with
    | none => rw [hs] at q; exact q.elim
    | some ds =>
      rw [hs] at q
      obtain ⟨a, vs, rfl, t, sq⟩ := seqD_ok hh rv hs
      rcases sq with sq | sq
      · exact ⟨a, vs, rfl, .inr ⟨sq.sq, LfO.same q hh (.tup sq t)⟩⟩
      · exact ⟨a, vs, rfl, .inl ⟨sq, fun p hp => LfO.newT q hh t hp⟩⟩
  · exact q.elim)
/-- list(range(n)), list(range(a, b)) -/
def mListRg1 (a : ME) : ME := fun ε L => (a ε L).bind fun x L1 => match x with
  | .int n => if -1000000 ≤ n ∧ n ≤ most then .ok (.ref L1.length) (L1 ++ [.lst (rngD 0 n.toNat)]) else .bad
  | _ => .bad
def mListRg2 (a b : ME) : ME := fun ε L => (a ε L).bind fun x L1 => (b ε L1).bind fun y L2 => match x, y with
  | .int lo, .int n => if 0 ≤ lo ∧ lo ≤ most ∧ 0 ≤ n ∧ n ≤ most then .ok (.ref L2.length) (L2 ++ [.lst (rngD lo (n - lo).toNat)]) else .bad
  | _, _ => .bad
theorem rng_vals (a b : Int) : VRs g ρ H (rngD a (b - a).toNat) (rgV a b) := by
  unfold rngD rgV
  generalize List.range (b - a).toNat = l
  induction l with
  | nil => exact .nil
  | cons k l ih => exact .cons (.int _) ih
theorem most_val : (most : Int) = 1000000 := rfl
theorem se_listRg1 {e : Expr} {a : ME} {p p2 pos pos2 : Pos} (hc : X.calm = true) (hm : X.mg "list" = none) (hmr : X.mg "range" = none) (ha : PE X e (tM g W a)) (hg : Gl X "list" := by rfl) (hgr : Gl X "range" := by rfl) (na : starEach [e] X.env = (false, eval e X.env) :: starEach [] X.env := by rfl)
    (na2 : starEach [.Call (.Name "range" p) [e] [] pos] X.env = (false, eval (.Call (.Name "range" p) [e] [] pos) X.env) :: starEach [] X.env := by rfl) : PE X (.Call (.Name "list" p2) [.Call (.Name "range" p) [e] [] pos] [] pos2) (tM g W (mListRg1 a)) :=
  (pe_listRg hc hg hm (prg_1 hgr hmr ha na) na2).imp fun σ H Q q => by
    obtain ⟨ε, ρ, L, he, hh, q⟩ := q
    refine ⟨ε, ρ, L, he, hh, Lf.bind q fun x L1 v ρ1 H1 e1 p1 t1 h1 r1 q1 => ?_⟩
    cases r1 with
    | int n =>
      simp only at q1
      split at q1
      · rename_i hz
        rw [most_val] at hz
        refine ⟨n, rfl, ⟨by omega, by omega, by omega, by omega, by omega⟩, fun p hp => LfO.newL q1 h1 ?_ hp⟩
        have := rng_vals (g := g) (ρ := ρ1) (H := H1) 0 n
        rwa [Int.sub_zero] at this
      · exact q1.elim
    | _ => exact q1.elim
/-! ### isinstance -/
inductive Tag | non | bl | int | str | tup | lst | dic | ins (c : Nat)
  deriving DecidableEq
def tagD (L : List O) : D → Option Tag
  | .non => some .non
  | .bl _ => some .bl
  | .int _ => some .int
  | .str _ => some .str
  | .tup _ => some .tup
  | .rol _ => some .lst
  | .ref n => match L[n]? with
    | some (.lst _) => some .lst
    | some (.dic false _) => some .dic
    | some (.ins c _) => some (.ins c)
    | _ => none
  | .cls _ => none
  | .ty _ => none
def tagV (cm : Nat → Addr) : Tag → Value
  | .non => .type "NoneType" | .bl => .type "bool" | .int => .type "int" | .str => .type "str" | .tup => .type "tuple" | .lst => .type "list" | .dic => .type "dict" | .ins c => .ref (cm c)
/-- what is asked of an own class whose instances are looked at -/
structure InsTy (K : PySem.W.Frag) (C : Addr) : Prop where
  cl : Cls K C
  ha : PySem.W.findIn K (.ref C) "__class__" = some (some (.builtin "object.__class__"))
  hn : PySem.W.specialIn K (.builtin "object.__class__") "__get__" = some (some (.builtin "getset_descriptor.__get__"))
  htk : PySem.W.takesIn K (.builtin "object.__class__") = some true
  hm : PySem.W.mroIn K C (.type "object") = some true
theorem tag_ok {x : D} {v : V} {t : Tag} (hh : HR g ρ L H) (r : VR g ρ H x v) (e : tagD L x = some t) (hi : ∀ c, t = .ins c → InsTy g.K (g.cm c)) : TyX g.K H v (tagV g.cm t) := by
  unfold tagD at e
  cases r with
  | non => cases e; exact .base .non
  | bl b => cases e; exact .base (.bl b)
  | int i => cases e; exact .base (.int i)
  | str y => cases e; exact .base (.str y)
  | cls c => cases e
  | ty c => cases e
  | tup s t =>
    cases e
    rcases s with s | ((s | ⟨o, s⟩) | ⟨o, its, n, h1, h2, _⟩)
    · exact .base (.tup s)
    · cases s
    · cases s
    · exact .kTuple h1 h2
  | rol s t =>
    cases e
    rcases s with ⟨o, s⟩ | s
    · exact .base (.frz s)
    · rcases s with (h | ⟨_, h⟩) | ⟨o, its, n, h1, h2, _⟩
      · cases h
      · cases h
      · exact .kList h1 h2
  | ref ea =>
    simp only at e
    split at e
    · rename_i ds h1
      cases e
      obtain ⟨vs, b1, b2⟩ := hh.lst h1 ea
      exact .base (.lst b1)
    · rename_i ks h1
      cases e
      obtain ⟨vs, b1, b2⟩ := hh.ob _ _ _ h1 ea
      exact .base (.dK b1)
    · rename_i c fs h1
      cases e
      obtain ⟨dx, vs, b1, b2⟩ := hh.ins h1 ea
      obtain ⟨cl, ha, hn, htk, hm⟩ := hi c rfl
      exact .base (.ins b1 cl ha hn htk hm)
    · cases e
end Tw
end

section
set_option Elab.async false
set_option linter.all false
set_option maxRecDepth 100000
set_option maxHeartbeats 1000000
/-! Tw, part I: isinstance, methods of lists and dicts. -/
namespace Tw
open PySem PySem.Spec L2
variable {g : Gx} {ρ ρ' : List Addr} {H H' : Hp} {X : Cx} {W : WX} {L : List O} {cm : Nat → Addr} {fx : Hp}

/-! ### isinstance -/
def tagN : Tag → String
  | .non => "NoneType" | .bl => "bool" | .int => "int" | .str => "str" | .tup => "tuple" | .lst => "list" | .dic => "dict" | .ins _ => ""
def isiT (T : Tag) (cs : List Nat) : Tag → Option Bool
  | .ins c => if c ∈ cs then some false else none
  | t => some (decide (t = T) || (decide (t = .bl) && decide (T = .int)))
theorem kit_tab (T t : Tag) (hT : ∀ c, T ≠ .ins c) (hn : T ≠ .non) (ht : ∀ c, t ≠ .ins c) : kitB (tagN t) (tagN T) = some (decide (t = T) || (decide (t = .bl) && decide (T = .int))) := by
  cases T <;> first | exact (hT _ rfl).elim | exact (hn rfl).elim | skip
  all_goals (cases t <;> first | exact (ht _ rfl).elim | decide +kernel)
def mIsi (f : Tag → Option Bool) (a : ME) : ME := fun ε L => (a ε L).bind fun x L1 => match (tagD L1 x).bind f with
  | some b => .ok (.bl b) L1
  | none => .bad
theorem se_isi {f : Tag → Option Bool} {e eT : Expr} {a : ME} {c : V} {u : Value} {p pos : Pos} (hm : X.mg "isinstance" = none) (ha : PE X e (tM ⟨X.K, cm, fx⟩ W a)) (hT : PE X eT (tC c)) (hc : ClsV c u)
    (hf : ∀ t b, f t = some b → PySem.W.kitOne X.K (tagV cm t) u = some b) (hi : ∀ c b, f (.ins c) = some b → InsTy X.K (cm c)) (hg : Gl X "isinstance" := by rfl)
    (he : starEach [e, eT] X.env = (false, eval e X.env) :: starEach [eT] X.env := by rfl) (he2 : starEach [eT] X.env = (false, eval eT X.env) :: starEach [] X.env := by rfl) (hpl : (backTo pos (starEach [eT] X.env)).any (·.1) = false := by rfl) :
    PE X (.Call (.Name "isinstance" p) [e, eT] [] pos) (tM ⟨X.K, cm, fx⟩ W (mIsi f a)) :=
  (pe_callB call_isi hg hm (by decide +kernel) (pa_cons ha (pa_cons hT pa_nil he2) he) (by decide) (by decide) he hpl).imp fun σ H Q q => by
    obtain ⟨ε, ρ, L, he, hh, q⟩ := q
    refine ⟨ε, ρ, L, he, hh, Lf.bind q fun x L1 v ρ1 H1 e1 p1 t1 h1 r1 q1 => ?_⟩
    cases ht : tagD L1 x with
    | none => rw [ht] at q1; exact q1.elim
    | some t =>
      rw [ht] at q1
      simp only [Option.bind_some] at q1
      cases hb : f t with
      | none => rw [hb] at q1; exact q1.elim
      | some b =>
        rw [hb] at q1
        refine ⟨v, c, tagV cm t, u, b, rfl, hc, tag_ok h1 r1 ht (fun c e => hi c b (by rw [← e]; exact hb)), hf t b hb, ?_⟩
        exact q1 (.bl b) ρ1 H1 (List.prefix_refl _) (TP.refl H1) h1 (.bl b)
/-- isinstance(x, T), T a built-in type -/
theorem se_isiB {cm : Nat → Addr} {fx : Hp} (T : Tag) (cs : List Nat) {e : Expr} {a : ME} {x : Str} {p p2 pos : Pos} (hm : X.mg "isinstance" = none) (hmT : X.mg x = none) (ha : PE X e (tM ⟨X.K, cm, fx⟩ W a))
    (hcs : ∀ c ∈ cs, InsTy X.K (cm c) ∧ PySem.W.kitOne X.K (.ref (cm c)) (.type (tagN T)) = some false) (hT : ∀ c, T ≠ .ins c) (hn : T ≠ .non)
    (hv : bootBuiltins x = some (.type (tagN T)) := by decide +kernel) (hgT : Gl X x := by rfl) (hnx : x ≠ "__name__" := by decide) (hdb : (x == ("__debug__" : Str)) = false := by decide) (hg : Gl X "isinstance" := by rfl)
    (he : starEach [e, .Name x p2] X.env = (false, eval e X.env) :: starEach [.Name x p2] X.env := by rfl) (he2 : starEach [.Name x p2] X.env = (false, eval (.Name x p2) X.env) :: starEach [] X.env := by rfl) (hpl : (backTo pos (starEach [.Name x p2] X.env)).any (·.1) = false := by rfl) :
    PE X (.Call (.Name "isinstance" p) [e, .Name x p2] [] pos) (tM ⟨X.K, cm, fx⟩ W (mIsi (isiT T cs) a)) :=
  se_isi (cm := cm) hm ha (pe_bltn hgT hmT hv (v := .ty (tagN T)) rfl hnx hdb) (.ty _) (fun t b hb => by
    cases t with
    | ins c =>
      simp only [isiT] at hb
      split at hb
      · rename_i hc
        cases hb
        exact (hcs c hc).2
      · cases hb
    | non => cases hb; exact kit_ty (kit_tab T .non hT hn (by intro c h; cases h))
    | bl => cases hb; exact kit_ty (kit_tab T .bl hT hn (by intro c h; cases h))
    | int => cases hb; exact kit_ty (kit_tab T .int hT hn (by intro c h; cases h))
    | str => cases hb; exact kit_ty (kit_tab T .str hT hn (by intro c h; cases h))
    | tup => cases hb; exact kit_ty (kit_tab T .tup hT hn (by intro c h; cases h))
    | lst => cases hb; exact kit_ty (kit_tab T .lst hT hn (by intro c h; cases h))
    | dic => cases hb; exact kit_ty (kit_tab T .dic hT hn (by intro c h; cases h))) (fun c b hb => by
    simp only [isiT] at hb
    split at hb
    · rename_i hc
      exact (hcs c hc).1
    · cases hb) hg he he2 hpl
/-- isinstance(x, C), C an own class -/
structure IsiC (K : PySem.W.Frag) (C : Addr) : Prop where
  non : PySem.W.kitOne K (.type "NoneType") (.ref C) = some false
  bl : PySem.W.kitOne K (.type "bool") (.ref C) = some false
  int : PySem.W.kitOne K (.type "int") (.ref C) = some false
  str : PySem.W.kitOne K (.type "str") (.ref C) = some false
  tup : PySem.W.kitOne K (.type "tuple") (.ref C) = some false
  lst : PySem.W.kitOne K (.type "list") (.ref C) = some false
  dic : PySem.W.kitOne K (.type "dict") (.ref C) = some false
  self : PySem.W.kitOne K (.ref C) (.ref C) = some true
def isiC (c : Nat) (cs : List Nat) : Tag → Option Bool
  | .ins c' => if c' = c then some true else if c' ∈ cs then some false else none
  | _ => some false
theorem se_isiC {cm : Nat → Addr} {fx : Hp} (c : Nat) (cs : List Nat) {e : Expr} {a : ME} {x : Str} {p p2 pos : Pos} (hm : X.mg "isinstance" = none) (hmT : X.mg x = some (.ref (cm c))) (ha : PE X e (tM ⟨X.K, cm, fx⟩ W a)) (hC : IsiC X.K (cm c)) (hi : InsTy X.K (cm c))
    (hcs : ∀ c' ∈ cs, InsTy X.K (cm c') ∧ PySem.W.kitOne X.K (.ref (cm c')) (.ref (cm c)) = some false) (hgT : Gl X x := by rfl) (hdb : (x == ("__debug__" : Str)) = false := by decide) (hg : Gl X "isinstance" := by rfl)
    (he : starEach [e, .Name x p2] X.env = (false, eval e X.env) :: starEach [.Name x p2] X.env := by rfl) (he2 : starEach [.Name x p2] X.env = (false, eval (.Name x p2) X.env) :: starEach [] X.env := by rfl) (hpl : (backTo pos (starEach [.Name x p2] X.env)).any (·.1) = false := by rfl) :
    PE X (.Call (.Name "isinstance" p) [e, .Name x p2] [] pos) (tM ⟨X.K, cm, fx⟩ W (mIsi (isiC c cs) a)) :=
  se_isi (cm := cm) hm ha (pe_glob hgT hmT (v := .ref (cm c)) rfl hdb) (.own _) (fun t b hb => by
    cases t with
    | ins c' =>
      simp only [isiC] at hb
      split at hb
      · rename_i hc
        cases hb
        subst hc
        exact hC.self
      · split at hb
        · rename_i hc
          cases hb
          exact (hcs c' hc).2
        · cases hb
    | non => cases hb; exact hC.non
    | bl => cases hb; exact hC.bl
    | int => cases hb; exact hC.int
    | str => cases hb; exact hC.str
    | tup => cases hb; exact hC.tup
    | lst => cases hb; exact hC.lst
    | dic => cases hb; exact hC.dic) (fun c' b hb => by
    simp only [isiC] at hb
    split at hb
    · rename_i hc
      subst hc
      exact hi
    · split at hb
      · rename_i hc
        exact (hcs c' hc).1
      · cases hb) hg he he2 hpl

/-! ### methods of lists -/
abbrev OM := D → List D → List O → OD
def rMt (g : Gx) (om : OM) : V → List V → Hp → VK → Prop := fun x vs H Q => ∃ ρ L d ds, HR g ρ L H ∧ VR g ρ H d x ∧ VRs g ρ H ds vs ∧ LfO g ρ H (om d ds L) Q
def isLst (L : List O) : D → Bool
  | .ref n => match L[n]? with
    | some (.lst _) => true
    | _ => false
  | .rol _ => true
  | _ => false
theorem isLst_ok {x : D} {v : V} (hh : HR g ρ L H) (r : VR g ρ H x v) (e : isLst L x = true) : tyV g.K "list" v H := by
  cases r with
  | ref ea =>
    simp only [isLst] at e
    split at e
    · rename_i h1
      obtain ⟨vs, b1, b2⟩ := hh.lst h1 ea
      exact .inl ⟨rfl, _, SqL.of b1⟩
    · cases e
  | rol s t => exact .inl ⟨rfl, _, s.seq⟩
  | _ => cases e
def mBmL (om : OM) (o : ME) (args : MA) : ME := fun ε L => (o ε L).bind fun x L1 => if isLst L1 x = true then (args ε L1).bind fun ds L2 => ofO (om x ds L2) else .bad
theorem se_bmL {om : OM} {id : String} {name : Str} {o e : Expr} {es : List Expr} {mo : ME} {args : MA} {apos cpos : Pos} (slot : Slot "list" name id) (hty : typeOf (.builtin id) = pure (.type "method_descriptor")) (hm : MtR X id (rMt ⟨X.K, cm, fx⟩ om))
    (ho : PE X o (tM ⟨X.K, cm, fx⟩ W mo)) (ha : PA X (e :: es) (tMA ⟨X.K, cm, fx⟩ W args)) (hbase : attributeBase o name X.env (eval o X.env) = eval o X.env := by rfl)
    (hfew : ((backTo cpos (starEach (e :: es) X.env)).all (fun x => !x.1) && (backToKw cpos (keywordEach [] X.env)).all (fun x => x.1.isSome)
      && decide ((e :: es).length + ([] : List Keyword).length + (if ([] : List Keyword).isEmpty then 0 else 1) < 30)) = true := by rfl)
    (hline : (apos.endLine == cpos.line) = true := by rfl) (hs : starEach (e :: es) X.env = (false, eval e X.env) :: starEach es X.env := by rfl) (hplain : (backTo cpos (starEach es X.env)).any (·.1) = false := by rfl) :
    PE X (.Call (.Attribute o name apos) (e :: es) [] cpos) (tM ⟨X.K, cm, fx⟩ W (mBmL om mo args)) :=
  (pe_bm PySem.F.plainAttrs_list slot hty hm ho ha hbase hfew hline hs hplain).imp fun σ H Q q => by
    obtain ⟨ε, ρ, L, he, hh, q⟩ := q
    refine ⟨ε, ρ, L, he, hh, Lf.bind q fun x L1 v ρ1 H1 e1 p1 t1 h1 r1 q1 => ?_⟩
    cases hi : isLst L1 x with
    | false => rw [hi, if_neg (by decide)] at q1; exact q1.elim
    | true =>
      rw [hi, if_pos rfl] at q1
      refine ⟨isLst_ok h1 r1 hi, ε, ρ1, L1, he.mono p1 t1, h1, Lf.bind q1 fun ds L2 vs ρ2 H2 e2 p2 t2 h2 r2 q2 => ?_⟩
      exact ⟨ρ2, L2, x, ds, h2, r1.mono p2 t2, r2, LfO.of q2⟩
theorem se_bmL0 {om : OM} {id : String} {name : Str} {o : Expr} {mo : ME} {apos cpos : Pos} (slot : Slot "list" name id) (hty : typeOf (.builtin id) = pure (.type "method_descriptor")) (hm : MtR X id (rMt ⟨X.K, cm, fx⟩ om))
    (ho : PE X o (tM ⟨X.K, cm, fx⟩ W mo)) (hbase : attributeBase o name X.env (eval o X.env) = eval o X.env := by rfl) (hline : (apos.endLine == cpos.line) = true := by rfl) :
    PE X (.Call (.Attribute o name apos) [] [] cpos) (tM ⟨X.K, cm, fx⟩ W (mBmL om mo mNil)) :=
  (pe_bm0 PySem.F.plainAttrs_list slot hty hm ho hbase hline).imp fun σ H Q q => by
    obtain ⟨ε, ρ, L, he, hh, q⟩ := q
    refine ⟨ε, ρ, L, he, hh, Lf.bind q fun x L1 v ρ1 H1 e1 p1 t1 h1 r1 q1 => ?_⟩
    cases hi : isLst L1 x with
    | false => rw [hi, if_neg (by decide)] at q1; exact q1.elim
    | true =>
      rw [hi, if_pos rfl] at q1
      exact ⟨isLst_ok h1 r1 hi, ρ1, L1, x, [], h1, r1, .nil, LfO.of q1⟩
/-- a list is changed -/
theorem LfO.setL {d : D} {v : V} {n : Nat} {a : Addr} {ds es : List D} {us vs : List V} {Q : VK} (h : LfO g ρ H (some (d, L.set n (.lst es))) Q) (hh : HR g ρ L H) (ea : ρ[n]? = some a) (e : H a = some (.lst us)) (r : VRs g ρ H es vs) (rv : VR g ρ H d v) : Q v (upd H a (.lst vs)) := by
  have t : TP H (upd H a (.lst vs)) := TP.mut e rfl
  exact h v ρ _ (List.prefix_refl _) t (hh.set ea e rfl ⟨vs, upd_same, r.mono (List.prefix_refl _) t⟩) (rv.mono (List.prefix_refl _) t)
def oAppend : OM := fun x ds L => match x, ds with
  | .ref n, [y] => match L[n]? with
    | some (.lst xs) => if xs.length < most then some (.non, L.set n (.lst (xs ++ [y]))) else none
    | _ => none
  | _, _ => none
theorem mt_oAppend : MtR X "list.append" (rMt ⟨X.K, cm, fx⟩ oAppend) := fun pins s σ H x xs v us Q I rx r q => mt_append pins s σ H x xs v us Q I rx r (by
  obtain ⟨ρ, L, d, ds, hh, rd, rr, q⟩ := q
  unfold oAppend at q
  split at q
  · obtain ⟨yv, rfl, ry⟩ := rr.one
    cases rd with
    | ref ea =>
      split at q
      · rename_i zs h1
        obtain ⟨vs, b1, b2⟩ := hh.lst h1 ea
        split at q
        · rename_i hz
          exact ⟨_, vs, yv, rfl, rfl, b1, Nat.lt_of_lt_of_le (by rw [← b2.length]; exact hz) (most_le (Nat.le_refl _)), q.setL (ds := []) hh ea b1 (b2.append (.cons ry .nil)) .non⟩
        · exact q.elim
      · exact q.elim
  · exact q.elim)
def oExtend : OM := fun x ds L => match x, ds with
  | .ref n, [.ref m] => match L[n]?, L[m]? with
    | some (.lst xs), some (.lst ys) => if xs.length + ys.length ≤ most then some (.non, L.set n (.lst (xs ++ ys))) else none
    | _, _ => none
  | _, _ => none
theorem mt_oExtend : MtR X "list.extend" (rMt ⟨X.K, cm, fx⟩ oExtend) := fun pins s σ H x xs v us Q I rx r q => mt_extend pins s σ H x xs v us Q I rx r (by
  obtain ⟨ρ, L, d, ds, hh, rd, rr, q⟩ := q
  unfold oExtend at q
  split at q
  · obtain ⟨yv, rfl, ry⟩ := rr.one
    cases rd with
    | ref ea =>
      cases ry with
      | ref eb =>
        split at q
        · rename_i zs ys h1 h2
          obtain ⟨vs, b1, b2⟩ := hh.lst h1 ea
          obtain ⟨ws, c1, c2⟩ := hh.lst h2 eb
          split at q
          · rename_i hz
            exact ⟨_, _, vs, ws, rfl, rfl, b1, c1, most_le (by rw [← b2.length, ← c2.length]; exact hz), q.setL (ds := []) hh ea b1 (b2.append c2) .non⟩
          · exact q.elim
        · exact q.elim
  · exact q.elim)
def oReverse : OM := fun x ds L => match x, ds with
  | .ref n, [] => match L[n]? with
    | some (.lst xs) => some (.non, L.set n (.lst xs.reverse))
    | _ => none
  | _, _ => none
theorem mt_oReverse : MtR X "list.reverse" (rMt ⟨X.K, cm, fx⟩ oReverse) := fun pins s σ H x xs v us Q I rx r q => mt_reverse pins s σ H x xs v us Q I rx r (by
  obtain ⟨ρ, L, d, ds, hh, rd, rr, q⟩ := q
  unfold oReverse at q
  split at q
  · cases rr
    cases rd with
    | ref ea =>
      split at q
      · rename_i zs h1
        obtain ⟨vs, b1, b2⟩ := hh.lst h1 ea
        exact ⟨_, vs, rfl, rfl, b1, q.setL (ds := []) hh ea b1 b2.reverse .non⟩
      · exact q.elim
  · exact q.elim)
def oClear : OM := fun x ds L => match x, ds with
  | .ref n, [] => match L[n]? with
    | some (.lst _) => some (.non, L.set n (.lst []))
    | _ => none
  | _, _ => none
theorem mt_oClear : MtR X "list.clear" (rMt ⟨X.K, cm, fx⟩ oClear) := fun pins s σ H x xs v us Q I rx r q => mt_clear pins s σ H x xs v us Q I rx r (by
  obtain ⟨ρ, L, d, ds, hh, rd, rr, q⟩ := q
  unfold oClear at q
  split at q
  · cases rr
    cases rd with
    | ref ea =>
      split at q
      · rename_i zs h1
        obtain ⟨vs, b1, b2⟩ := hh.lst h1 ea
        exact ⟨_, vs, rfl, rfl, b1, q.setL (ds := []) hh ea b1 .nil .non⟩
      · exact q.elim
  · exact q.elim)
theorem VRs.eraseIdx : ∀ {ds : List D} {vs : List V} (k : Nat), VRs g ρ H ds vs → VRs g ρ H (ds.eraseIdx k) (vs.eraseIdx k)
  | _, _, _, .nil => by simp; exact .nil
  | _, _, 0, .cons r t => by simpa using t
  | _, _, k + 1, .cons r t => by simp only [List.eraseIdx_cons_succ]; exact .cons r (VRs.eraseIdx k t)
theorem VRs.dropLast {ds : List D} {vs : List V} (r : VRs g ρ H ds vs) : VRs g ρ H ds.dropLast vs.dropLast := by
  rw [List.dropLast_eq_take, List.dropLast_eq_take, r.length]
  exact r.take _
def oPop : OM := fun x ds L => match x, ds with
  | .ref n, [] => match L[n]? with
    | some (.lst xs) => match xs[xs.length - 1]? with
      | some y => some (y, L.set n (.lst xs.dropLast))
      | none => none
    | _ => none
  | .ref n, [.int i] => match L[n]? with
    | some (.lst xs) => if -1000000 ≤ i ∧ i ≤ 1000000 then (match seqIndex? i xs.length with
      | some k => match xs[k]? with
        | some y => some (y, L.set n (.lst (xs.eraseIdx k)))
        | none => none
      | none => none) else none
    | _ => none
  | _, _ => none
theorem mt_oPop : MtR X "list.pop" (rMt ⟨X.K, cm, fx⟩ oPop) := by
  have h := MtR.or (X := X) (show MtR X "list.pop" rPop from mt_pop) (show MtR X "list.pop" rPopAt from mt_popAt)
  intro pins s σ H x xs v us Q I rx r q
  refine h pins s σ H x xs v us Q I rx r ?_
  obtain ⟨ρ, L, d, ds, hh, rd, rr, q⟩ := q
  unfold oPop at q
  split at q
  · cases rr
    cases rd with
    | ref ea =>
      split at q
      · rename_i zs h1
        obtain ⟨vs, b1, b2⟩ := hh.lst h1 ea
        split at q
        · rename_i y hy
          obtain ⟨yv, ey, ry⟩ := b2.get hy
          exact .inl ⟨_, vs, yv, rfl, rfl, b1, by rw [← b2.length]; exact ey, q.setL (ds := []) hh ea b1 b2.dropLast ry⟩
        · exact q.elim
      · exact q.elim
  · obtain ⟨yv, rfl, ry⟩ := rr.one
    cases ry
    cases rd with
    | ref ea =>
      split at q
      · rename_i zs h1
        obtain ⟨vs, b1, b2⟩ := hh.lst h1 ea
        split at q
        · rename_i hz
          split at q
          · rename_i k hk
            split at q
            · rename_i y hy
              obtain ⟨yv, ey, ry⟩ := b2.get hy
              exact .inr ⟨_, vs, _, k, yv, rfl, rfl, b1, by omega, by omega, by rw [← b2.length]; exact hk, ey, q.setL (ds := []) hh ea b1 (b2.eraseIdx k) ry⟩
            · exact q.elim
          · exact q.elim
        · exact q.elim
      · exact q.elim
  · exact q.elim
/-- xs.index(y), plain things -/
def findF (y : D) : List D → Option Nat
  | [] => none
  | z :: zs => if eqF z y = true then some 0 else (findF y zs).map (· + 1)
def oIndex : OM := fun x ds L => match ds with
  | [y] => match seqD L x with
    | some zs => match x with
      | .tup _ => none
      | _ => if flatD y = true ∧ zs.all flatD = true then (findF y zs).map fun j => (.int j, L) else none
    | none => none
  | _ => none
theorem findF_ok {y : D} : ∀ {zs : List D} {j : Nat}, findF y zs = some j → (∃ z, zs[j]? = some z ∧ eqF z y = true) ∧ ∀ m z, m < j → zs[m]? = some z → eqF z y = false
  | [], j, e => by cases e
  | z :: zs, j, e => by
    unfold findF at e
    by_cases h : eqF z y = true
    · rw [if_pos h] at e
      cases e
      exact ⟨⟨z, rfl, h⟩, fun m z hm => absurd hm (Nat.not_lt_zero _)⟩
    · rw [if_neg h] at e
      cases hf : findF y zs with
      | none => rw [hf] at e; cases e
      | some i =>
        rw [hf] at e
        cases e
        obtain ⟨h1, h2⟩ := findF_ok hf
        refine ⟨by simpa using h1, fun m w hm hw => ?_⟩
        cases m with
        | zero => simp at hw; subst hw; simpa using h
        | succ m => exact h2 m w (Nat.lt_of_succ_lt_succ hm) (by simpa using hw)
theorem mt_oIndex : MtR X "list.index" (rMt ⟨X.K, cm, fx⟩ oIndex) := fun pins s σ H x xs v us Q I rx r q => mt_index pins s σ H x xs v us Q I rx r (by
  obtain ⟨ρ, L, d, ds, hh, rd, rr, q⟩ := q
  unfold oIndex at q
  split at q
  · obtain ⟨yv, rfl, ry⟩ := rr.one
    split at q
    · rename_i zs hs
      split at q
      · exact q.elim
      · rename_i hx
        split at q
        · rename_i hz
          obtain ⟨b, vs, rfl, t, sq⟩ := seqL_ok hh rd hs (fun l e => hx l e)
          cases hf : findF _ zs with
          | none => rw [hf] at q; exact q.elim
          | some j =>
            rw [hf] at q
            obtain ⟨⟨z, h1, h2⟩, h3⟩ := findF_ok hf
            obtain ⟨zv, ez, rz⟩ := t.get h1
            refine ⟨b, vs, yv, j, zv, rfl, rfl, sq, by rw [flatD_ok ry]; exact hz.1, by rw [flatDs_ok t]; exact hz.2, ez, by rw [eqF_ok rz ry]; exact h2, fun m z' hm e' => ?_, LfO.same q hh (.int _)⟩
            obtain ⟨w', ew, rw'⟩ := t.getV e'
            rw [eqF_ok rw' ry]
            exact h3 m w' hm ew
        · exact q.elim
    · exact q.elim
  · exact q.elim)
end Tw
end

section
set_option Elab.async false
set_option linter.all false
set_option maxRecDepth 100000
set_option maxHeartbeats 1000000
/-! Tw, part J: a module's constants, room. -/
namespace Tw
open PySem PySem.Spec L2
variable {g : Gx} {ρ ρ' : List Addr} {H H' : Hp} {X : Cx} {W : WX} {L : List O} {cm : Nat → Addr} {fx : Hp}
theorem u65 {k : Nat} {A : Around} (hr : Room k A) : A.units + 65 < cLine := by have := hr.un; omega
theorem u64 {k : Nat} {A : Around} (hr : Room k A) : A.units + 64 < cLine := by have := hr.un; omega
structure GC (K : PySem.W.Frag) (mg : Str → Option Value) (cm : Nat → Addr) (x : Str) (d : D) : Prop where
  ex : ∃ u v, mg x = some u ∧ RelV v u ∧ ∀ fx ρ H, VR ⟨K, cm, fx⟩ ρ H d v
theorem se_g {x : Str} {d : D} {pos : Pos} (h : GC X.K X.mg cm x d) (hg : Gl X x := by rfl) (hd : (x == ("__debug__" : Str)) = false := by decide) : PE X (.Name x pos) (tM ⟨X.K, cm, fx⟩ W (mC d)) := by
  obtain ⟨u, v, hm, r, hv⟩ := h.ex
  exact se_c (pe_glob hg hm r hd) (hv fx)
end Tw
end

section
set_option Elab.async false
set_option linter.all false
set_option maxRecDepth 100000
set_option maxHeartbeats 1000000
/-! Tw, part K: enumerate over tuples and lists. -/
namespace Tw
open PySem PySem.Spec L2
variable {g : Gx} {ρ ρ' : List Addr} {H H' : Hp} {X : Cx} {W : WX} {L : List O} {cm : Nat → Addr} {fx : Hp}

/-- enumerate(t, k₀) of a tuple -/
def IteT (K : PySem.W.Frag) (a : Addr) (k₀ : Int) : It :=
  ⟨fun i H => ∃ (xs : List V) (x : V), SqT K H a xs ∧ xs[i]? = some x, fun i H v H' => ∃ T x, v = .ref T ∧ H T = none ∧ H' = upd H T (.tup [.int (k₀ + (i : Nat)), x]) ∧ ∀ xs, SqT K H a xs → xs[i]? = some x, fun i H => ∃ xs : List V, SqT K H a xs ∧ xs.length = i⟩
theorem turn_enumT {P : Program} {w : World} {K : PySem.W.Frag} {elts : List Expr} {kk : Nat} {tpos : Pos} (a e it : Addr) (k₀ : Int) :
    Turn P w K (.Tuple elts kk tpos) (IteT K a k₀) [e, it] e (fun i h => (∃ old, IsEnum h e it (k₀ + ((i : Nat) : Int)) old) ∧ h.IsTupleIter it a i ∧ e ≠ it ∧ a ≠ it ∧ a ≠ e) where
  mem := by simp
  obj := fun i h st b hb => by
    obtain ⟨⟨old, he⟩, ⟨o, ho, hc, hd⟩, _⟩ := st
    have e' : b = e ∨ b = it := by simpa using hb
    rcases e' with z | z
    · rw [z]; exact ⟨_, he, fun v q => nomatch q⟩
    · rw [z]; exact ⟨o, ho, fun v q => by rw [hd] at q; cases q⟩
  keep := fun i h h' st k => let ⟨⟨old, he⟩, hi, hne⟩ := st; ⟨⟨old, k e (by simp) _ he⟩, hi.at fun o q => k it (by simp) o q, hne⟩
  item := by
    intro X hP hw hK hc i pins s σ H E I hf st hg
    subst hP hw hK
    obtain ⟨⟨old, he⟩, hit, hne, hai, hae⟩ := st
    obtain ⟨xs, x, hq, hx⟩ := hg
    obtain ⟨its, rv, p, hz⟩ := I.tuple hq
    obtain ⟨u, hu, ru⟩ := rv.get hx
    have hel : e < s.heap.objs.size := Heap.lt_size he
    have hil : it < s.heap.objs.size := by obtain ⟨_, q, _⟩ := hit; exact Heap.lt_size q
    have hlt : i < its.toArray.size := by
      obtain ⟨q, _⟩ := List.getElem?_eq_some_iff.mp hu
      simpa using q
    refine wpAny_pyNext_enum_itemC (Draws.tuple (prog := X.prog) (w := X.w) (A := X.A.in1) (I.ok.hd hc) it a hai its.toArray) he ⟨hit, p⟩ hlt hne (by simp [hne, Ne.symm hae]) fun u' h' tk hu' ho hst' hT hsz hk => ?_
    obtain rfl : u' = u := by
      have : its.toArray[i]? = some u := by simpa using hu
      rw [this] at hu'
      exact (Option.some.inj hu').symm
    obtain ⟨hit', _⟩ := hst'
    refine ⟨_, rfl, wpAny_letOwnedTupleGo_enum (s := { s with heap := h', toks := tk + 1 }) ho fun h'' he' sb => ?_⟩
    have hT2 : h''.get? s.heap.objs.size = some { cls := .type "tuple", data := .seq #[.int (k₀ + (i : Int)) tk, u'] } := (sb.2 _ (Nat.ne_of_gt hel)).trans hT
    have new : ObjOk X.prog X.w (upd H s.heap.objs.size (.tup [.int (k₀ + (i : Nat)), x])) h'' s.heap.objs.size (.tup [.int (k₀ + (i : Nat)), x]) :=
      ⟨by show 2 ≤ sizeLine; decide, [.int (k₀ + (i : Int)) tk, u'], .cons ⟨_, rfl⟩ (.cons ru .nil), ⟨_, hT2, rfl, _, rfl⟩⟩
    have I1 : Inv X pins σ (upd H s.heap.objs.size (.tup [.int (k₀ + (i : Nat)), x])) { s with heap := h'', toks := tk + 1 } :=
      I.turnedNew (ch := [e, it]) (fun b ob hb q => (sb.2 b (fun z => hb (by simp [z]))).trans (hk b ob (fun z => hb (by simp [z])) (fun z => hb (by simp [z])) q)) hf (Nat.le_refl _) new
    refine ⟨.ref s.heap.objs.size, _, I1, rfl, ⟨_, x, rfl, I.hok.fresh (Nat.le_refl _), rfl, fun ys hy => by rw [I.tuple_inj hy hq]; exact hx⟩, ⟨⟨u', ?_⟩, hit'.at fun o q => (sb.2 it (Ne.symm hne)).trans q, hne, hai, hae⟩, fun b hb => ?_⟩
    · have e1 : k₀ + ((i + 1 : Nat) : Int) = k₀ + (i : Int) + 1 := by omega
      rw [e1]; exact he'
    · have hb' : b < s.heap.objs.size := by
        have e' : b = e ∨ b = it := by simpa using hb
        rcases e' with z | z
        · rw [z]; exact hel
        · rw [z]; exact hil
      rw [upd_ne (Nat.ne_of_lt hb')]
      exact (hf b hb).1
  done := by
    intro X hP hw hK hc i pins s σ H E I hf st hg
    subst hP hw hK
    obtain ⟨⟨old, he⟩, hit, hne, hai, hae⟩ := st
    obtain ⟨xs, hq, hx⟩ := hg
    obtain ⟨its, rv, p, hz⟩ := I.tuple hq
    obtain ⟨f0, f1, f2, f3, f4, f5⟩ := hf it (by simp)
    have hl := rv.length
    have hsz : its.toArray.size = i := by simp; omega
    rw [← hsz] at hit
    exact wpAny_pyNext_enum_endD (Draws.tuple (prog := X.prog) (w := X.w) (A := X.A.in1) (I.ok.hd hc) it a hai its.toArray) he ⟨hit, p⟩ fun h' eb => ⟨rfl, I.turned (t' := s.toks) (fun b o hb q => eb b o hb q) f0 f1 f3 f4 f5⟩
  self := fun A i s Q E st h => let ⟨⟨_, he⟩, _⟩ := st; wpAny_pyIter_enum he h
/-- the cells of enumerate(t) -/
theorem meets_enumerate_newB1 {v : Value} {o : Obj} {H : Heap → Prop} (B : Begins v o H) :
    Meets (Builtin.«enumerate.__new__» ⟨[.type "enumerate", v], []⟩) (fun _ R s => H s.heap ∧
      R (.ok (.ret (.ref (s.heap.push o).objs.size))) { s with heap := (s.heap.push o).push { cls := .type "enumerate", data := .fields #[.none, .bool false, .ref s.heap.objs.size, rawInt 0, .none, .none] } }) :=
  .of_wp fun prog w A R s h => by
    obtain ⟨hp, g, d, tk, os⟩ := s; obtain ⟨h1, h⟩ := h
    have hsub := sub_enumerate
    have q1 : ∀ {A' : Around} {E : Value → Shared → Prop} {Q : Value → Shared → Prop}, Q (.ref hp.objs.size) ⟨hp.push o, g, d, tk, os⟩ → wpAny (model prog w) A' (pyIter v) Q E ⟨hp, g, d, tk, os⟩ :=
      fun q => B.iter prog w _ _ ⟨hp, g, d, tk, os⟩ _ h1 q
    wp_walk using q1
    refine wpAny_stack_any fun st => wpAny_pure ?_
    split
    · rename_i c _ _ _ _ _
      cases (c == Value.type "enumerate")
      · wp_walk using q1
        exact ⟨_, rfl, h⟩
      · wp_walk using q1
        exact ⟨_, rfl, h⟩
    · wp_walk using q1
      exact ⟨_, rfl, h⟩
theorem enum_begins1 {prog : Program} {w : World} {A : Around} {E : Value → Shared → Prop} {s : Shared} {v : Value} {o : Obj} {H : Heap → Prop} {Q : Value → Shared → Prop} (B : Begins v o H) (h1 : H s.heap)
    (h : ∀ h', IsEnum h' (s.heap.objs.size + 1) s.heap.objs.size 0 .none → h'.get? s.heap.objs.size = some o → h'.objs.size = s.heap.objs.size + 2 →
      (∀ b o, s.heap.get? b = some o → h'.get? b = some o) → Q (.ref (s.heap.objs.size + 1)) { s with heap := h' }) :
    wpAny (model prog w) A (call (.type "enumerate") [v]) Q E s := by
  refine callType_new F.called_enumerate (by decide) (F.typeCall_enumerate_1 _) (F.newCall_enumerate_1 _) (fun obj => F.args_object_init_2 obj _) F.entry_enumerate_new
    (meets_enumerate_newB1 B) ⟨h1, ?_⟩
  have hz : (s.heap.push o).objs.size = s.heap.objs.size + 1 := Heap.size_push ..
  show _ ∧ _
  rw [hz]
  have he : IsEnum ((s.heap.push o).push { cls := .type "enumerate", data := .fields #[.none, .bool false, .ref s.heap.objs.size, rawInt 0, .none, .none] }) (s.heap.objs.size + 1) s.heap.objs.size 0 .none := by
    have := Heap.get?_push_size (s.heap.push o) (o := { cls := .type "enumerate", data := .fields #[.none, .bool false, .ref s.heap.objs.size, rawInt 0, .none, .none] }) rfl
    rw [hz] at this; exact this
  refine ⟨⟨_, he, rfl⟩, h _ he (Heap.get?_push_of_some _ (Heap.get?_push_size _ B.free)) (by rw [Heap.size_push, hz]) fun b o x => Heap.get?_push_of_some _ (Heap.get?_push_of_some _ x)⟩
/-- an enumerate just made, walked -/
theorem enum_itT {tg : Expr} {elts : List Expr} {kk : Nat} {tpos : Pos} {pins : List (Addr × Obj)} {σ : L2.St} {H : Hp} {s : Shared} {R : It → Hp → Prop} {E : Value → Shared → Prop} {a : Addr} {xs : List V} {k₀ : Int} {h' : Heap} (I : Inv X pins σ H s) (hq : SqT X.K H a xs)
    (he : IsEnum h' (s.heap.objs.size + 1) s.heap.objs.size k₀ .none) (hit : h'.get? s.heap.objs.size = some { cls := .type "tuple_iterator", data := .fields #[.ref a, .int 0 0] }) (hsz : h'.objs.size = s.heap.objs.size + 2)
    (hk : ∀ b o, s.heap.get? b = some o → h'.get? b = some o) (q : R (IteT X.K a k₀) H) : wpAny (model X.prog X.w) X.A (pyIter (.ref (s.heap.objs.size + 1))) (PIE X pins σ (.Tuple elts kk tpos) R) E { s with heap := h' } := by
  refine wpAny_pyIter_enum he ?_
  obtain ⟨its, rv, p, hz⟩ := I.tuple hq
  have hla : a < s.heap.objs.size := p.lt
  have I2 : Inv X pins σ H { s with heap := h' } := I.kept (t' := s.toks) hk
  refine ⟨s.heap.objs.size + 1, [s.heap.objs.size + 1, s.heap.objs.size], _, _, H, rfl, I2, turn_enumT a (s.heap.objs.size + 1) s.heap.objs.size k₀, ⟨⟨.none, by simpa using he⟩, ⟨_, hit, rfl, rfl⟩, Nat.succ_ne_self _, Nat.ne_of_lt hla, Nat.ne_of_lt (Nat.lt_succ_of_lt hla)⟩, fun b hb => ?_, q⟩
  have e' : b = s.heap.objs.size + 1 ∨ b = s.heap.objs.size := by simpa using hb
  have hle : s.heap.objs.size ≤ b := by
    rcases e' with z | z
    · rw [z]; exact Nat.le_add_right _ _
    · rw [z]; exact Nat.le_refl _
  exact I.fpOk hle (I.hok.fresh hle)
def iEnumT (K : PySem.W.Frag) (ta : TA) : TI := fun σ H R => ta σ H fun vs H1 => ∃ a xs, vs = [.ref a] ∧ SqT K H1 a xs ∧ R (IteT K a 0) H1
theorem pi_enumT {e : Expr} {ta : TA} {p pos tpos : Pos} {elts : List Expr} {kk : Nat} (hg : Gl X "enumerate") (hm : X.mg "enumerate" = none) (ha : PA X [e] ta) (hs : starEach [e] X.env = [(false, eval e X.env)] := by rfl) :
    PI X (.Tuple elts kk tpos) (.Call (.Name "enumerate" p) [e] [] pos) (iEnumT X.K ta) := by
  refine ⟨fun pins s σ H R I h => ?_⟩
  refine PyProof.Rows.Call_ (ld_blt I hg hm PyProof.Rows.boot_enumerate (PyProof.Rows.callWith_type1 (thn (ha.run pos pins s σ H _ I h) fun us s1 ⟨vs, H1, I1, r1, q1⟩ => ?_) hs rfl))
  obtain ⟨a, xs, ex, hq, q⟩ := q1
  subst ex
  cases r1 with
  | cons r rr =>
    cases rr
    cases r
    obtain ⟨its, rv, p', hz⟩ := I1.tuple hq
    exact enum_begins1 (begins_tuple a its.toArray) p' fun h' he hit hsz hk => enum_itT (tg := e) I1 hq he hit hsz hk q
end Tw
end

section
set_option Elab.async false
set_option linter.all false
set_option maxRecDepth 100000
set_option maxHeartbeats 1000000
/-! Tw, part L: enumerate, reversed, zip as what is walked. -/
namespace Tw
open PySem PySem.Spec L2 RZ
variable {g : Gx} {ρ ρ' : List Addr} {H H' : Hp} {X : Cx} {W : WX} {L : List O} {cm : Nat → Addr} {fx : Hp}

def enumD (k : Int) : List D → List D
  | [] => []
  | d :: ds => .tup [.int k, d] :: enumD (k + 1) ds
theorem enumD_len : ∀ (k : Int) (ds : List D), (enumD k ds).length = ds.length
  | _, [] => rfl
  | k, d :: ds => by simp [enumD, enumD_len (k + 1) ds]
theorem enumD_get : ∀ (ds : List D) (k : Int) (i : Nat) (e : D), (enumD k ds)[i]? = some e → ∃ d, ds[i]? = some d ∧ e = .tup [.int (k + i), d]
  | [], k, i, e, h => by simp [enumD] at h
  | d :: ds, k, 0, e, h => by simp [enumD] at h; exact ⟨d, rfl, by rw [← h]; simp⟩
  | d :: ds, k, i + 1, e, h => by
    obtain ⟨x, h1, h2⟩ := enumD_get ds (k + 1) i e (by simpa [enumD] using h)
    refine ⟨x, by simpa using h1, by rw [h2]; congr 3; push_cast; omega⟩
theorem pairVR {T : Addr} {k : Int} {d : D} {x : V} (n : H T = none) (r : VR g ρ H d x) : VR g ρ (upd H T (.tup [.int k, x])) (.tup [.int k, d]) (.ref T) :=
  .tup (.inl upd_same) ((VRs.cons (.int k) (.cons r .nil)).mono (List.prefix_refl _) (TP.new n))
theorem wk_enumT {ds : List D} {a : Addr} {vs : List V} {k : Int} (s : SqT g.K H a vs) (t : VRs g ρ H ds vs) : Wk g ρ H ⟨enumD k ds, none⟩ (IteT g.K a k) where
  go := fun i ρ' L' H' hi p tt _ _ => by
    have := t.length
    rw [enumD_len] at hi
    exact ⟨vs, vs[i]'(by rw [← this]; exact hi), tt.rd s, by simp⟩
  stop := fun ρ' L' H' p tt _ _ => ⟨vs, tt.rd s, by rw [← t.length, enumD_len]⟩
  yld := fun i d ρ' L' H' x H2 e p tt hh _ y => by
    obtain ⟨T, z, rfl, hT, rfl, y⟩ := y
    obtain ⟨d', e1, rfl⟩ := enumD_get ds k i d e
    obtain ⟨v, ev, r⟩ := t.get e1
    have := y vs (tt.rd s)
    rw [ev] at this
    cases this
    exact ⟨TP.new hT, hh.fresh hT _, pairVR hT (r.mono p tt)⟩
theorem wk_enumR {ds : List D} {a : Addr} {vs : List V} (s : RoL g.K H a vs) (t : VRs g ρ H ds vs) : Wk g ρ H ⟨enumD 0 ds, none⟩ (Ite g.K a) where
  go := fun i ρ' L' H' hi p tt _ _ => by
    have := t.length
    rw [enumD_len] at hi
    exact ⟨vs, vs[i]'(by rw [← this]; exact hi), (tt.rol s).seq, by simp⟩
  stop := fun ρ' L' H' p tt _ _ => ⟨vs, (tt.rol s).seq, by rw [← t.length, enumD_len]; exact Nat.le_refl _⟩
  yld := fun i d ρ' L' H' x H2 e p tt hh _ y => by
    obtain ⟨T, z, rfl, hT, rfl, y⟩ := y
    obtain ⟨d', e1, rfl⟩ := enumD_get ds 0 i d e
    obtain ⟨v, ev, r⟩ := t.get e1
    have := y vs (tt.rol s).seq
    rw [ev] at this
    cases this
    have e2 : (0 : Int) + (i : Int) = (i : Nat) := by omega
    rw [e2]
    exact ⟨TP.new hT, hh.fresh hT _, pairVR hT (r.mono p tt)⟩
theorem wk_enumL {ds : List D} {n : Nat} {a : Addr} (ea : ρ[n]? = some a) : Wk g ρ H ⟨enumD 0 ds, some (n, .lst ds)⟩ (Ite g.K a) where
  go := fun i ρ' L' H' hi p tt hh ok => by
    obtain ⟨vs, b1, b2⟩ := hh.lst (of_decide_eq_true ok) (pre_get p ea)
    have := b2.length
    rw [enumD_len] at hi
    exact ⟨vs, vs[i]'(by rw [← this]; exact hi), SqL.of b1, by simp⟩
  stop := fun ρ' L' H' p tt hh ok => by
    obtain ⟨vs, b1, b2⟩ := hh.lst (of_decide_eq_true ok) (pre_get p ea)
    exact ⟨vs, SqL.of b1, by rw [← b2.length, enumD_len]; exact Nat.le_refl _⟩
  yld := fun i d ρ' L' H' x H2 e p tt hh ok y => by
    obtain ⟨T, z, rfl, hT, rfl, y⟩ := y
    obtain ⟨vs, b1, b2⟩ := hh.lst (of_decide_eq_true ok) (pre_get p ea)
    obtain ⟨d', e1, rfl⟩ := enumD_get ds 0 i d e
    obtain ⟨v, ev, r⟩ := b2.get e1
    have := y vs (SqL.of b1)
    rw [ev] at this
    cases this
    have e2 : (0 : Int) + (i : Int) = (i : Nat) := by omega
    rw [e2]
    exact ⟨TP.new hT, hh.fresh hT _, pairVR hT r⟩
def mEnum (a : ME) : MI := fun ε L => (a ε L).bind fun x L1 => match x with
  | .tup ds => .ok ⟨enumD 0 ds, none⟩ L1
  | .rol ds => .ok ⟨enumD 0 ds, none⟩ L1
  | .ref n => match L1[n]? with
    | some (.lst ds) => .ok ⟨enumD 0 ds, some (n, .lst ds)⟩ L1
    | _ => .bad
  | _ => .bad
theorem si_enum {elts : List Expr} {kk : Nat} {tpos p pos : Pos} {e : Expr} {a : ME} (hg : Gl X "enumerate") (hm : X.mg "enumerate" = none) (h : PA X [e] (tCons (tM ⟨X.K, cm, fx⟩ W a) tNil)) (hs : starEach [e] X.env = [(false, eval e X.env)] := by rfl) :
    PI X (.Tuple elts kk tpos) (.Call (.Name "enumerate" p) [e] [] pos) (tMI ⟨X.K, cm, fx⟩ W (mEnum a)) :=
  (PI.or (pi_enum hg hm h hs) (pi_enumT hg hm h hs)).imp fun σ H R q => by
    obtain ⟨ε, ρ, L, he, hh, q⟩ := q
    by_cases ht : ∃ ds L1, a ε L = .ok (.tup ds) L1
    · obtain ⟨ds, L1, ht⟩ := ht
      refine .inr ⟨ε, ρ, L, he, hh, Lf.bind q fun x L1 v ρ1 H1 e1 p1 t1 h1 r1 q1 => ?_⟩
      rw [ht] at e1
      cases e1
      cases r1 with
      | tup s t => exact ⟨_, _, rfl, s.sq, q1 _ ρ1 H1 (List.prefix_refl _) (TP.refl H1) h1 (wk_enumT s.sq t)⟩
    · refine .inl ⟨ε, ρ, L, he, hh, Lf.bind q fun x L1 v ρ1 H1 e1 p1 t1 h1 r1 q1 => ?_⟩
      cases r1 with
      | tup s t => exact (ht ⟨_, _, e1⟩).elim
      | rol s t => exact ⟨_, _, rfl, s.seq, q1 _ ρ1 H1 (List.prefix_refl _) (TP.refl H1) h1 (wk_enumR s t)⟩
      | ref ea =>
        simp only at q1
        split at q1
        · rename_i ds h2
          obtain ⟨vs, b1, b2⟩ := h1.lst h2 ea
          exact ⟨_, _, rfl, SqL.of b1, q1 _ ρ1 H1 (List.prefix_refl _) (TP.refl H1) h1 (wk_enumL ea)⟩
        · exact q1.elim
      | _ => exact q1.elim
/-! zip of two tuples, of two lists -/
def zipD : List D → List D → List D
  | d :: ds, e :: es => .tup [d, e] :: zipD ds es
  | _, _ => []
theorem zipD_len : ∀ (ds es : List D), (zipD ds es).length = min ds.length es.length
  | [], _ => by simp [zipD]
  | _ :: _, [] => by simp [zipD]
  | d :: ds, e :: es => by simp only [zipD, List.length_cons, zipD_len ds es]; omega
theorem zipD_get : ∀ (ds es : List D) (i : Nat) (x : D), (zipD ds es)[i]? = some x → ∃ d e, ds[i]? = some d ∧ es[i]? = some e ∧ x = .tup [d, e]
  | [], _, i, x, h => by simp [zipD] at h
  | _ :: _, [], i, x, h => by simp [zipD] at h
  | d :: ds, e :: es, 0, x, h => by simp [zipD] at h; exact ⟨d, e, rfl, rfl, h.symm⟩
  | d :: ds, e :: es, i + 1, x, h => by
    obtain ⟨a, b, h1, h2, h3⟩ := zipD_get ds es i x (by simpa [zipD] using h)
    exact ⟨a, b, by simpa using h1, by simpa using h2, h3⟩
theorem pairVR2 {T : Addr} {d e : D} {x y : V} (n : H T = none) (r : VR g ρ H d x) (q : VR g ρ H e y) : VR g ρ (upd H T (.tup [x, y])) (.tup [d, e]) (.ref T) :=
  .tup (.inl upd_same) ((VRs.cons r (.cons q .nil)).mono (List.prefix_refl _) (TP.new n))
theorem wk_zipT {ds es : List D} {a b : Addr} {vs us : List V} (s : SqT g.K H a vs) (t : VRs g ρ H ds vs) (s2 : SqT g.K H b us) (t2 : VRs g ρ H es us) : Wk g ρ H ⟨zipD ds es, none⟩ (ItzT g.K a b) where
  go := fun i ρ' L' H' hi p tt _ _ => by
    have e1 := t.length
    have e2 := t2.length
    rw [zipD_len] at hi
    exact ⟨vs, us, vs[i]'(by omega), us[i]'(by omega), tt.rd s, tt.rd s2, by simp, by simp⟩
  stop := fun ρ' L' H' p tt _ _ => ⟨vs, us, tt.rd s, tt.rd s2, by rw [← t.length, ← t2.length, zipD_len]; omega⟩
  yld := fun i d ρ' L' H' x H2 e p tt hh _ y => by
    obtain ⟨T, z, z2, rfl, hT, rfl, y, y2⟩ := y
    obtain ⟨d1, d2, e1, e2, rfl⟩ := zipD_get ds es i d e
    obtain ⟨v, ev, r⟩ := t.get e1
    obtain ⟨v2, ev2, r2⟩ := t2.get e2
    have z1 := y vs (tt.rd s)
    rw [ev] at z1
    cases z1
    have z2 := y2 us (tt.rd s2)
    rw [ev2] at z2
    cases z2
    exact ⟨TP.new hT, hh.fresh hT _, pairVR2 hT (r.mono p tt) (r2.mono p tt)⟩
def mZip (a b : ME) : MI := fun ε L => (a ε L).bind fun x L1 => (b ε L1).bind fun y L2 => match x, y with
  | .tup ds, .tup es => .ok ⟨zipD ds es, none⟩ L2
  | _, _ => .bad
theorem si_zip {elts : List Expr} {kk : Nat} {tpos p pos : Pos} {e e2 : Expr} {a b : ME} (hg : Gl X "zip") (hm : X.mg "zip" = none) (h : PA X [e, e2] (tCons (tM ⟨X.K, cm, fx⟩ W a) (tCons (tM ⟨X.K, cm, fx⟩ W b) tNil))) (hs : starEach [e, e2] X.env = (false, eval e X.env) :: starEach [e2] X.env := by rfl) (hpl : (backTo pos (starEach [e2] X.env)).any (·.1) = false := by rfl) :
    PI X (.Tuple elts kk tpos) (.Call (.Name "zip" p) [e, e2] [] pos) (tMI ⟨X.K, cm, fx⟩ W (mZip a b)) :=
  (pi_zipA hg hm h hs hpl).imp fun σ H R q => by
    obtain ⟨ε, ρ, L, he, hh, q⟩ := q
    refine ⟨ε, ρ, L, he, hh, Lf.bind q fun x L1 v ρ1 H1 e1 p1 t1 h1 r1 q1 => ?_⟩
    refine ⟨ε, ρ1, L1, he.mono p1 t1, h1, Lf.bind q1 fun y L2 u ρ2 H2 e2 p2 t2 h2 r2 q2 => ?_⟩
    split at q2
    · cases r1 with
      | tup s t =>
        cases r2 with
        | tup s2 tt2 => exact ⟨_, _, _, _, rfl, .inr ⟨t2.rd s.sq, s2.sq, q2 _ ρ2 H2 (List.prefix_refl _) (TP.refl H2) h2 (wk_zipT (t2.rd s.sq) (t.mono p2 t2) s2.sq tt2)⟩⟩
    · exact q2.elim
/-! reversed(list) -/
theorem wk_rev {ds : List D} {n : Nat} {a : Addr} (ea : ρ[n]? = some a) : Wk g ρ H ⟨ds.reverse, some (n, .lst ds)⟩ (Itv g.K a ds.length) where
  go := fun i ρ' L' H' hi p tt hh ok => by
    obtain ⟨vs, b1, b2⟩ := hh.lst (of_decide_eq_true ok) (pre_get p ea)
    have := b2.length
    rw [List.length_reverse] at hi
    exact ⟨hi, vs, vs[ds.length - 1 - i]'(by omega), SqL.of b1, by simp⟩
  stop := fun ρ' L' H' p tt hh ok => by show ds.length ≤ _; rw [List.length_reverse]; exact Nat.le_refl _
  yld := fun i d ρ' L' H' x H2 e p tt hh ok y => by
    obtain ⟨rfl, y⟩ := y
    obtain ⟨vs, b1, b2⟩ := hh.lst (of_decide_eq_true ok) (pre_get p ea)
    have hi : i < ds.length := by
      obtain ⟨q, _⟩ := List.getElem?_eq_some_iff.mp e
      rwa [List.length_reverse] at q
    rw [List.getElem?_reverse hi] at e
    obtain ⟨v, ev, r⟩ := b2.get e
    have := y vs (SqL.of b1)
    rw [ev] at this
    cases this
    exact ⟨TP.refl _, hh, r⟩
def mRev (a : ME) : MI := fun ε L => (a ε L).bind fun x L1 => match x with
  | .ref n => match L1[n]? with
    | some (.lst ds) => .ok ⟨ds.reverse, some (n, .lst ds)⟩ L1
    | _ => .bad
  | _ => .bad
theorem si_rev {tg e : Expr} {p pos : Pos} {a : ME} (hg : Gl X "reversed") (hm : X.mg "reversed" = none) (h : PA X [e] (tCons (tM ⟨X.K, cm, fx⟩ W a) tNil)) (hs : starEach [e] X.env = [(false, eval e X.env)] := by rfl) :
    PI X tg (.Call (.Name "reversed" p) [e] [] pos) (tMI ⟨X.K, cm, fx⟩ W (mRev a)) :=
  (pi_reversed hg hm h hs).imp fun σ H R q => by
    obtain ⟨ε, ρ, L, he, hh, q⟩ := q
    refine ⟨ε, ρ, L, he, hh, Lf.bind q fun x L1 v ρ1 H1 e1 p1 t1 h1 r1 q1 => ?_⟩
    split at q1
    · cases r1 with
      | ref ea =>
        split at q1
        · rename_i ds h2
          obtain ⟨vs, b1, b2⟩ := h1.lst h2 ea
          have e3 := q1 _ ρ1 H1 (List.prefix_refl _) (TP.refl H1) h1 (wk_rev ea)
          rw [b2.length] at e3
          exact ⟨_, _, rfl, SqL.of b1, e3⟩
        · exact q1.elim
    · exact q1.elim
end Tw
end

section
set_option Elab.async false
set_option linter.all false
set_option maxRecDepth 100000
set_option maxHeartbeats 1000000
/-! Tw, part M: own __eq__ (== and !=), own __len__, __contains__; instances made with keywords, defaults; class constants. -/
namespace PySem.W
open PySem
variable {prog : Program} {w : World} {A : Around} {E : Value → Shared → Prop} {s : Shared} {K : Frag} {x C L f : Addr} {h₀ : Heap} {m : Str → Option Value} {ox : Obj} {od : Option Obj} {name : Str} {b tb : Value}
theorem tw_ifBoundB {M : Model} {id T : String} {args : List Value} {Q : Option Value → Shared → Prop} (X : K.In s.heap) (I : InstAt s.heap x ox C od) (hs : findIn K (.ref C) name = some (some (.builtin id))) (S : Slot T name id)
    (h : wpAny M A (call (.builtin id) (.ref x :: args)) (fun v => Q (some v)) E s) : wpAny M A (callSpecialIfBound? (.ref x) name args) Q E s := by
  simp only [callSpecialIfBound?, bindSpecialIfBound?]
  refine wpAny_holding (wpAny_bind (wpAny_bind (wpAny_bind (I.type.here ((looks_findIn X hs).here ?_)))))
  simp only [S.bind]
  refine wpAny_bind (wpAny_askSetting (wpAny_ite ?_))
  have fin : wpAny M A (call (.builtin id) ([.ref x] ++ args) >>= fun v => pure (some v)) Q E s := wpAny_bind (wpAny_mono h (fun v s' h' => wpAny_pure h') fun _ _ h' => h')
  split
  · exact wpAny_bind (wpAny_pure (by exact wpAny_pure fin))
  · exact wpAny_tryCatch (wpAny_bind (wpAny_pure (by exact wpAny_pure fin)))
open Builtin in
/-- x != b by an own __eq__ (object.__ne__) -/
theorem tw_ne {Q : Value → Shared → Prop} (hu : A.units < cLine) (hu1 : A.in1.units < cLine) (X : K.In s.heap) (I : InstAt s.heap x ox C od) (hb : Looks (model prog w) s.heap (typeOf b) tb) (hn : notFirst K C tb = true)
    (hne : findIn K (.ref C) "__ne__" = some (some (.builtin "object.__ne__"))) (hm : mroIn K C (.type "object") = some true) (hs : findIn K (.ref C) "__eq__" = some (some (.ref f))) (hf : isFn K (.ref f) = true)
    (h : wpAny (model prog w) A.in1 (call (.ref f) [.ref x, b]) (fun v s' => ∃ k, v = .bool k ∧ Q (.bool (!k)) s') E s) : wpAny (model prog w) A (richCompare .NotEq (.ref x) b) Q E s := by
  have one : wpAny (model prog w) A (tryCompare (.ref x) "__ne__" b) (fun r s' => ∃ v, r = some v ∧ Q v s') E s := by
    unfold tryCompare
    refine wpAny_bind (tw_ifBoundB X I hne PySem.F.cmp_object.ne (wpAny_call (codeAny_call_builtin PySem.F.cmp_object.ne.plain PySem.F.cmpEntry_ne (check_slot (i := "object.__ne__") (owner := "object") (n := "__ne__") (by decide +kernel) (by decide +kernel) (I.type.andThen (looks_mroIn X hm)) (PySem.F.cmpArgs_ne _ _) ?_))))
    unfold Builtin.«object.__ne__»
    refine wpAny_bind (m := slotArgs "__ne__" 1 _) (wpAny_pure ?_)
    refine wpAny_bind (m := cRoomFor _ _) (wpAny_cRoomFor hu1 ?_)
    refine wpAny_bind (m := callSpecialIfBound? (.ref x) (Str.ofString "__eq__") _) (ifBound_K X I hs hf (wpAny_mono h (fun r s' hq => ?_) fun _ _ y => y))
    obtain ⟨k, rfl, hq⟩ := hq
    refine wpAny_bind (m := truthy (.bool k)) (wpAny_truthy_bool ?_)
    exact wpAny_pure (wpAny_pure ⟨_, rfl, hq⟩)
  unfold richCompare
  simp only [oneThing_ref]
  refine wpAny_holding (wpAny_bind (wpAny_cRoomFor hu ?_))
  rw [cmpInfo_NotEq]
  dsimp only
  refine wpAny_bind (I.type.here (wpAny_bind (hb.here ?_)))
  split
  · rename_i q
    have e : subIn K tb (.ref C) = some false := by
      rcases Bool.or_eq_true_iff.mp hn with e | e
      · rw [beq_iff_eq.mp e] at q; simp at q
      · exact beq_iff_eq.mp e
    refine wpAny_bind ((looks_subIn X e).here ?_)
    simp only [Bool.false_eq_true, if_false]
    refine wpAny_bind (wpAny_mono one (fun r s' z => ?_) fun _ _ e => e)
    obtain ⟨v, rfl, hq⟩ := z
    exact wpAny_pure hq
  · refine wpAny_bind (wpAny_pure ?_)
    simp only [Bool.false_eq_true, if_false]
    refine wpAny_bind (wpAny_mono one (fun r s' z => ?_) fun _ _ e => e)
    obtain ⟨v, rfl, hq⟩ := z
    exact wpAny_pure hq
end PySem.W
namespace Tw
open PySem PySem.Spec L2
variable {g : Gx} {ρ ρ' : List Addr} {H H' : Hp} {X : Cx} {W : WX} {L : List O} {cm : Nat → Addr} {fx : Hp}
theorem run_own {A : Around} {k n : Nat} {f : Addr} {fd : FuncData} {ps : List Str} {F : FS} {pins : List (Addr × Obj)} {σ : L2.St} {s : Shared} {Q : VK} {us : List Value} {vs : List V} (sb : L2.Sub X k A) (G : FnF X.prog X.w X.K X.mg X.base cm k f fd ps F) (hb : Binds X.K fd ps []) (hn : ps.length = n)
    (I : Inv X pins σ H s) (r : Vals vs us) (q : spF X.K cm n F vs H Q L2.E0) : wpAny (model X.prog X.w) A (call (.ref f) us) (EP X pins σ Q) X.xe s := by
  subst hn
  have e0 : Env0 X.prog X.w X.K X.mg X.base A X.stack s H := by
    have e := I.env0
    exact ⟨by rw [sb.fr]; exact e.frames, e.mod, e.bs, e.bsz, e.funs, e.frf, e.hok, e.bare⟩
  have hl : us.length = ps.length := r.length.symm.trans (G.len _ _ _ _ q)
  refine wpAny_call (codeAny_mono (G.run A X.stack s H ⟨us, []⟩ us vs Q L2.E0 sb.room e0 (by
    have := hb s us I.kIn (by simpa using hl)
    simpa using this) r q) fun r s' hq => ?_)
  cases r with
  | error e => exact passL pins σ H s e s' I hq
  | ok fl =>
    cases fl with
    | ret w => exact I.after hq
    | next => exact False.elim hq
    | brk => exact False.elim hq
    | cont => exact False.elim hq
theorem sub_self {k : Nat} (hr : Room k X.A) : L2.Sub X k X.A := ⟨hr, rfl⟩
theorem sub_in1 {k : Nat} (hr : Room (k + 1) X.A) : L2.Sub X k X.A.in1 := L2.Sub.in1 (sub_self hr)
/-- a call of an own special by the interpreter: it gives a value, or is not asked here -/
def outB (r : Rs D) : Option (Bool × List O) := match r with
  | .ok (.bl b) L => some (b, L)
  | _ => none
theorem outB_sp {n : Nat} {F : FS} {ds : List D} {vs : List V} {L' : List O} {b : Bool} {Q : VK} (hh : HR g ρ L H) (r : VRs g ρ H ds vs) (hn : ds.length = n) (e : outB (F ds L) = some (b, L')) (q : ∀ v ρ' H', ρ <+: ρ' → TP H H' → HR g ρ' L' H' → VR g ρ' H' (.bl b) v → Q v H') : spF g.K g.cm n F vs H Q L2.E0 := by
  refine ⟨r.length.symm.trans hn, g.fx, ρ, L, ds, hh, r, ?_⟩
  unfold outB at e
  split at e
  · rename_i h
    cases e
    rw [h]
    exact q
  · cases e
def tagOk (c : Nat) : Tag → Bool
  | .ins c' => decide (c' = c)
  | _ => true
theorem tag_first {t : Tag} {c : Nat} {K : PySem.W.Frag} (h : tagOk c t = true) : PySem.W.notFirst K (cm c) (tagV cm t) = true := by
  unfold PySem.W.notFirst
  cases t with
  | ins c' =>
    have : c' = c := of_decide_eq_true h
    subst this
    simp [tagV]
  | _ => exact Bool.or_eq_true_iff.mpr (.inr (by rfl))
/-- x == y, x of the class c -/
def eqI (c : Nat) (F : FS) (x y : D) (L : List O) : Option (Bool × List O) := match tagD L y with
  | some t => if tagOk c t = true then outB (F [x, y] L) else none
  | none => none
def isCls (c : Nat) (L : List O) : D → Bool
  | .ref n => match L[n]? with
    | some (.ins c' _) => decide (c' = c)
    | _ => false
  | _ => false
theorem isCls_ok {c : Nat} {x : D} {v : V} (hh : HR g ρ L H) (r : VR g ρ H x v) (e : isCls c L x = true) : ∃ a dx fs, v = .ref a ∧ H a = some (.ins (g.cm c) dx fs) := by
  unfold isCls at e
  cases r with
  | ref ea =>
    simp only at e
    split at e
    · rename_i c' fs h1
      obtain rfl : c' = c := of_decide_eq_true e
      obtain ⟨dx, vs, e3, fr⟩ := hh.ins h1 ea
      exact ⟨_, dx, vs, rfl, e3⟩
    · cases e
  | _ => cases e
def oEqI (c : Nat) (F : FS) : O2 := fun x y L => if isCls c L x = true then (eqI c F x y L).map fun p => (.bl p.1, p.2) else oEq x y L
def oNeI (c : Nat) (F : FS) : O2 := fun x y L => if isCls c L x = true then (eqI c F x y L).map fun p => (.bl (!p.1), p.2) else oNe x y L
theorem op_oEqI {c k : Nat} {F : FS} (hu : X.A.units + 64 < cLine) (h : MtI X.prog X.w X.K X.mg X.base cm c "__eq__" k 2 F) (hi : InsTy X.K (cm c)) (hr : Room k X.A) : OpR X (compareOp .Eq) (rM ⟨X.K, cm, fx⟩ (oEqI c F)) := by
  intro pins s σ H x y v u Q I rx ry q
  obtain ⟨ρ, L, d, e, hh, r1, r2, q⟩ := q
  unfold oEqI at q
  split at q
  · rename_i hc
    obtain ⟨a, dx, fs, rfl, ha⟩ := isCls_ok hh r1 hc
    obtain rfl : v = Value.ref a := rx
    cases he : eqI c F d e L with
    | none => rw [he] at q; exact q.elim
    | some p =>
      obtain ⟨b, L'⟩ := p
      rw [he] at q
      unfold eqI at he
      split at he
      · rename_i t ht
        split at he
        · rename_i hok
          obtain ⟨f, fd, ps, hm, hcl, hb, hps, G⟩ := h.ex
          obtain ⟨mA, J, _⟩ := ins_get I.hok ha
          obtain ⟨od, J, _⟩ := J.look
          obtain ⟨m, hF⟩ := I.fr
          have hty := tag_ok hh r2 ht (fun c' hc' => by
            subst hc'
            have : c' = c := of_decide_eq_true hok
            subst this; exact hi)
          obtain ⟨Pt, kx, hP, _⟩ := kit_of I ry hty
          show wpAny _ _ (richCompare .Eq _ _) _ _ _
          refine PySem.W.cmp_K (op := .Eq) hr.units0 hF I.ok.mod.kin J (kx.ty _ _ I.kIn hP) (tag_first hok) hm.at_ hm.fn ?_
          refine wpAny_mono (run_own (vs := [V.ref a, y]) (sub_self hr) G hb hps I (.cons rfl (.cons ry .nil)) (outB_sp hh (.cons r1 (.cons r2 .nil)) rfl he (fun v ρ' H' p t h r => q v ρ' H' p t h r))) (fun w s' z => ?_) fun _ _ x => x
          obtain ⟨z', H', I', rz, qz⟩ := z
          exact SlX.cmpback rz ⟨z', H', I', rz, qz⟩
        · cases he
      · cases he
  · exact op_oEq hu pins s σ H x y v u Q I rx ry ⟨ρ, L, d, e, hh, r1, r2, q⟩
theorem op_oNeI {c k : Nat} {F : FS} (hu : X.A.units + 64 < cLine) (h : MtI X.prog X.w X.K X.mg X.base cm c "__eq__" k 2 F) (hi : InsTy X.K (cm c)) (hne : PySem.W.findIn X.K (.ref (cm c)) "__ne__" = some (some (.builtin "object.__ne__"))) (hr : Room (k + 1) X.A) : OpR X (compareOp .NotEq) (rM ⟨X.K, cm, fx⟩ (oNeI c F)) := by
  intro pins s σ H x y v u Q I rx ry q
  obtain ⟨ρ, L, d, e, hh, r1, r2, q⟩ := q
  unfold oNeI at q
  split at q
  · rename_i hc
    obtain ⟨a, dx, fs, rfl, ha⟩ := isCls_ok hh r1 hc
    obtain rfl : v = Value.ref a := rx
    cases he : eqI c F d e L with
    | none => rw [he] at q; exact q.elim
    | some p =>
      obtain ⟨b, L'⟩ := p
      rw [he] at q
      unfold eqI at he
      split at he
      · rename_i t ht
        split at he
        · rename_i hok
          obtain ⟨f, fd, ps, hm, hcl, hb, hps, G⟩ := h.ex
          obtain ⟨mA, J, _⟩ := ins_get I.hok ha
          obtain ⟨od, J, _⟩ := J.look
          have hty := tag_ok hh r2 ht (fun c' hc' => by
            subst hc'
            have : c' = c := of_decide_eq_true hok
            subst this; exact hi)
          obtain ⟨Pt, kx, hP, _⟩ := kit_of I ry hty
          show wpAny _ _ (richCompare .NotEq _ _) _ _ _
          refine PySem.W.tw_ne hr.units0 (Room.units0 hr.in1) I.kIn J (kx.ty _ _ I.kIn hP) (tag_first hok) hne hi.hm hm.at_ hm.fn ?_
          refine wpAny_mono (run_own (vs := [V.ref a, y]) (Q := fun v H' => v = .bl b ∧ Q (.bl (!b)) H') (sub_in1 hr) G hb hps I (.cons rfl (.cons ry .nil)) (outB_sp hh (.cons r1 (.cons r2 .nil)) rfl he (fun v ρ' H' p t h r => ?_))) (fun w s' z => ?_) fun _ _ x => x
          · cases r
            exact ⟨rfl, q _ ρ' H' p t h (.bl _)⟩
          · obtain ⟨z', H', I', rz, ez, qz⟩ := z
            subst ez
            obtain rfl : w = Value.bool b := rz
            exact ⟨b, rfl, .bl (!b), H', I', rfl, qz⟩
        · cases he
      · cases he
  · exact op_oNe hu pins s σ H x y v u Q I rx ry ⟨ρ, L, d, e, hh, r1, r2, q⟩
end Tw
end

section
set_option Elab.async false
set_option linter.all false
set_option maxRecDepth 100000
set_option maxHeartbeats 1000000
/-! Tw, part N: own __len__, __contains__; instances made with keywords, defaults; class constants. -/
namespace Tw
open PySem PySem.Spec L2
variable {g : Gx} {ρ ρ' : List Addr} {H H' : Hp} {X : Cx} {W : WX} {L : List O} {cm : Nat → Addr} {fx : Hp}

/-! ### len(x), x in o by own methods -/
def outI (r : Rs D) : Option (Int × List O) := match r with
  | .ok (.int n) L => if 0 ≤ n ∧ n ≤ 1000000 then some (n, L) else none
  | _ => none
def cLenI (c : Nat) (F : FS) : OC := fun ds L => match ds with
  | [x] => if isCls c L x = true then (outI (F [x] L)).map fun p => (.int p.1, p.2) else cLen [x] L
  | _ => none
theorem c_lenI {c k : Nat} {F : FS} (h : MtI X.prog X.w X.K X.mg X.base cm c "__len__" k 1 F) (hr : Room (k + 1) X.A) : CallR X (.builtin "len") (rC ⟨X.K, cm, fx⟩ (cLenI c F)) := by
  intro pins s σ H xs us Q I r q
  obtain ⟨ρ, L, ds, hh, rr, q⟩ := q
  unfold cLenI at q
  split at q
  · rename_i x
    split at q
    · rename_i hc
      obtain ⟨v, rfl, rv⟩ := rr.one
      obtain ⟨a, dx, fs, rfl, ha⟩ := isCls_ok hh rv hc
      obtain ⟨u, rfl, ru⟩ := r.one
      obtain rfl : u = Value.ref a := ru
      cases he : outI (F [x] L) with
      | none => rw [he] at q; exact q.elim
      | some p =>
        obtain ⟨n, L'⟩ := p
        rw [he] at q
        unfold outI at he
        split at he
        · rename_i n' L2 hF
          split at he
          · rename_i hz
            cases he
            obtain ⟨f, fd, ps, hm, hcl, hb, hps, G⟩ := h.ex
            obtain ⟨mA, J, _⟩ := ins_get I.hok ha
            obtain ⟨od, J, _⟩ := J.look
            obtain ⟨m, hFr⟩ := I.fr
            refine PySem.W.len_K hFr I.ok.mod.kin J hm.at_ hm.fn ?_
            have sp : spF X.K cm 1 F [V.ref a] H (fun v H' => v = .int n ∧ Q (.int n) H') L2.E0 := by
              refine ⟨rfl, fx, ρ, L, [x], hh, .cons rv .nil, ?_⟩
              rw [hF]
              intro v ρ' H' p t h r
              cases r
              exact ⟨rfl, q _ ρ' H' p t h (.int _)⟩
            refine wpAny_mono (run_own (vs := [V.ref a]) (sub_in1 hr) G hb hps I (.cons rfl .nil) sp) (fun w s' z => ?_) fun _ _ x => x
            obtain ⟨z', H', I', rz, ez, qz⟩ := z
            subst ez
            obtain ⟨t, rfl⟩ := (show ∃ t, w = Value.int n t from rz)
            exact ⟨⟨hz.1, by omega⟩, .int n, H', I'.tok _, ⟨_, rfl⟩, qz⟩
          · cases he
        · cases he
    · exact c_len pins s σ H xs us Q I r ⟨ρ, L, [x], hh, rr, q⟩
  · exact q.elim
def inI (c : Nat) (F : FS) (x y : D) (L : List O) : Option (Bool × List O) := if isCls c L y = true then outB (F [y, x] L) else (inD L x y).map fun b => (b, L)
def oInI (c : Nat) (F : FS) : O2 := fun x y L => (inI c F x y L).map fun p => (.bl p.1, p.2)
def oNotInI (c : Nat) (F : FS) : O2 := fun x y L => (inI c F x y L).map fun p => (.bl (!p.1), p.2)
theorem run_in {c k : Nat} {F : FS} {x y : D} {b : Bool} {L' : List O} {pins : List (Addr × Obj)} {σ : L2.St} {s : Shared} {a : Addr} {v : V} {vv : Value} {R : Bool → Value} {hR : ∀ b, RelV (.bl b) (.bool b)} {Q : VK} {f : Bool → Bool} (h : MtI X.prog X.w X.K X.mg X.base cm c "__contains__" k 2 F) (hr : Room k X.A) (I : Inv X pins σ H s)
    (hh : HR ⟨X.K, cm, fx⟩ ρ L H) (ry : VR ⟨X.K, cm, fx⟩ ρ H y (.ref a)) (rx : VR ⟨X.K, cm, fx⟩ ρ H x v) (rv : RelV v vv) (he : outB (F [y, x] L) = some (b, L')) (q : ∀ ρ' H', ρ <+: ρ' → TP H H' → HR ⟨X.K, cm, fx⟩ ρ' L' H' → Q (.bl (f b)) H') :
    ∃ g, PySem.W.findIn X.K (.ref (cm c)) "__contains__" = some (some (.ref g)) ∧ PySem.W.isFn X.K (.ref g) = true ∧ wpAny (model X.prog X.w) X.A (call (.ref g) [.ref a, vv]) (fun r s' => wpAny (model X.prog X.w) X.A (truthy r) (fun b => EP X pins σ Q (.bool (f b))) X.xe s') X.xe s := by
  obtain ⟨g, fd, ps, hm, hcl, hb, hps, G⟩ := h.ex
  refine ⟨g, hm.at_, hm.fn, ?_⟩
  refine wpAny_mono (run_own (vs := [V.ref a, v]) (Q := fun v H' => v = .bl b ∧ Q (.bl (f b)) H') (sub_self hr) G hb hps I (.cons rfl (.cons rv .nil)) (outB_sp hh (.cons ry (.cons rx .nil)) rfl he (fun v ρ' H' p t h r => ?_))) (fun w s' z => ?_) fun _ _ x => x
  · cases r
    exact ⟨rfl, q ρ' H' p t h⟩
  · obtain ⟨z', H', I', rz, ez, qz⟩ := z
    subst ez
    obtain rfl : w = Value.bool b := rz
    exact wpAny_truthy_bool ⟨.bl (f b), H', I', rfl, qz⟩
theorem op_oInI {c k : Nat} {F : FS} (hu : X.A.units + 65 < cLine) (h : MtI X.prog X.w X.K X.mg X.base cm c "__contains__" k 2 F) (hr : Room k X.A) : OpR X (compareOp .In) (rM ⟨X.K, cm, fx⟩ (oInI c F)) := by
  intro pins s σ H x y v u Q I rx ry q
  obtain ⟨ρ, L, d, e, hh, r1, r2, q⟩ := q
  unfold oInI inI at q
  split at q
  · rename_i hc
    obtain ⟨a, dx, fs, rfl, ha⟩ := isCls_ok hh r2 hc
    obtain rfl : u = Value.ref a := ry
    cases he : outB (F [e, d] L) with
    | none => rw [he] at q; exact q.elim
    | some p =>
      obtain ⟨b, L'⟩ := p
      rw [he] at q
      obtain ⟨mA, J, _⟩ := ins_get I.hok ha
      obtain ⟨od, J, _⟩ := J.look
      obtain ⟨m, hFr⟩ := I.fr
      obtain ⟨g, h1, h2, h3⟩ := run_in (R := fun b => .bool b) (hR := fun _ => rfl) (f := id) h hr I hh r2 r1 rx he (fun ρ' H' p t h => q _ ρ' H' p t h (.bl _))
      exact PySem.W.in_K hFr I.ok.mod.kin J h1 h2 h3
  · refine op_oIn hu pins s σ H x y v u Q I rx ry ⟨ρ, L, d, e, hh, r1, r2, ?_⟩
    unfold oIn
    cases hd : inD L d e with
    | none => rw [hd] at q; exact q.elim
    | some b => rw [hd] at q; exact q
theorem op_oNotInI {c k : Nat} {F : FS} (hu : X.A.units + 65 < cLine) (h : MtI X.prog X.w X.K X.mg X.base cm c "__contains__" k 2 F) (hr : Room k X.A) : OpR X (compareOp .NotIn) (rM ⟨X.K, cm, fx⟩ (oNotInI c F)) := by
  intro pins s σ H x y v u Q I rx ry q
  obtain ⟨ρ, L, d, e, hh, r1, r2, q⟩ := q
  unfold oNotInI inI at q
  split at q
  · rename_i hc
    obtain ⟨a, dx, fs, rfl, ha⟩ := isCls_ok hh r2 hc
    obtain rfl : u = Value.ref a := ry
    cases he : outB (F [e, d] L) with
    | none => rw [he] at q; exact q.elim
    | some p =>
      obtain ⟨b, L'⟩ := p
      rw [he] at q
      obtain ⟨mA, J, _⟩ := ins_get I.hok ha
      obtain ⟨od, J, _⟩ := J.look
      obtain ⟨m, hFr⟩ := I.fr
      obtain ⟨g, h1, h2, h3⟩ := run_in (R := fun b => .bool b) (hR := fun _ => rfl) (f := fun b => !b) h hr I hh r2 r1 rx he (fun ρ' H' p t h => q _ ρ' H' p t h (.bl _))
      exact PySem.W.notIn_K hFr I.ok.mod.kin J h1 h2 h3
  · refine op_oNotIn hu pins s σ H x y v u Q I rx ry ⟨ρ, L, d, e, hh, r1, r2, ?_⟩
    unfold oNotIn
    cases hd : inD L d e with
    | none => rw [hd] at q; exact q.elim
    | some b => rw [hd] at q; exact q

/-! ### instances made with defaults, keywords -/
/-- the class c by its name, its __init__, the positional defaults dd -/
structure CdI (P : Program) (w : World) (K : PySem.W.Frag) (mg : Str → Option Value) (base : Heap) (cm : Nat → Addr) (x : Str) (c k n : Nat) (dd : List D) (F : FS) : Prop where
  ex : ∃ (f : Addr) (fd : FuncData) (ps : List Str) (ds : List Value) (dvs : List V), mg x = some (.ref (cm c)) ∧ Mk K (cm c) f ∧ Binds K fd ps ds ∧ Vals dvs ds ∧ (∀ fx ρ H, VRs ⟨K, cm, fx⟩ ρ H dd dvs) ∧ ps.length = n ∧ FnF P w K mg base cm k f fd ps F
/-- the class c by its name, its __init__ called with n values and the keywords ks; gD puts them in their order -/
structure CkI (P : Program) (w : World) (K : PySem.W.Frag) (mg : Str → Option Value) (base : Heap) (cm : Nat → Addr) (x : Str) (c k n : Nat) (ks : List Str) (gD : List D → List D → List D) (N : Nat) (F : FS) : Prop where
  ex : ∃ (f : Addr) (fd : FuncData) (ps : List Str) (gg : List Value → List Value → List Value) (gV : List V → List V → List V), mg x = some (.ref (cm c)) ∧ Mk K (cm c) f ∧ KBn K fd ps (n + 1) ks gg gV ∧
    (∀ fx ρ H ds vs es zs, VRs ⟨K, cm, fx⟩ ρ H ds vs → VRs ⟨K, cm, fx⟩ ρ H es zs → VRs ⟨K, cm, fx⟩ ρ H (gD ds es) (gV vs zs)) ∧ ps.length = N ∧ FnF P w K mg base cm k f fd ps F
def mMadeG (c : Nat) (F : FS) (f : D → List D) (L : List O) : Rs D := (F (f (.ref L.length)) (L ++ [.ins c []])).bind fun d L' => match d with
  | .non => .ok (.ref L.length) L'
  | _ => .bad
theorem madeG_sp {n c : Nat} {F : FS} {f : D → List D} {fV : V → List V} {σ : L2.St} {Q : VK} (hh : HR g ρ L H) (r : ∀ ρ' H' x, ρ <+: ρ' → TP H H' → VR g ρ' H' (.ref L.length) (.ref x) → VRs g ρ' H' (f (.ref L.length)) (fV (.ref x))) (q : LfD g ρ H σ W (mMadeG c F f L) Q) {x dx : Addr} (hn : (fV (.ref x)).length = n) (nx : H x = none) (nd : H dx = none) (ne : dx ≠ x) :
    spF g.K g.cm n F (fV (.ref x)) (upd (upd H dx (.own x)) x (.ins (g.cm c) dx [])) (fun v H2 => v = .non ∧ Q (.ref x) H2) (EW W σ) := by
  have nx' : upd H dx (.own x) x = none := by rw [upd_ne (Ne.symm ne)]; exact nx
  have t1 : TP H (upd H dx (.own x)) := TP.new nd
  have t2 := t1.trans (TP.new (o := .ins (g.cm c) dx []) nx')
  have h2 := (hh.fresh nd (.own x)).new nx' (u := .ins (g.cm c) dx []) (o := .ins c []) ⟨dx, [], upd_same, .nil⟩
  have ex : (ρ ++ [x])[L.length]? = some x := by rw [← hh.len]; simp
  refine ⟨hn, g.fx, ρ ++ [x], L ++ [.ins c []], f (.ref L.length), h2, r _ _ _ (pre_snoc _ _) t2 (.ref ex), ?_⟩
  unfold mMadeG at q
  cases hF : F (f (.ref L.length)) (L ++ [.ins c []]) with
  | ok d L' =>
    rw [hF] at q
    intro v ρ' H' p t h rv
    cases rv with
    | non => exact ⟨rfl, q _ ρ' H' ((pre_snoc _ _).trans p) (t2.trans t) h (.ref (pre_get p ex))⟩
    | _ => exact q.elim
  | ex c' fs L' =>
    rw [hF] at q
    exact fun ρ' H' dx p t h x => q ρ' H' dx ((pre_snoc _ _).trans p) (t2.trans t) h x
  | bad => rw [hF] at q; exact q.elim
def mMakeD (c : Nat) (F : FS) (dd : List D) (args : MA) : ME := fun ε L => (args ε L).bind fun ds L1 => mMadeG c F (fun x => x :: (ds ++ dd)) L1
theorem se_makeD {cm : Nat → Addr} {fx : Hp} {x : Str} {c k n : Nat} {dd : List D} {F : FS} {e : Expr} {es : List Expr} {args : MA} {p pos : Pos} (h : CdI X.prog X.w X.K X.mg X.base cm x c k (n + 1 + dd.length) dd F) (hr : Room (k + 1) X.A) (tk : Takes X W) (ha : PA X (e :: es) (tMA ⟨X.K, cm, fx⟩ W args)) (hl : Len args n)
    (hg : Gl X x := by rfl) (hdb : (x == ("__debug__" : Str)) = false := by decide) (he : starEach (e :: es) X.env = (false, eval e X.env) :: starEach es X.env := by rfl) (hpl : (backTo pos (starEach es X.env)).any (·.1) = false := by rfl) :
    PE X (.Call (.Name x p) (e :: es) [] pos) (tM ⟨X.K, cm, fx⟩ W (mMakeD c F dd args)) := by
  obtain ⟨f, fd, ps, dvv, dvs, hm, M, hb, hd, hdd, hps, G⟩ := h.ex
  refine (pe_makeSD (E := EW W) M G hr hg hm hb hd (fun σ => pass_at tk σ) ha hdb he hpl).imp fun σ H Q q => ?_
  obtain ⟨ε, ρ, L, he, hh, q⟩ := q
  refine ⟨ε, ρ, L, he, hh, Lf.bind q fun ds L1 vs ρ1 H1 e1 p1 t1 h1 r1 q1 => fun x dx nx nd ne => ?_⟩
  refine madeG_sp (fV := fun v => v :: (vs ++ dvs)) h1 (fun ρ' H' y p t ry => .cons ry ((r1.mono p t).append (hdd _ _ _))) q1 ?_ nx nd ne
  rw [hps, List.length_cons, List.length_append, ← r1.length, hl.h _ _ _ _ e1, ← (hdd fx ρ H).length]
  omega
section
variable {CX : CXT} {k n : Nat} {f C : Addr} {fd : FuncData} {ps ks : List Str} {sp : Sp} {E : L2.St → XK} {x : Str} {p pos : Pos} {e : Expr} {es : List Expr} {kws : List Keyword} {t tk : TA} {gg : List Value → List Value → List Value} {gV : List V → List V → List V}
def tMakeKSD (C : Addr) (n m : Nat) (sp : Sp) (gV : List V → List V → List V) (E : L2.St → XK) (t tk : TA) : TE := fun σ H Q => t σ H fun vs H1 => tk σ H1 fun zs H2 => vs.length = n ∧ zs.length = m ∧ ∀ x dx, H2 x = none → H2 dx = none → dx ≠ x →
  sp (gV (.ref x :: vs) zs) (upd (upd H2 dx (.own x)) x (.ins C dx [])) (fun v H3 => v = .non ∧ Q (.ref x) H3) (E σ)
theorem run_makeKSD {E : XK} {pins : List (Addr × Obj)} {σ : L2.St} {H : Hp} {s : Shared} {Q : VK} {us ws : List Value} {vs zs : List V} (M : Mk X.K C f) (F : FnOk X.prog X.w X.K X.mg X.base CX k f fd ps sp) (hr : Room (k + 1) X.A) (hb : KBn X.K fd ps (n + 1) ks gg gV) (hx : PassesAt CX X σ E)
    (I : Inv X pins σ H s) (r : Vals vs us) (rz : Vals zs ws) (l1 : vs.length = n) (l2 : zs.length = ks.length)
    (h : ∀ x dx, H x = none → H dx = none → dx ≠ x → sp (gV (.ref x :: vs) zs) (upd (upd H dx (.own x)) x (.ins C dx [])) (fun v H2 => v = .non ∧ Q (.ref x) H2) E) :
    wpAny (model X.prog X.w) X.A (call (.ref C) us (ks.zip ws)) (EP X pins σ Q) X.xe s := by
  have hq := h (s.heap.objs.size + 1) s.heap.objs.size (I.hok.fresh (Nat.le_succ _)) (I.hok.fresh (Nat.le_refl _)) (Nat.ne_of_lt (Nat.lt_succ_self _))
  have I2 := Inv.made (C := C) I
  have r1 : Vals (V.ref (s.heap.objs.size + 1) :: vs) (Value.ref (s.heap.objs.size + 1) :: us) := .cons rfl r
  have r2 := hb.rel r1 rz
  have n1 : (Value.ref (s.heap.objs.size + 1) :: us).length = n + 1 := by
    rw [List.length_cons, ← r.length, l1]
  refine wpAny_call (make_map (f := f) I.kIn M.makes M.init (beq_iff_eq.mp M.fn) (codeAny_mono (F.run _ X.stack _ _ ⟨Value.ref (s.heap.objs.size + 1) :: us, ks.zip ws⟩ (gg (Value.ref (s.heap.objs.size + 1) :: us) ws) _ _ E (hr.make C us (ks.zip ws))
    (I2.env0.make C us (ks.zip ws)) (hb.to _ (Value.ref (s.heap.objs.size + 1) :: us) ws I2.kIn n1 (rz.length.symm.trans l2)) r2 hq) fun r s' hq' => ?_))
  cases r with
  | error e => exact hx pins _ _ e s' I2 hq'
  | ok fl =>
    cases fl with
    | ret u =>
      obtain ⟨v, H', I3, rv, ev, q3⟩ := I2.after hq'
      subst ev
      exact ⟨rv, ⟨V.ref (s.heap.objs.size + 1), H', I3, rfl, q3⟩⟩
    | next => exact False.elim hq'
    | brk => exact False.elim hq'
    | cont => exact False.elim hq'
theorem pe_makeKSD0 (M : Mk X.K C f) (F : FnOk X.prog X.w X.K X.mg X.base CX k f fd ps sp) (hr : Room (k + 1) X.A) (hg : Gl X x) (hm : X.mg x = some (.ref C)) (hb : KBn X.K fd ps 1 ks gg gV) (hx : ∀ σ, PassesAt CX X σ (E σ)) (hkw : PK X kws tk)
    (hall : (backToKw pos (keywordEach kws X.env)).all (·.1.isSome) = true := by rfl) (hks : (backToKw pos (keywordEach kws X.env)).filterMap (·.1) = ks := by rfl) (hdb : (x == ("__debug__" : Str)) = false := by decide)
    (hpl : ((backTo pos (starEach [] X.env)).any (·.1) || (backToKw pos (keywordEach kws X.env)).any (·.1.isNone)) = false := by rfl) :
    PE X (.Call (.Name x p) [] kws pos) (tMakeKSD C 0 ks.length sp gV E tNil tk) := by
  refine ⟨fun pins s σ H Q I h => ?_⟩
  refine wpAny_Call_Name_kw (ld_glob I hg hm ?_ hdb)
  refine PySem.W.callWith_KW0 (h₀ := X.base) I.ok.mod.kin M.kp hall ?_ hpl
  refine thn (hkw.run pos pins s σ H _ I h) fun ws s2 ⟨zs, H2, I2, rz, l1, l2, q2⟩ => ⟨I2.kIn, ?_⟩
  rw [hks]
  exact run_makeKSD (us := []) (vs := []) M F hr hb (hx σ) I2 .nil rz rfl l2 q2
theorem pe_makeKSD (M : Mk X.K C f) (F : FnOk X.prog X.w X.K X.mg X.base CX k f fd ps sp) (hr : Room (k + 1) X.A) (hg : Gl X x) (hm : X.mg x = some (.ref C)) (hb : KBn X.K fd ps (n + 1) ks gg gV) (hx : ∀ σ, PassesAt CX X σ (E σ)) (ha : PA X (e :: es) t) (hkw : PK X kws tk)
    (hall : (backToKw pos (keywordEach kws X.env)).all (·.1.isSome) = true := by rfl) (hks : (backToKw pos (keywordEach kws X.env)).filterMap (·.1) = ks := by rfl) (hdb : (x == ("__debug__" : Str)) = false := by decide)
    (he : starEach (e :: es) X.env = (false, eval e X.env) :: starEach es X.env := by rfl) (hpl : ((backTo pos (starEach (e :: es) X.env)).any (·.1) || (backToKw pos (keywordEach kws X.env)).any (·.1.isNone)) = false := by rfl) :
    PE X (.Call (.Name x p) (e :: es) kws pos) (tMakeKSD C n ks.length sp gV E t tk) := by
  refine ⟨fun pins s σ H Q I h => ?_⟩
  refine wpAny_Call_Name_kw (ld_glob I hg hm ?_ hdb)
  refine PySem.W.callWith_KW (h₀ := X.base) I.ok.mod.kin M.kp hall (thn (ha.run pos pins s σ H _ I h) fun us s1 ⟨vs, H1, I1, r, q⟩ => ?_) hpl he
  refine thn (hkw.run pos pins s1 σ H1 _ I1 q) fun ws s2 ⟨zs, H2, I2, rz, l1, l2, q2⟩ => ⟨I2.kIn, ?_⟩
  rw [hks]
  exact run_makeKSD M F hr hb (hx σ) I2 r rz l1 l2 q2
end
/-- the values of the keywords -/
theorem sk_nil : PK X [] (tMA g W mNil) := ⟨fun pos pins s σ H Q I q => pk_nil.run pos pins s σ H Q I (by
  obtain ⟨ε, ρ, L, he, hh, q⟩ := q
  exact q [] ρ H (List.prefix_refl _) (TP.refl H) hh .nil)⟩
theorem sk_cons {e : Expr} {kws : List Keyword} {nm : Option Str} {kpos : Pos} {a : ME} {r : MA} (ha : PE X e (tM g W a)) (hr : PK X kws (tMA g W r)) : PK X (⟨nm, e, kpos⟩ :: kws) (tMA g W (mCons a r)) := ⟨fun pos pins s σ H Q I q => (pk_cons ha hr).run pos pins s σ H Q I (by
  obtain ⟨ε, ρ, L, he, hh, q⟩ := q
  refine ⟨ε, ρ, L, he, hh, Lf.bind q fun x L1 v ρ1 H1 _ p1 t1 h1 r1 q1 => ?_⟩
  refine ⟨ε, ρ1, L1, he.mono p1 t1, h1, Lf.bind q1 fun xs L2 vs ρ2 H2 _ p2 t2 h2 r2 q2 => ?_⟩
  exact q2 _ ρ2 H2 (List.prefix_refl _) (TP.refl H2) h2 (.cons (r1.mono p2 t2) r2))⟩
def mMakeK (c : Nat) (F : FS) (gD : List D → List D → List D) (args kargs : MA) : ME := fun ε L => (args ε L).bind fun ds L1 => (kargs ε L1).bind fun es L2 => mMadeG c F (fun x => gD (x :: ds) es) L2
theorem se_makeK {cm : Nat → Addr} {fx : Hp} {x : Str} {c k n N : Nat} {ks : List Str} {gD : List D → List D → List D} {F : FS} {e : Expr} {es : List Expr} {kws : List Keyword} {args kargs : MA} {p pos : Pos} (h : CkI X.prog X.w X.K X.mg X.base cm x c k n ks gD N F) (hr : Room (k + 1) X.A) (tk : Takes X W) (ha : PA X (e :: es) (tMA ⟨X.K, cm, fx⟩ W args)) (hkw : PK X kws (tMA ⟨X.K, cm, fx⟩ W kargs)) (hl : Len args n) (hlk : Len kargs ks.length) (hN : ∀ a as bs, as.length = n → bs.length = ks.length → (gD (a :: as) bs).length = N)
    (hg : Gl X x := by rfl) (hall : (backToKw pos (keywordEach kws X.env)).all (·.1.isSome) = true := by rfl) (hks : (backToKw pos (keywordEach kws X.env)).filterMap (·.1) = ks := by rfl) (hdb : (x == ("__debug__" : Str)) = false := by decide)
    (he : starEach (e :: es) X.env = (false, eval e X.env) :: starEach es X.env := by rfl) (hpl : ((backTo pos (starEach (e :: es) X.env)).any (·.1) || (backToKw pos (keywordEach kws X.env)).any (·.1.isNone)) = false := by rfl) :
    PE X (.Call (.Name x p) (e :: es) kws pos) (tM ⟨X.K, cm, fx⟩ W (mMakeK c F gD args kargs)) := by
  obtain ⟨f, fd, ps, gg, gV, hm, M, hb, hgr, hps, G⟩ := h.ex
  refine (pe_makeKSD (E := EW W) M G hr hg hm hb (fun σ => pass_at tk σ) ha hkw hall hks hdb he hpl).imp fun σ H Q q => ?_
  obtain ⟨ε, ρ, L, he, hh, q⟩ := q
  refine ⟨ε, ρ, L, he, hh, Lf.bind q fun ds L1 vs ρ1 H1 e1 p1 t1 h1 r1 q1 => ?_⟩
  refine ⟨ε, ρ1, L1, he.mono p1 t1, h1, Lf.bind q1 fun es L2 zs ρ2 H2 e2 p2 t2 h2 r2 q2 => ?_⟩
  refine ⟨by rw [← r1.length, hl.h _ _ _ _ e1], by rw [← r2.length, hlk.h _ _ _ _ e2], fun x dx nx nd ne => ?_⟩
  refine madeG_sp (fV := fun v => gV (v :: vs) zs) h2 (fun ρ' H' y p t ry => hgr _ _ _ _ _ _ _ (.cons ry ((r1.mono p2 t2).mono p t)) (r2.mono p t)) q2 ?_ nx nd ne
  rw [hps]
  have e3 := (hgr fx (ρ2 ++ [x]) (upd (upd H2 dx (.own x)) x (.ins (cm c) dx [])) (.ref L2.length :: ds) (.ref x :: vs) es zs (.cons (.ref (by rw [← h2.len]; simp)) ((r1.mono p2 t2).mono (pre_snoc _ _) ((TP.new nd).trans (TP.new (by rw [upd_ne (Ne.symm ne)]; exact nx))))) (r2.mono (pre_snoc _ _) ((TP.new nd).trans (TP.new (by rw [upd_ne (Ne.symm ne)]; exact nx))))).length
  rw [← e3]
  exact hN _ _ _ (hl.h _ _ _ _ e1) (hlk.h _ _ _ _ e2)
theorem se_makeK0 {cm : Nat → Addr} {fx : Hp} {x : Str} {c k N : Nat} {ks : List Str} {gD : List D → List D → List D} {F : FS} {kws : List Keyword} {kargs : MA} {p pos : Pos} (h : CkI X.prog X.w X.K X.mg X.base cm x c k 0 ks gD N F) (hr : Room (k + 1) X.A) (tk : Takes X W) (hkw : PK X kws (tMA ⟨X.K, cm, fx⟩ W kargs)) (hlk : Len kargs ks.length) (hN : ∀ a bs, bs.length = ks.length → (gD [a] bs).length = N)
    (hg : Gl X x := by rfl) (hall : (backToKw pos (keywordEach kws X.env)).all (·.1.isSome) = true := by rfl) (hks : (backToKw pos (keywordEach kws X.env)).filterMap (·.1) = ks := by rfl) (hdb : (x == ("__debug__" : Str)) = false := by decide)
    (hpl : ((backTo pos (starEach [] X.env)).any (·.1) || (backToKw pos (keywordEach kws X.env)).any (·.1.isNone)) = false := by rfl) :
    PE X (.Call (.Name x p) [] kws pos) (tM ⟨X.K, cm, fx⟩ W (mMakeK c F gD mNil kargs)) := by
  obtain ⟨f, fd, ps, gg, gV, hm, M, hb, hgr, hps, G⟩ := h.ex
  refine (pe_makeKSD0 (E := EW W) M G hr hg hm hb (fun σ => pass_at tk σ) hkw hall hks hdb hpl).imp fun σ H Q q => ?_
  obtain ⟨ε, ρ, L, he, hh, q⟩ := q
  show tMA _ _ kargs σ H _
  refine ⟨ε, ρ, L, he, hh, Lf.bind q fun es L2 zs ρ2 H2 e2 p2 t2 h2 r2 q2 => ?_⟩
  refine ⟨rfl, by rw [← r2.length, hlk.h _ _ _ _ e2], fun x dx nx nd ne => ?_⟩
  refine madeG_sp (fV := fun v => gV [v] zs) h2 (fun ρ' H' y p t ry => hgr _ _ _ _ _ _ _ (.cons ry .nil) (r2.mono p t)) q2 ?_ nx nd ne
  rw [hps]
  have e3 := (hgr fx (ρ2 ++ [x]) (upd (upd H2 dx (.own x)) x (.ins (cm c) dx [])) [.ref L2.length] [.ref x] es zs (.cons (.ref (by rw [← h2.len]; simp)) .nil) (r2.mono (pre_snoc _ _) ((TP.new nd).trans (TP.new (by rw [upd_ne (Ne.symm ne)]; exact nx))))).length
  rw [← e3]
  exact hN _ _ (hlk.h _ _ _ _ e2)
/-! ### constants of a class -/
structure CvI (K : PySem.W.Frag) (mg : Str → Option Value) (cm : Nat → Addr) (x : Str) (c : Nat) (f : Str) (d : D) : Prop where
  ex : ∃ mc v u, mg x = some (.ref (cm c)) ∧ ClX.CRead K (cm c) mc ∧ ClX.CVal K (cm c) mc f v u ∧ ∀ fx ρ H, VR ⟨K, cm, fx⟩ ρ H d v
theorem se_cval {x f : Str} {c : Nat} {d : D} {p pos : Pos} (h : CvI X.K X.mg cm x c f d) (hg : Gl X x := by rfl) (hd : (x == ("__debug__" : Str)) = false := by decide) (hb : attributeBase (.Name x p) f X.env (eval (.Name x p) X.env) = eval (.Name x p) X.env := by rfl) : PE X (.Attribute (.Name x p) f pos) (tM ⟨X.K, cm, fx⟩ W (mC d)) := by
  obtain ⟨mc, v, u, hm, r, cv, hv⟩ := h.ex
  refine se_c (v := v) ((ClX.pe_cval (pe_glob hg hm (v := .ref (cm c)) rfl hd) hb).imp fun σ H Q q => ?_) (hv fx)
  exact ⟨cm c, mc, v, u, rfl, r, cv, q⟩
structure ConI (K : PySem.W.Frag) (cm : Nat → Addr) (c : Nat) (f : Str) (d : D) : Prop where
  ex : ∃ v u, Cls K (cm c) ∧ Con K (cm c) f v u ∧ ∀ fx ρ H, VR ⟨K, cm, fx⟩ ρ H d v
def mCon (c : Nat) (f : Str) (d : D) (o : ME) : ME := fun ε L => (o ε L).bind fun x L1 => if isIns c f L1 x = true then .ok d L1 else .bad
theorem se_con {e : Expr} {f : Str} {c : Nat} {d : D} {o : ME} {pos : Pos} (h : ConI X.K cm c f d) (ho : PE X e (tM ⟨X.K, cm, fx⟩ W o)) (hb : attributeBase e f X.env (eval e X.env) = eval e X.env := by rfl) : PE X (.Attribute e f pos) (tM ⟨X.K, cm, fx⟩ W (mCon c f d o)) := by
  obtain ⟨v, u, cl, k, hv⟩ := h.ex
  refine (pe_con ho hb).imp fun σ H Q q => ?_
  obtain ⟨ε, ρ, L, he, hh, q⟩ := q
  refine ⟨ε, ρ, L, he, hh, Lf.bind q fun x L1 xv ρ1 H1 e1 p1 t1 h1 r1 q1 => ?_⟩
  cases hi : isIns c f L1 x with
  | false => rw [hi, if_neg (by decide)] at q1; exact q1.elim
  | true =>
    rw [hi, if_pos rfl] at q1
    obtain ⟨a, dx, fs, e2, e3, e4⟩ := isIns_ok h1 r1 hi
    exact ⟨a, cm c, dx, fs, v, u, e2, e3, cl, k, e4, q1 v ρ1 H1 (List.prefix_refl _) (TP.refl H1) h1 (hv _ _ _)⟩
end Tw
end

section
set_option Elab.async false
set_option linter.all false
set_option maxRecDepth 100000
set_option maxHeartbeats 1000000
/-! Tw, part O: repr; a law's def where no guard is up; the end of a law. -/
namespace Tw
open PySem PySem.Spec L2
open PyProof.Rows (envOfC)
variable {g : Gx} {ρ ρ' : List Addr} {H H' : Hp} {X : Cx} {W : WX} {L : List O} {cm : Nat → Addr} {fx : Hp}

/-! ### repr -/
def isSeqP : PyData → Bool
  | .list _ => true
  | .tuple _ => true
  | _ => false
def cRepr : OC := fun ds L => match ds with
  | [x] => match toPy L pyDeep x with
    | some p => if isSeqP p = true ∧ p.showable = true ∧ p.hasDict = false ∧ p.depth ≤ 16 ∧ p.shown.length ≤ most then some (.str p.shown, L) else none
    | none => none
  | _ => none
theorem c_repr (hg : X.A.guards = some []) (hu : X.A.units + 65 < cLine) : CallR X (.builtin "repr") (rC ⟨X.K, cm, fx⟩ cRepr) := by
  intro pins s σ H xs us Q I r q
  obtain ⟨ρ, L, ds, hh, rr, q⟩ := q
  unfold cRepr at q
  split at q
  · rename_i x
    obtain ⟨v, rfl, rv⟩ := rr.one
    obtain ⟨u, rfl, ru⟩ := r.one
    split at q
    · rename_i p hp
      split at q
      · rename_i hz
        obtain ⟨z1, z2, z3, z4, z5⟩ := hz
        have dp := toPy_ok hh _ _ _ _ hp rv
        obtain ⟨as, rd⟩ := Dp.reads I p v u dp ru
        have hq : Q (.str p.shown) H := q.same hh (.str _)
        have hre : ∃ a, u = .ref a := by
          cases rd with
          | list => exact ⟨_, rfl⟩
          | tuple => exact ⟨_, rfl⟩
          | _ => cases z1
        obtain ⟨a, rfl⟩ := hre
        exact repr_of_reads' rd z2 (fun z => by rw [z3] at z; cases z) hg (by omega) (fun _ _ e => e) (fun h' u tk hk => ⟨.str p.shown, H, I.kept (t' := tk) hk, ⟨_, rfl⟩, hq⟩) (most_le z5)
      · exact q.elim
    · exact q.elim
  · exact q.elim
/-! ### a body with no guard up -/
section
variable {P : Program} {w : World} {K : PySem.W.Frag} {mg : Str → Option Value} {base : Heap}
def BodyOkG (P : Program) (w : World) (K : PySem.W.Frag) (mg : Str → Option Value) (base : Heap) (cm : Nat → Addr) (N : List Str) (qual : Str) (sc : Scope) (f : Addr) (body : List Stmt) (k : Nat) (m : MS) : Prop :=
  ∀ (fx : Hp) (cdv : Value) (A : Around) (outer : List Env) (s : Shared) (H : Hp) (E : XK), (A.deeper (envOfC qual sc s.heap.objs.size f cdv)).guards = some [] → Room k (A.deeper (envOfC qual sc s.heap.objs.size f cdv)) → Takes (cxF P w K mg base N qual sc f cdv A outer s H E) (WF E) →
    PassesOwn (model P w) (cxF P w K mg base N qual sc f cdv A outer s H E).A (cxF P w K mg base N qual sc f cdv A outer s H E).env (cxF P w K mg base N qual sc f cdv A outer s H E).xe →
    PSs (cxF P w K mg base N qual sc f cdv A outer s H E) body (tMS ⟨K, cm, fx⟩ (WF E) m)
/-- the def at f, run where no guard is up -/
structure FnG (P : Program) (w : World) (K : PySem.W.Frag) (mg : Str → Option Value) (base : Heap) (k : Nat) (f : Addr) (fd : FuncData) (ps : List Str) (sp : Sp) : Prop where
  run : ∀ (A : Around) (outer : List Env) (s : Shared) (H : Hp) (args : Args) (us : List Value) (vs : List V) (Q : VK) (E : XK), A.guards = some [] → Room k A → Env0 P w K mg base A outer s H → BindsTo s fd args (ps.zip us) → Vals vs us → sp vs H Q E →
    codeAny (model P w) A (.call (.ref f) args) (CR (L2.CX P w) outer P w H s Q E) s
theorem fnG_of {f : Addr} {name qual : Str} {params : Arguments} {body : List Stmt} {scope : Scope} {dV kV doc pm cdv ct oc : Value} {an od : Option Addr}
    {osl : Array (Option Value)} {N ps : List Str} {k : Nat} {m : MS} (lk : K.lookup f = some ⟨oc, od, .func (PySem.W.fnOf name qual params body scope dV kV doc pm an cdv ct), osl⟩) (hcd : PySem.W.codeIn K cdv qual = true) (S : FnScope N ps scope) (hN : ps.length ≤ N.length)
    (h : BodyOkG P w K mg base cm N qual scope f body k m) :
    FnG P w K mg base (k + 1) f (PySem.W.fnOf name qual params body scope dV kV doc pm an cdv ct) ps (spF K cm ps.length (runF ps.length N.length m)) := by
  refine ⟨fun A outer s H args us vs Q E hgd hr e0 hb r hsp => ?_⟩
  have hl : vs.length = ps.length := hsp.1
  have KX : K.In s.heap := e0.mod.kin.keeps fun b o e => (e0.bs b o e).1
  have lim : s.heap.NoLimit := e0.mod.nolimit.keeps fun b o e => (e0.bs b o e).1
  have hkind : ∀ y ∈ ps.zip us, scope.names.lookup y.1 = some .local ∨ (scope.names.lookup y.1 = some .cell ∧ ((cellsFrom (s.heap.objs.size + 1) scope.names []).lookup y.1).isSome = true) := fun ⟨n, v⟩ hy => by
    rcases S.par n (List.of_mem_zip hy).1 with q | q
    · exact .inl q
    · exact .inr ⟨q, PySem.W.cellsFrom_some _ _ _ (.inl q)⟩
  refine codeAny_call_function hr.depth (KX _ _ lk) rfl S.co S.gen rfl (PySem.W.codeRec_of KX hcd) (hb _ _ _ _ ?_)
  refine wpAny_newFunctionEnv_cells S.kind hkind fun env he s1 x => ?_
  subst he
  refine ⟨lim.keeps x.toInCall.keep, codeAny_func ?_⟩
  obtain ⟨hl', fx, ρ, L, ds, hh, r', q⟩ := id hsp
  have ht := h fx cdv A outer s H E hgd (hr.deeper _) (takes_of rfl rfl rfl rfl) (passes_of rfl)
  have hq : tMS ⟨K, cm, fx⟩ (WF E) m { nx := fun _ H' => Q .non H', rt := Q } (start N vs) H := by
    have r := r'
    unfold runF at q
    have hd : ds.length = ps.length := r.length.trans hl
    rw [if_pos hd] at q
    have he := ER.begin r N
    rw [hd] at he
    refine ⟨_, ρ, L, he, hh, ?_⟩
    cases hm : m (ds.map some ++ List.replicate (N.length - ps.length) none) L with
    | nx ε' L' => rw [hm] at q; exact fun σ' ρ' H' p t a b => q .non ρ' H' p t a .non
    | rt d L' => rw [hm] at q; exact q
    | bk ε' L' => rw [hm] at q; exact q.elim
    | ct ε' L' => rw [hm] at q; exact q.elim
    | ex c fs ε' L' => rw [hm] at q; exact fun σ' ρ' H' dx p t a b x => q ρ' H' dx p t a x
    | bad => rw [hm] at q; exact q.elim
  have I : Inv (cxOf (L2.CX P w) P w K mg base N qual scope f cdv A outer s H E) [] (start N vs) H s1 := inv_start S hr.hd e0 hl r x
  refine wpAny_mono (ht.run [] s1 (start N vs) H _ I hq) (fun fl s' hs => ?_) fun e s' hs => hs
  cases fl with
  | ret u =>
    obtain ⟨v, σ', H', J, rv, q⟩ := hs
    exact ⟨v, H', J.os, J.bare, J.base, J.hok, rv, q⟩
  | next =>
    obtain ⟨σ', H', J, q⟩ := hs
    exact ⟨V.non, H', J.os, J.bare, J.base, J.hok, (rfl : RelV V.non Value.none), q⟩
  | brk =>
    obtain ⟨_, _, _, q⟩ := hs
    exact False.elim q
  | cont =>
    obtain ⟨_, _, _, q⟩ := hs
    exact False.elim q
end
end Tw
end

section
set_option Elab.async false
set_option linter.all false
set_option maxRecDepth 100000
set_option maxHeartbeats 1000000
/-! Tw, part P: a law's end. -/
namespace Tw
open PySem PySem.Spec PyProof.Rows L2
theorem fnG_ok {P : Program} {w : World} {K : PySem.W.Frag} {mg : Str → Option Value} {base : Heap} {k : Nat} {f : Addr} {fd : FuncData} {ps : List Str} {sp : Sp} (F : FnOk P w K mg base (L2.CX P w) k f fd ps sp) : FnG P w K mg base k f fd ps sp :=
  ⟨fun A outer s H args us vs Q E _ hr e0 hb r hsp => F.run A outer s H args us vs Q E hr e0 hb r hsp⟩
theorem law_callG {P : Program} {w : World} {K : PySem.W.Frag} {mg mb : Str → Option Value} {k : Nat} {fa a : Addr} {fd : FuncData} {x : Str} {sp : Sp} {s₁ : Shared} {vs : List Value} {ns : List Int}
    (KX : K.In s₁.heap) (hns : s₁.heap.Ns mainGlobals mg) (hb : s₁.heap.Ns builtinsNs mb) (hbb : ∀ x : Str, x ≠ "__name__" → mb x = bootBuiltins x) (hlim : s₁.heap.NoLimit) (hg : s₁.gens = #[])
    (ha : s₁.heap.get? a = some { cls := .type "list", data := .seq vs.toArray }) (hi : IntsAre vs ns) (hl : ns.length ≤ sizeLine) (hr : Room k callerA)
    (F : ∀ base : Heap, K.In base → base.Ns mainGlobals mg → FnG P w K mg base k fa fd [x] sp) (hbind : ∀ (s : Shared) (u : Value), BindsTo s fd ⟨[u], []⟩ [(x, u)])
    (hsp : ∀ H : Hp, Only H → SqL K H a (ns.map V.int) → sp [.ref a] H (fun v _ => v = .bl true) fun _ _ _ => False) :
    codeAny (model P w) callerA (.call (.ref fa) ⟨[.ref a], []⟩) (fun r s' => r = .ok (.ret (.bool true)) ∧ OldK s₁.heap s'.heap ∧ s'.os = s₁.os ∧ AllBare s'.gens) s₁ := by
  have rv := vals_ints hi
  have lenV := hi.length
  have core : ∀ H : Hp, Only H → SqL K H a (ns.map V.int) → HOk P w H s₁.heap → (∀ b, H b ≠ none → b = a) → (H a ≠ none → K.lookup a = none) →
      codeAny (model P w) callerA (.call (.ref fa) ⟨[.ref a], []⟩) (fun r s' => r = .ok (.ret (.bool true)) ∧ OldK s₁.heap s'.heap ∧ s'.os = s₁.os ∧ AllBare s'.gens) s₁ := by
    intro H hO hS hok hA hK
    have isA : ∀ {b : Addr}, H b ≠ none → b = a := fun {b} h => hA b h
    have base_of : ∀ {b : Addr} {o : Obj}, s₁.heap.get? b = some o → H b = none → (hidT s₁.heap H).get? b = some o := fun e n => hidT_get e n
    have noA : ∀ {b : Addr} {o : Obj} {es : Array DictEntry} {ep : Nat}, s₁.heap.get? b = some o → o.data = .dict es ep → H b = none := fun {b o es ep} e d => by
      by_cases q : H b = none
      · exact q
      · rw [isA q, ha] at e
        cases e
        cases (show Data.seq vs.toArray _ = Data.dict es ep from d)
    have nsK : ∀ {b : Addr} {m : Str → Option Value}, s₁.heap.Ns b m → (hidT s₁.heap H).Ns b m := fun {b m} ⟨o, es, ep, e, d, r⟩ => ⟨o, es, ep, base_of e (noA e d), d, r⟩
    have hKb : K.In (hidT s₁.heap H) := fun b o e => base_of (KX b o e) (by
      by_cases q : H b = none
      · exact q
      · have e' := isA q
        subst e'
        rw [hK q] at e
        cases e)
    have hM : Mod K mg (hidT s₁.heap H) := ⟨hKb, nsK hns, ⟨mb, nsK hb, hbb⟩, let ⟨mc, h1, h2⟩ := hlim; ⟨mc, nsK h1, h2⟩⟩
    have e0 : Env0 P w K mg (hidT s₁.heap H) callerA [] s₁ H := ⟨rfl, hM, fun b o e => of_hidT e, Nat.le_of_eq (hidT_size _ _), trivial, fun b hb => absurd (show b ∈ ([] : List Addr) from hb) (by simp), hok, .of_eq hg⟩
    refine codeAny_mono ((F _ hKb (nsK hns)).run callerA [] s₁ H ⟨[.ref a], []⟩ [.ref a] [.ref a] _ _ rfl hr e0 (hbind s₁ (.ref a)) (.cons rfl .nil) (hsp H hO hS)) fun r s' h => ?_
    cases r with
    | error e =>
      obtain ⟨_, _, _, _, _, _, _, _, _, _, _, _, z⟩ := h
      exact z.elim
    | ok fl =>
      cases fl with
      | next => exact False.elim h
      | brk => exact False.elim h
      | cont => exact False.elim h
      | ret u =>
        obtain ⟨v, H', os, bare, un, hok', r', q⟩ := h
        have q' : v = .bl true := q
        subst q'
        obtain rfl : u = Value.bool true := r'
        refine ⟨rfl, OldK.of_keep fun b o e => ?_, os, bare⟩
        cases q : H b with
        | none => exact un.keep b o e q (by intro z; exact absurd (show b ∈ ([] : List Addr) from z) (by simp)) (by simp)
        | some u =>
          rcases hO b with z | ⟨ob, xs, z⟩
          · rw [q] at z; cases z
          · have z2 := un.frzs b ob _ z
            obtain ⟨e1, _⟩ := hok b _ z
            obtain ⟨e2, _⟩ := hok' b _ z2
            rw [e] at e1; cases e1
            exact e2
  cases hk : K.lookup a with
  | some o =>
    have e := KX a o hk
    rw [ha] at e
    cases e
    refine core (fun _ => none) (fun _ => .inl rfl) (.inr ⟨_, vs.toArray, _, hk, rfl, rfl, rfl, by rw [List.size_toArray, lenV]; exact hl, by simpa using rv⟩) (fun b u z => by have z' : (none : Option HO) = some u := z; cases z') (fun b z => absurd rfl z) fun z => absurd rfl z
  | none =>
    refine core (fun b => if b = a then some (.frz { cls := .type "list", data := .seq vs.toArray } (.lst (ns.map V.int))) else none) (fun b => ?_) (.inl (.inr ⟨{ cls := .type "list", data := .seq vs.toArray }, if_pos rfl⟩)) (fun b u z => ?_) (fun b z => ?_) fun _ => hk
    · by_cases hb : b = a
      · exact .inr ⟨_, _, if_pos hb⟩
      · exact .inl (if_neg hb)
    · by_cases hb : b = a
      · have z' := (if_pos hb).symm.trans z
        cases z'
        subst hb
        exact ⟨ha, by rw [List.length_map]; exact hl, vs, _, rv, ha⟩
      · have z' := (if_neg hb).symm.trans z
        cases z'
    · by_cases hb : b = a
      · exact hb
      · exact absurd (if_neg hb) z
/-- the plain law: F is True at every script -/
def PlainLaw (n : Nat) (F : FS) : Prop := ∀ ns : List Int, ns.length ≤ n → ∃ L', F [.rol (ns.map .int)] [] = .ok (.bl true) L'
theorem ints_vr {g : Gx} {ρ : List Addr} {H : Hp} : ∀ ns : List Int, VRs g ρ H (ns.map .int) (ns.map V.int)
  | [] => .nil
  | n :: ns => .cons (.int n) (ints_vr ns)
theorem plain_sp {n : Nat} {F : FS} {K : PySem.W.Frag} {cm : Nat → Addr} (h : PlainLaw n F) (H : Hp) (a : Addr) (ns : List Int) (hn : ns.length ≤ n) (hO : Only H) (hS : SqL K H a (ns.map V.int)) : spF K cm 1 F [.ref a] H (fun v _ => v = .bl true) fun _ _ _ => False := by
  obtain ⟨L', e⟩ := h ns hn
  have ro : RoL K H a (ns.map V.int) := by
    rcases hS with (h | ⟨o, h⟩) | h
    · rcases hO a with z | ⟨ob, xs, z⟩
      · rw [z] at h; cases h
      · rw [z] at h; cases h
    · exact .inl ⟨o, h⟩
    · exact .inr (.inr h)
  refine ⟨rfl, fun _ => none, [], [], [.rol (ns.map .int)], ⟨rfl, List.nodup_nil, fun n o a e => by simp at e, fun n a e => by simp at e, fun a u e => by cases e⟩, .cons (.rol ro (ints_vr ns)) .nil, ?_⟩
  rw [e]
  intro v ρ' H' _ _ _ r
  cases r
  rfl
theorem end_ok {l : PySem.W.OpenLaw} {n k : Nat} {q : Program} {loose : List Str} {XP : (Str → Option Value) → Heap → Prop} {YP : World → Heap → Prop} {d : DefRec} {x : Str} {Fl : FS}
    (hn : l.most = some n) (hn2 : n ≤ sizeLine) (hdf : d.params.defaults = []) (hr : Room k callerA)
    (F : ∀ (w : World) (mg : Str → Option Value) (fa : Addr) (h : Heap), YP w h → h.Ns mainGlobals mg → mg d.name = some (.ref fa) →
      ∃ (K : PySem.W.Frag) (cm : Nat → Addr) (fd : FuncData), K.In h ∧ (∀ (s : Shared) (u : Value), BindsTo s fd ⟨[u], []⟩ [(x, u)]) ∧
        ∀ base : Heap, K.In base → base.Ns mainGlobals mg → FnG l.prog w K mg base k fa fd [x] (spF K cm 1 Fl))
    (plain : PlainLaw n Fl) :
    PySem.W.WalkO q loose XP YP l.row.toRowW d [] (fun f vs => PySem.call f vs) := by
  refine Att.attach_call hn hdf fun w s₀ s₁ mg mb fa o pm cd doc a vs ns G Y ho hd hcd hmg hobj hints hlen hg => ?_
  obtain ⟨K, cm, fd, KX, hb, hF⟩ := F w mg fa _ Y G.T.g hmg
  exact law_callG KX G.T.g G.T.b G.T.builtins G.T.nolimit hg hobj hints (Nat.le_trans hlen hn2) hr hF hb (fun H hO hS => plain_sp plain H a ns hlen hO hS)
end Tw
end

section
set_option Elab.async false
set_option linter.all false
set_option maxRecDepth 100000
set_option maxHeartbeats 1000000
/-! Tw, part Q: a choice of places (how keywords are put in order); facts of the head. -/
namespace Tw
open PySem PySem.Spec L2
variable {g : Gx} {ρ : List Addr} {H : Hp}
def pick {α : Type} (is : List Nat) (l : List α) : List α := is.filterMap fun i => l[i]?
theorem Vals.tw_get : ∀ {vs : List V} {us : List Value}, Vals vs us → ∀ i : Nat, (vs[i]? = none ∧ us[i]? = none) ∨ ∃ v u, vs[i]? = some v ∧ us[i]? = some u ∧ RelV v u
  | _, _, .nil, i => .inl ⟨by simp, by simp⟩
  | _, _, .cons r t, 0 => .inr ⟨_, _, rfl, rfl, r⟩
  | _, _, .cons r t, i + 1 => by simpa using Vals.tw_get t i
theorem Vals.tw_pick {vs : List V} {us : List Value} (r : Vals vs us) : ∀ is : List Nat, Vals (pick is vs) (pick is us)
  | [] => .nil
  | i :: is => by
    unfold pick
    rcases Vals.tw_get r i with ⟨h1, h2⟩ | ⟨v, u, h1, h2, h3⟩
    · rw [List.filterMap_cons_none h1, List.filterMap_cons_none h2]; exact Vals.tw_pick r is
    · rw [List.filterMap_cons_some h1, List.filterMap_cons_some h2]; exact .cons h3 (Vals.tw_pick r is)
theorem VRs.look {ds : List D} {vs : List V} (r : VRs g ρ H ds vs) (i : Nat) : (ds[i]? = none ∧ vs[i]? = none) ∨ ∃ d v, ds[i]? = some d ∧ vs[i]? = some v ∧ VR g ρ H d v := by
  cases h : ds[i]? with
  | some d => obtain ⟨v, h1, h2⟩ := r.get h; exact .inr ⟨d, v, rfl, h1, h2⟩
  | none =>
    refine .inl ⟨rfl, ?_⟩
    rw [List.getElem?_eq_none_iff] at h ⊢
    rw [← r.length]; exact h
theorem VRs.pick {ds : List D} {vs : List V} (r : VRs g ρ H ds vs) : ∀ is : List Nat, VRs g ρ H (Tw.pick is ds) (Tw.pick is vs)
  | [] => .nil
  | i :: is => by
    unfold Tw.pick
    rcases r.look i with ⟨h1, h2⟩ | ⟨d, v, h1, h2, h3⟩
    · rw [List.filterMap_cons_none h1, List.filterMap_cons_none h2]; exact VRs.pick r is
    · rw [List.filterMap_cons_some h1, List.filterMap_cons_some h2]; exact .cons h3 (VRs.pick r is)
/-- how the keywords ks bind, the keyword-only parameters ms lacking, in the order is -/
theorem kb_mk {K : PySem.W.Frag} {x qual : Str} {params : Arguments} {body : List Stmt} {scope : Scope} {kws : List (Str × V)} {f : Addr} {fd : FuncData} {ps : List Str} (F : FunD K x qual params body scope [] kws f fd) (n : Nat) (ks : List Str) (ms : List (Str × V)) (is : List Nat) (mD : List D) (hmD : ∀ g ρ H, VRs g ρ H mD (ms.map (·.2))) (hk : kws ≠ []) (hms : ∀ q ∈ ms, q ∈ kws)
    (h : ∀ (D : Addr) (doc pm : Value) (an : Option Addr) (cdv ct : Value) (us mv ws : List Value), us.length = n → mv.length = ms.length → ws.length = ks.length →
      KwChain D ((ms.map (·.1)).zip mv) (bindArgs (PySem.W.fnOf x qual params body scope .none (.ref D) doc pm an cdv ct) ⟨us, ks.zip ws⟩) (ps.zip (pick is (us ++ (mv ++ ws))))) :
    ∃ gg gV, KBn K fd ps n ks gg gV ∧ ∀ g ρ H ds vs es zs, VRs g ρ H ds vs → VRs g ρ H es zs → VRs g ρ H (pick is (ds ++ (mD ++ es))) (gV vs zs) := by
  obtain ⟨mv, hb⟩ := FunD.kbinds0 F n ks ms (fun us mv ws => pick is (us ++ (mv ++ ws))) hk hms (fun r1 r2 r3 => Vals.tw_pick (r1.append (r2.append r3)) is) h
  exact ⟨_, _, hb, fun g ρ H ds vs es zs r1 r2 => (r1.append ((hmD g ρ H).append r2)).pick is⟩
/-- a tuple of the written part -/
theorem tup_k {K : PySem.W.Frag} {cm : Nat → Addr} {a : Addr} {dd : Option Addr} {its : Array Value} {n : Nat} {sl : Array (Option Value)} {ds : List D} {vs : List V} (l : K.lookup a = some ⟨.type "tuple", dd, .seq its n, sl⟩) (hz : its.size ≤ sizeLine) (r : Vals vs its.toList) (h : ∀ fx ρ H, VRs ⟨K, cm, fx⟩ ρ H ds vs) (fx : Hp) (ρ : List Addr) (H : Hp) : VR ⟨K, cm, fx⟩ ρ H (.tup ds) (.ref a) :=
  .tup (.inr (.inr ⟨_, its, n, l, rfl, rfl, hz, r⟩)) (h fx ρ H)
end Tw
end

section
set_option Elab.async false
set_option linter.all false
set_option maxRecDepth 100000
set_option maxHeartbeats 1000000
/-! Tw, part R: a def run in its own small heap: only what its arguments reach, anew numbered. -/
namespace Tw
open PySem PySem.Spec L2
variable {g g' : Gx} {ρ ρ' : List Addr} {H H' : Hp} {L L' : List O}

/-! ### renumbering -/
mutual
def mapR (φ : Nat → Option Nat) : D → Option D
  | .non => some .non
  | .bl b => some (.bl b)
  | .int i => some (.int i)
  | .str x => some (.str x)
  | .tup xs => (mapRs φ xs).map .tup
  | .ref n => (φ n).map .ref
  | .cls c => some (.cls c)
  | .ty n => some (.ty n)
  | .rol xs => (mapRs φ xs).map .rol
def mapRs (φ : Nat → Option Nat) : List D → Option (List D)
  | [] => some []
  | d :: ds => match mapR φ d, mapRs φ ds with
    | some e, some es => some (e :: es)
    | _, _ => none
end
def mapF (φ : Nat → Option Nat) : List (Str × D) → Option (List (Str × D))
  | [] => some []
  | (f, d) :: r => match mapR φ d, mapF φ r with
    | some e, some es => some ((f, e) :: es)
    | _, _ => none
def mapK (φ : Nat → Option Nat) : List (Key × D) → Option (List (Key × D))
  | [] => some []
  | (f, d) :: r => match mapR φ d, mapK φ r with
    | some e, some es => some ((f, e) :: es)
    | _, _ => none
def mapO (φ : Nat → Option Nat) : O → Option O
  | .lst xs => (mapRs φ xs).map .lst
  | .ins c fs => (mapF φ fs).map (.ins c)
  | .dic lk ks => (mapK φ ks).map (.dic lk)
def Rn (φ : Nat → Option Nat) (ρ ρ' : List Addr) : Prop := ∀ n m, φ n = some m → ∀ a, ρ[n]? = some a → ρ'[m]? = some a
mutual
theorem VR.map {φ : Nat → Option Nat} (h : Rn φ ρ ρ') (hK : g'.K = g.K) (hc : g'.cm = g.cm) : ∀ {d : D} {v : V} {e : D}, VR g ρ H d v → mapR φ d = some e → VR g' ρ' H e v
  | _, _, _, .non, q => by cases q; exact .non
  | _, _, _, .bl b, q => by cases q; exact .bl b
  | _, _, _, .int i, q => by cases q; exact .int i
  | _, _, _, .str x, q => by cases q; exact .str x
  | _, _, _, .cls c, q => by cases q; rw [← hc]; exact .cls c
  | _, _, _, .ty c, q => by cases q; exact .ty c
  | _, _, _, .ref (n := n) e, q => by
    unfold mapR at q
    cases h1 : φ n with
    | none => rw [h1] at q; cases q
    | some m => rw [h1] at q; cases q; exact .ref (h n m h1 _ e)
  | _, _, _, .tup (ds := ds) s r, q => by
    unfold mapR at q
    cases h1 : mapRs φ ds with
    | none => rw [h1] at q; cases q
    | some es => rw [h1] at q; cases q; exact .tup (by rw [hK]; exact s) (VRs.map h hK hc r h1)
  | _, _, _, .rol (ds := ds) s r, q => by
    unfold mapR at q
    cases h1 : mapRs φ ds with
    | none => rw [h1] at q; cases q
    | some es => rw [h1] at q; cases q; exact .rol (by rw [hK]; exact s) (VRs.map h hK hc r h1)
theorem VRs.map {φ : Nat → Option Nat} (h : Rn φ ρ ρ') (hK : g'.K = g.K) (hc : g'.cm = g.cm) : ∀ {ds : List D} {vs : List V} {es : List D}, VRs g ρ H ds vs → mapRs φ ds = some es → VRs g' ρ' H es vs
  | _, _, _, .nil, q => by cases q; exact .nil
  | _, _, _, .cons (d := d) (ds := ds) r t, q => by
    unfold mapRs at q
    split at q
    · rename_i e es h1 h2
      cases q
      exact .cons (VR.map h hK hc r h1) (VRs.map h hK hc t h2)
    · cases q
end
theorem FR.map {φ : Nat → Option Nat} (h : Rn φ ρ ρ') (hK : g'.K = g.K) (hc : g'.cm = g.cm) : ∀ {ds : List (Str × D)} {vs : List (Str × V)} {es : List (Str × D)}, FR g ρ H ds vs → mapF φ ds = some es → FR g' ρ' H es vs
  | _, _, _, .nil, q => by cases q; exact .nil
  | _, _, _, .cons r t, q => by
    unfold mapF at q
    split at q
    · rename_i e es h1 h2
      cases q
      exact .cons (VR.map h hK hc r h1) (FR.map h hK hc t h2)
    · cases q
theorem KR.map {φ : Nat → Option Nat} (h : Rn φ ρ ρ') (hK : g'.K = g.K) (hc : g'.cm = g.cm) : ∀ {ds : List (Key × D)} {vs : List (Key × V)} {es : List (Key × D)}, KR g ρ H ds vs → mapK φ ds = some es → KR g' ρ' H es vs
  | _, _, _, .nil, q => by cases q; exact .nil
  | _, _, _, .cons r t, q => by
    unfold mapK at q
    split at q
    · rename_i e es h1 h2
      cases q
      exact .cons (VR.map h hK hc r h1) (KR.map h hK hc t h2)
    · cases q
theorem or_map {φ : Nat → Option Nat} (h : Rn φ ρ ρ') (hK : g'.K = g.K) (hc : g'.cm = g.cm) {a : Addr} {o o' : O} (r : OR g ρ H a o) (q : mapO φ o = some o') : OR g' ρ' H a o' := by
  unfold mapO at q
  split at q
  · rename_i xs
    cases h1 : mapRs φ xs with
    | none => rw [h1] at q; cases q
    | some ys =>
      rw [h1] at q; cases q
      obtain ⟨vs, e, r⟩ := r
      exact ⟨vs, e, r.map h hK hc h1⟩
  · rename_i c fs
    cases h1 : mapF φ fs with
    | none => rw [h1] at q; cases q
    | some ys =>
      rw [h1] at q; cases q
      obtain ⟨dx, vs, e, r⟩ := r
      exact ⟨dx, vs, by rw [hc]; exact e, r.map h hK hc h1⟩
  · rename_i lk ks
    cases h1 : mapK φ ks with
    | none => rw [h1] at q; cases q
    | some ys =>
      rw [h1] at q; cases q
      cases lk with
      | false => obtain ⟨vs, e, r⟩ := r; exact ⟨vs, e, r.map h hK hc h1⟩
      | true => obtain ⟨vs, o, e, r⟩ := r; exact ⟨vs, o, e, r.map h hK hc h1⟩
/-! ### what is reached -/
mutual
def refsD : D → List Nat
  | .ref n => [n]
  | .tup xs => refsDs xs
  | .rol xs => refsDs xs
  | .non => [] | .bl _ => [] | .int _ => [] | .str _ => [] | .cls _ => [] | .ty _ => []
def refsDs : List D → List Nat
  | [] => []
  | d :: ds => refsD d ++ refsDs ds
end
def refsO : O → List Nat
  | .lst xs => refsDs xs
  | .ins _ fs => refsDs (fs.map (·.2))
  | .dic _ ks => refsDs (ks.map (·.2))
def reach (L : List O) : Nat → List Nat → List Nat → List Nat
  | 0, _, seen => seen
  | _ + 1, [], seen => seen
  | k + 1, n :: todo, seen => if seen.contains n = true then reach L k todo seen else match L[n]? with
    | some o => reach L k (refsO o ++ todo) (seen ++ [n])
    | none => seen
def posN : List Nat → Nat → Option Nat
  | [], _ => none
  | m :: ns, n => if m = n then some 0 else (posN ns n).map (· + 1)
theorem posN_get : ∀ {ns : List Nat} {n j : Nat}, posN ns n = some j → ns[j]? = some n
  | [], _, _, h => by cases h
  | m :: ns, n, j, h => by
    unfold posN at h
    split at h
    · rename_i e; cases h; simp [e]
    · cases h1 : posN ns n with
      | none => rw [h1] at h; cases h
      | some i => rw [h1] at h; cases h; simpa using posN_get h1
def setAll : List Nat → List O → List O → List O
  | n :: ns, o :: os, L => setAll ns os (L.set n o)
  | _, _, L => L
theorem setAll_len : ∀ (ns : List Nat) (os L : List O), (setAll ns os L).length = L.length
  | [], _, _ => rfl
  | _ :: _, [], _ => rfl
  | n :: ns, o :: os, L => by unfold setAll; rw [setAll_len ns os]; simp
theorem setAll_out : ∀ (ns : List Nat) (os L : List O) (i : Nat), i ∉ ns → (setAll ns os L)[i]? = L[i]?
  | [], _, _, _, _ => rfl
  | _ :: _, [], _, _, _ => rfl
  | n :: ns, o :: os, L, i, h => by
    unfold setAll
    rw [setAll_out ns os _ i (fun z => h (List.mem_cons_of_mem _ z)), List.getElem?_set_ne (fun z => h (by rw [← z]; exact List.mem_cons_self))]
theorem setAll_in : ∀ (ns : List Nat) (os L : List O) (j i : Nat), ns.Nodup → ns[j]? = some i → i < L.length → j < os.length → (setAll ns os L)[i]? = os[j]?
  | [], _, _, j, i, _, h, _, _ => by simp at h
  | _ :: _, [], _, j, i, _, _, _, h => by simp at h
  | n :: ns, o :: os, L, 0, i, nd, h, hl, _ => by
    simp at h
    subst h
    unfold setAll
    rw [setAll_out ns os _ n (List.nodup_cons.mp nd).1, List.getElem?_set_self hl]
    rfl
  | n :: ns, o :: os, L, j + 1, i, nd, h, hl, hj => by
    unfold setAll
    rw [setAll_in ns os _ j i (List.nodup_cons.mp nd).2 (by simpa using h) (by simpa using hl) (by simpa using hj)]
    simp
def psi (ns : List Nat) (N : Nat) (j : Nat) : Option Nat := if j < ns.length then ns[j]? else some (N + (j - ns.length))
def small (n : Nat) (ns : List Nat) : Bool := ns.all fun m => decide (m < n)
def lfuel : Nat := 100000
def lback (ns : List Nat) (L L2 : List O) (rs : List Nat) : List O := if small L.length rs = true ∧ ((L2.take ns.length).all fun o => small L.length (refsO o)) = true then setAll ns L2 L else setAll ns L2 L ++ L2.drop ns.length
def lrunAt (ns : List Nat) (F : FS) : FS := fun ds L => match mapRs (posN ns) ds, optAll (fun n => L[n]?) ns with
  | some es, some os => match optAll (mapO (posN ns)) os with
    | some os' => if ns.Nodup then (match F es os' with
      | .ok d L' => match mapR (psi ns L.length) d, optAll (mapO (psi ns L.length)) L' with
        | some d', some L2 => .ok d' (lback ns L L2 (refsD d'))
        | _, _ => .bad
      | .ex c fs L' => match mapF (psi ns L.length) fs, optAll (mapO (psi ns L.length)) L' with
        | some fs', some L2 => .ex c fs' (lback ns L L2 (refsDs (fs'.map (·.2))))
        | _, _ => .bad
      | .bad => .bad) else .bad
    | none => .bad
  | _, _ => .bad
def lrun (F : FS) : FS := fun ds L => lrunAt (reach L lfuel (refsDs ds) []) F ds L
theorem optAll_len {α β : Type} {f : α → Option β} : ∀ {l : List α} {r : List β}, optAll f l = some r → l.length = r.length
  | [], _, h => by cases h; rfl
  | x :: xs, r, h => by
    unfold optAll at h
    split at h
    · rename_i y ys h1 h2
      cases h
      simp [optAll_len h2]
    · cases h
theorem optAll_get {α β : Type} {f : α → Option β} : ∀ {l : List α} {r : List β} {i : Nat} {x : α}, optAll f l = some r → l[i]? = some x → ∃ y, r[i]? = some y ∧ f x = some y
  | [], _, i, x, h, e => by simp at e
  | z :: zs, r, i, x, h, e => by
    unfold optAll at h
    split at h
    · rename_i y ys h1 h2
      cases h
      cases i with
      | zero => simp at e; subst e; exact ⟨y, rfl, h1⟩
      | succ i =>
        obtain ⟨w, a, b⟩ := optAll_get h2 (show zs[i]? = some x by simpa using e)
        exact ⟨w, by simpa using a, b⟩
    · cases h
theorem optAll_getR {α β : Type} {f : α → Option β} {l : List α} {r : List β} {i : Nat} {y : β} (h : optAll f l = some r) (e : r[i]? = some y) : ∃ x, l[i]? = some x ∧ f x = some y := by
  obtain ⟨hi, _⟩ := List.getElem?_eq_some_iff.mp e
  rw [← optAll_len h] at hi
  obtain ⟨z, a, b⟩ := optAll_get h (show l[i]? = some l[i] by simp [hi])
  rw [a] at e
  cases e
  exact ⟨_, by simp [hi], b⟩

/-! ### it is sound -/
mutual
theorem VR.shrink {x : List Addr} : ∀ {d : D} {v : V}, VR g (ρ ++ x) H d v → (∀ n ∈ refsD d, n < ρ.length) → VR g ρ H d v
  | _, _, .non, _ => .non
  | _, _, .bl b, _ => .bl b
  | _, _, .int i, _ => .int i
  | _, _, .str x, _ => .str x
  | _, _, .cls c, _ => .cls c
  | _, _, .ty c, _ => .ty c
  | _, _, .ref e, h => by
    have hn := h _ List.mem_cons_self
    rw [List.getElem?_append_left hn] at e
    exact .ref e
  | _, _, .tup s r, h => .tup s (VRs.shrink r h)
  | _, _, .rol s r, h => .rol s (VRs.shrink r h)
theorem VRs.shrink {x : List Addr} : ∀ {ds : List D} {vs : List V}, VRs g (ρ ++ x) H ds vs → (∀ n ∈ refsDs ds, n < ρ.length) → VRs g ρ H ds vs
  | _, _, .nil, _ => .nil
  | _, _, .cons r t, h => .cons (VR.shrink r fun n hn => h n (List.mem_append_left _ hn)) (VRs.shrink t fun n hn => h n (List.mem_append_right _ hn))
end
theorem FR.shrink {x : List Addr} : ∀ {fs : List (Str × D)} {vs : List (Str × V)}, FR g (ρ ++ x) H fs vs → (∀ n ∈ refsDs (fs.map (·.2)), n < ρ.length) → FR g ρ H fs vs
  | _, _, .nil, _ => .nil
  | _, _, .cons r t, h => .cons (VR.shrink r fun n hn => h n (List.mem_append_left _ hn)) (FR.shrink t fun n hn => h n (List.mem_append_right _ hn))
theorem KR.shrink {x : List Addr} : ∀ {fs : List (Key × D)} {vs : List (Key × V)}, KR g (ρ ++ x) H fs vs → (∀ n ∈ refsDs (fs.map (·.2)), n < ρ.length) → KR g ρ H fs vs
  | _, _, .nil, _ => .nil
  | _, _, .cons r t, h => .cons (VR.shrink r fun n hn => h n (List.mem_append_left _ hn)) (KR.shrink t fun n hn => h n (List.mem_append_right _ hn))
theorem or_shrink {x : List Addr} {a : Addr} {o : O} (r : OR g (ρ ++ x) H a o) (h : ∀ n ∈ refsO o, n < ρ.length) : OR g ρ H a o := by
  cases o with
  | lst ds => obtain ⟨vs, e, r⟩ := r; exact ⟨vs, e, r.shrink h⟩
  | ins c fs => obtain ⟨dx, vs, e, r⟩ := r; exact ⟨dx, vs, e, r.shrink h⟩
  | dic lk ks =>
    cases lk with
    | false => obtain ⟨vs, e, r⟩ := r; exact ⟨vs, e, r.shrink h⟩
    | true => obtain ⟨vs, o, e, r⟩ := r; exact ⟨vs, o, e, r.shrink h⟩
theorem small_lt {n : Nat} {ns : List Nat} (h : small n ns = true) : ∀ m ∈ ns, m < n := fun m hm => of_decide_eq_true (List.all_eq_true.mp h m hm)
/-- what the small heap's places are in the large one -/
theorem lback_hr {K : PySem.W.Frag} {cm : Nat → Addr} {fx fx' : Hp} {ns : List Nat} {ρ ρ' ρ0 : List Addr} {L L' L2 : List O} {H H' : Hp} {rs : List Nat} (nd : ns.Nodup) (hh : HR ⟨K, cm, fx⟩ ρ L H) (t : TP H H')
    (h0 : ∀ (j n : Nat), ns[j]? = some n → ∃ a, ρ[n]? = some a ∧ ρ0[j]? = some a) (l0 : ρ0.length = ns.length) (hfx : ∀ (n : Nat) (a : Addr) (u : HO), ρ[n]? = some a → n ∉ ns → H a = some u → fx' a = some u) (hfx2 : ∀ (a : Addr) (u : HO), fx a = some u → fx' a = some u)
    (p : ρ0 <+: ρ') (h2 : HR ⟨K, cm, fx'⟩ ρ' L' H') (e2 : optAll (mapO (psi ns L.length)) L' = some L2) :
    ∃ ρ2, ρ <+: ρ2 ∧ HR ⟨K, cm, fx⟩ ρ2 (lback ns L L2 rs) H' ∧ ∀ d d' v, mapR (psi ns L.length) d = some d' → (∀ n ∈ refsD d', n ∈ rs) → VR ⟨K, cm, fx'⟩ ρ' H' d v → VR ⟨K, cm, fx⟩ ρ2 H' d' v := by
  have lp : ns.length ≤ ρ'.length := by rw [← l0]; exact p.length_le
  have l2 : L2.length = ρ'.length := by rw [← optAll_len e2, h2.len]
  have inb : ∀ (j n : Nat), ns[j]? = some n → n < L.length := fun j n e => by
    obtain ⟨a, e1, _⟩ := h0 j n e
    obtain ⟨q, _⟩ := List.getElem?_eq_some_iff.mp e1
    rw [← hh.len]; exact q
  -- the new places are no old ones
  have fresh : ∀ (k : Nat) (a : Addr), ns.length ≤ k → ρ'[k]? = some a → ∀ n : Nat, ρ[n]? ≠ some a := by
    intro k a hk ek n en
    by_cases hn : n ∈ ns
    · obtain ⟨j, hj⟩ := List.getElem?_of_mem hn
      obtain ⟨b, e1, e3⟩ := h0 j n hj
      rw [en] at e1; cases e1
      have := nodup_get h2.nd (pre_get p e3) ek
      have hjl := (List.getElem?_eq_some_iff.mp hj).1
      omega
    · obtain ⟨o, eo⟩ := hh.there en
      obtain ⟨u, eu⟩ := (hh.ob n o a eo en).some
      have := hfx n a u en hn eu
      have z := h2.nfx k a ek
      rw [show (⟨K, cm, fx'⟩ : Gx).fx a = fx' a from rfl, this] at z
      cases z
  have keepAll : ∀ ρ2 : List Addr, ρ2 = ρ ++ ρ'.drop ns.length → Rn (psi ns L.length) ρ' ρ2 := by
    rintro ρ2 rfl j m hm a ea
    unfold psi at hm
    split at hm
    · obtain ⟨b, e1, e3⟩ := h0 j m hm
      have := pre_get p e3
      rw [ea] at this; cases this
      rw [List.getElem?_append_left (List.getElem?_eq_some_iff.mp e1).1]
      exact e1
    · rename_i hj
      cases hm
      rw [List.getElem?_append_right (by rw [hh.len]; omega), List.getElem?_drop]
      rw [show ns.length + (L.length + (j - ns.length) - ρ.length) = j by rw [hh.len]; omega]
      exact ea
  -- the heap with all new places
  have full : HR ⟨K, cm, fx⟩ (ρ ++ ρ'.drop ns.length) (setAll ns L2 L ++ L2.drop ns.length) H' := by
    have rn := keepAll _ rfl
    refine ⟨?_, ?_, ?_, ?_, fun a u e => h2.fxs a u (hfx2 a u e)⟩
    · rw [List.length_append, List.length_append, setAll_len, List.length_drop, List.length_drop, hh.len, l2]
    · rw [List.nodup_append]
      refine ⟨hh.nd, h2.nd.sublist (List.drop_sublist _ _), fun a ha b hb e => ?_⟩
      subst e
      obtain ⟨n, hn⟩ := List.getElem?_of_mem ha
      obtain ⟨k, hk⟩ := List.getElem?_of_mem hb
      rw [List.getElem?_drop] at hk
      exact fresh _ a (Nat.le_add_right _ _) hk n hn
    · intro n o a eo ea
      by_cases hn : n < ρ.length
      · rw [List.getElem?_append_left hn] at ea
        rw [List.getElem?_append_left (by rw [setAll_len, ← hh.len]; exact hn)] at eo
        by_cases hi : n ∈ ns
        · obtain ⟨j, hj⟩ := List.getElem?_of_mem hi
          have hjl := (List.getElem?_eq_some_iff.mp hj).1
          rw [setAll_in ns L2 L j n nd hj (inb j n hj) (by rw [l2]; omega)] at eo
          obtain ⟨o1, e3, e4⟩ := optAll_getR e2 eo
          obtain ⟨b, e5, e6⟩ := h0 j n hj
          rw [ea] at e5; cases e5
          exact or_map (g := ⟨K, cm, fx'⟩) (g' := ⟨K, cm, fx⟩) rn rfl rfl (h2.ob j o1 a e3 (pre_get p e6)) e4
        · rw [setAll_out ns L2 L n hi] at eo
          have ob := hh.ob n o a eo ea
          obtain ⟨u, eu⟩ := ob.some
          have e7 := h2.fxs a u (hfx n a u ea hi eu)
          exact ob.mono (List.prefix_append _ _) t (e7.trans eu.symm)
      · rw [List.getElem?_append_right (by omega), List.getElem?_drop] at ea
        rw [List.getElem?_append_right (by rw [setAll_len, ← hh.len]; omega), List.getElem?_drop, setAll_len] at eo
        rw [hh.len] at ea
        obtain ⟨o1, e3, e4⟩ := optAll_getR e2 eo
        exact or_map (g := ⟨K, cm, fx'⟩) (g' := ⟨K, cm, fx⟩) rn rfl rfl (h2.ob _ o1 a e3 ea) e4
    · intro n a ea
      by_cases hn : n < ρ.length
      · rw [List.getElem?_append_left hn] at ea
        exact hh.nfx n a ea
      · rw [List.getElem?_append_right (by omega), List.getElem?_drop] at ea
        have z := h2.nfx _ a ea
        cases hf : fx a with
        | none => exact hf
        | some u =>
          rw [show (⟨K, cm, fx'⟩ : Gx).fx a = fx' a from rfl, hfx2 a u hf] at z
          cases z
  by_cases hs : small L.length rs = true ∧ ((L2.take ns.length).all fun o => small L.length (refsO o)) = true
  · -- nothing new is held
    obtain ⟨hs1, hs2⟩ := hs
    have fl := full
    refine ⟨ρ, List.prefix_refl _, ?_, fun d d' v e hr r => ?_⟩
    · unfold lback
      rw [if_pos ⟨hs1, hs2⟩]
      refine ⟨by rw [setAll_len, hh.len], hh.nd, fun n o a eo ea => ?_, hh.nfx, fun a u e => h2.fxs a u (hfx2 a u e)⟩
      have hn : n < ρ.length := (List.getElem?_eq_some_iff.mp ea).1
      by_cases hi : n ∈ ns
      · refine or_shrink (fl.ob n o a (by rw [List.getElem?_append_left (by rw [setAll_len, ← hh.len]; exact hn)]; exact eo) (by rw [List.getElem?_append_left hn]; exact ea)) fun k hk => ?_
        obtain ⟨j, hj⟩ := List.getElem?_of_mem hi
        have hjl := (List.getElem?_eq_some_iff.mp hj).1
        rw [setAll_in ns L2 L j n nd hj (inb j n hj) (by rw [l2]; omega)] at eo
        have hm : o ∈ L2.take ns.length := by
          have : (L2.take ns.length)[j]? = some o := by rw [List.getElem?_take_of_lt hjl]; exact eo
          exact List.mem_of_getElem? this
        rw [hh.len]
        exact small_lt (List.all_eq_true.mp hs2 o hm) k hk
      · rw [setAll_out ns L2 L n hi] at eo
        have ob := hh.ob n o a eo ea
        obtain ⟨u, eu⟩ := ob.some
        have e7 := h2.fxs a u (hfx n a u ea hi eu)
        exact ob.mono (List.prefix_refl _) t (e7.trans eu.symm)
    · refine (VR.map (g := ⟨K, cm, fx'⟩) (g' := ⟨K, cm, fx⟩) (keepAll _ rfl) rfl rfl r e : VR ⟨K, cm, fx⟩ (ρ ++ ρ'.drop ns.length) H' d' v).shrink fun n hn => ?_
      rw [hh.len]
      exact small_lt hs1 n (hr n hn)
  · refine ⟨ρ ++ ρ'.drop ns.length, List.prefix_append _ _, ?_, fun d d' v e _ r => ?_⟩
    · unfold lback
      rw [if_neg hs]
      exact full
    · exact VR.map (g := ⟨K, cm, fx'⟩) (g' := ⟨K, cm, fx⟩) (keepAll _ rfl) rfl rfl r e

theorem nodup_map_on {α β : Type} {f : α → β} : ∀ {l : List α}, l.Nodup → (∀ a ∈ l, ∀ b ∈ l, f a = f b → a = b) → (l.map f).Nodup
  | [], _, _ => List.nodup_nil
  | x :: xs, nd, h => by
    obtain ⟨h1, h2⟩ := List.nodup_cons.mp nd
    rw [List.map_cons, List.nodup_cons]
    refine ⟨fun z => ?_, nodup_map_on h2 fun a ha b hb => h a (List.mem_cons_of_mem _ ha) b (List.mem_cons_of_mem _ hb)⟩
    obtain ⟨y, hy, e⟩ := List.mem_map.mp z
    have := h x List.mem_cons_self y (List.mem_cons_of_mem _ hy) e.symm
    subst this
    exact h1 hy
theorem lrun_sp {K : PySem.W.Frag} {cm : Nat → Addr} {n : Nat} {F : FS} {vs : List V} {H : Hp} {Q : VK} {E : XK} (h : spF K cm n (lrun F) vs H Q E) : spF K cm n F vs H Q E := by
  obtain ⟨hl, fx, ρ, L, ds, hh, r, q⟩ := h
  refine ⟨hl, ?_⟩
  unfold lrun at q
  generalize reach L lfuel (refsDs ds) [] = ns at q
  unfold lrunAt at q
  split at q
  · rename_i es os e1 e2
    split at q
    · rename_i os' e3
      split at q
      · rename_i nd
        have ex : ∀ (j k : Nat), ns[j]? = some k → ∃ a, ρ[k]? = some a ∧ (ns.map fun n => (ρ[n]?).getD 0)[j]? = some a := fun j k e => by
          obtain ⟨o, a1, a2⟩ := optAll_get e2 e
          obtain ⟨a, a3, _⟩ := hh.get a2
          exact ⟨a, a3, by rw [List.getElem?_map, e]; simp [a3]⟩
        have rn : Rn (posN ns) ρ (ns.map fun n => (ρ[n]?).getD 0) := fun n m hm a ea => by
          obtain ⟨b, b1, b2⟩ := ex m n (posN_get hm)
          rw [ea] at b1; cases b1
          exact b2
        have mem : ∀ (a : Addr), a ∈ (ns.map fun n => (ρ[n]?).getD 0) → ∃ n ∈ ns, ρ[n]? = some a := fun a ha => by
          obtain ⟨n, hn, e⟩ := List.mem_map.mp ha
          obtain ⟨j, hj⟩ := List.getElem?_of_mem hn
          obtain ⟨b, b1, _⟩ := ex j n hj
          rw [b1] at e
          exact ⟨n, hn, by rw [b1]; exact congrArg some e⟩
        generalize hρ0 : (ns.map fun n => (ρ[n]?).getD 0) = ρ0 at ex rn mem
        have l0 : ρ0.length = ns.length := by rw [← hρ0]; simp
        have nd0 : ρ0.Nodup := by
          rw [← hρ0]
          refine nodup_map_on nd fun a ha b hb e => ?_
          obtain ⟨i, hi⟩ := List.getElem?_of_mem ha
          obtain ⟨j, hj⟩ := List.getElem?_of_mem hb
          obtain ⟨x, x1, _⟩ := ex i a hi
          obtain ⟨y, y1, _⟩ := ex j b hj
          rw [x1, y1] at e
          have e' : x = y := e
          subst e'
          exact nodup_get hh.nd x1 y1
        let fx' : Hp := fun a => if a ∈ ρ0 then none else H a
        have hr0 : HR ⟨K, cm, fx'⟩ ρ0 os' H := by
          refine ⟨by rw [l0, optAll_len e2, optAll_len e3], nd0, fun j o' a eo ea => ?_, fun j a ea => if_pos (List.mem_of_getElem? ea), fun a u e => ?_⟩
          · obtain ⟨o, a1, a2⟩ := optAll_getR e3 eo
            obtain ⟨k, a3, a4⟩ := optAll_getR e2 a1
            obtain ⟨b, b1, b2⟩ := ex j k a3
            rw [ea] at b2; cases b2
            exact or_map (g := ⟨K, cm, fx⟩) (g' := ⟨K, cm, fx'⟩) rn rfl rfl (hh.ob k o a a4 b1) a2
          · have e : fx' a = some u := e
            by_cases ha : a ∈ ρ0
            · rw [show fx' a = none from if_pos ha] at e; cases e
            · rw [show fx' a = H a from if_neg ha] at e; exact e
        have vr0 : VRs ⟨K, cm, fx'⟩ ρ0 H es vs := VRs.map (g := ⟨K, cm, fx⟩) (g' := ⟨K, cm, fx'⟩) rn rfl rfl r e1
        have hfx : ∀ (n : Nat) (a : Addr) (u : HO), ρ[n]? = some a → n ∉ ns → H a = some u → fx' a = some u := fun n a u ea hn hu => by
          have : a ∉ ρ0 := fun ha => by
            obtain ⟨m, hm, em⟩ := mem a ha
            exact hn (nodup_get hh.nd em ea ▸ hm)
          rw [show fx' a = H a from if_neg this]
          exact hu
        have hfx2 : ∀ (a : Addr) (u : HO), fx a = some u → fx' a = some u := fun a u e => by
          have : a ∉ ρ0 := fun ha => by
            obtain ⟨m, hm, em⟩ := mem a ha
            have z := hh.nfx m a em
            rw [show (⟨K, cm, fx⟩ : Gx).fx a = fx a from rfl, e] at z
            cases z
          rw [show fx' a = H a from if_neg this]
          exact hh.fxs a u e
        refine ⟨fx', ρ0, os', es, hr0, vr0, ?_⟩
        cases hF : F es os' with
        | ok d L' =>
          rw [hF] at q
          simp only at q
          split at q
          · rename_i d' L2 e4 e5
            intro v ρ' H' p t h2 rv
            obtain ⟨ρ2, p2, hr2, tr⟩ := lback_hr (rs := refsD d') nd hh t ex l0 hfx hfx2 p h2 e5
            exact q v ρ2 H' p2 t hr2 (tr d d' v e4 (fun n hn => hn) rv)
          · exact q.elim
        | ex c fs L' =>
          rw [hF] at q
          simp only at q
          split at q
          · rename_i fs' L2 e4 e5
            intro ρ' H' dx p t h2 rx
            obtain ⟨ρ2, p2, hr2, tr⟩ := lback_hr (rs := refsDs (fs'.map (·.2))) nd hh t ex l0 hfx hfx2 p h2 e5
            refine q ρ2 H' dx p2 t hr2 ?_
            have frm : ∀ {fs fs' : List (Str × D)} {vs : List (Str × V)}, mapF (psi ns L.length) fs = some fs' → (∀ n ∈ refsDs (fs'.map (·.2)), n ∈ refsDs (fs'.map (·.2))) → (∀ d d' v, mapR (psi ns L.length) d = some d' → (∀ n ∈ refsD d', n ∈ refsDs (fs'.map (·.2))) → VR ⟨K, cm, fx'⟩ ρ' H' d v → VR ⟨K, cm, fx⟩ ρ2 H' d' v) → FR ⟨K, cm, fx'⟩ ρ' H' fs vs → FR ⟨K, cm, fx⟩ ρ2 H' fs' vs := by
              intro fs fs' vs e _ k r
              induction r generalizing fs' with
              | nil => cases e; exact .nil
              | cons r t ih =>
                unfold mapF at e
                split at e
                · rename_i x xs h1 h2
                  cases e
                  refine .cons (k _ _ _ h1 (fun n hn => List.mem_append_left _ hn) r) (ih h2 (fun _ h => h) fun d d' v e hn r => k d d' v e (fun n h => List.mem_append_right _ (hn n h)) r)
                · cases e
            rcases rx with ⟨e6, e7⟩ | ⟨d, vs', e6, e7, e8⟩
            · subst e6
              cases e4
              exact .inl ⟨rfl, e7⟩
            · exact .inr ⟨d, vs', e6, e7, frm e4 (fun _ h => h) tr e8⟩
          · exact q.elim
        | bad => rw [hF] at q; exact q.elim
      · exact q.elim
    · exact q.elim
  · exact q.elim
theorem fnF_lrun {P : Program} {w : World} {K : PySem.W.Frag} {mg : Str → Option Value} {base : Heap} {cm : Nat → Addr} {k : Nat} {f : Addr} {fd : FuncData} {ps : List Str} {F : FS} (h : FnF P w K mg base cm k f fd ps F) : FnF P w K mg base cm k f fd ps (lrun F) :=
  FnOk.imp h fun vs H Q E q => lrun_sp q
end Tw
end

section
set_option Elab.async false
set_option linter.all false
set_option maxRecDepth 100000
set_option maxHeartbeats 1000000
/-! Tw, part S: plain reasoning about defs run in small heaps. -/
namespace Tw
open PySem PySem.Spec L2
/-! ### data without places -/
mutual
theorem mapR_pure {φ : Nat → Option Nat} : ∀ (d : D), refsD d = [] → mapR φ d = some d
  | .non, _ => rfl
  | .bl _, _ => rfl
  | .int _, _ => rfl
  | .str _, _ => rfl
  | .cls _, _ => rfl
  | .ty _, _ => rfl
  | .ref n, h => by cases h
  | .tup xs, h => by unfold mapR; rw [mapRs_pure xs h]; rfl
  | .rol xs, h => by unfold mapR; rw [mapRs_pure xs h]; rfl
theorem mapRs_pure {φ : Nat → Option Nat} : ∀ (ds : List D), refsDs ds = [] → mapRs φ ds = some ds
  | [], _ => rfl
  | d :: ds, h => by
    have h' := List.append_eq_nil_iff.mp (show refsD d ++ refsDs ds = [] from h)
    unfold mapRs
    rw [mapR_pure d h'.1, mapRs_pure ds h'.2]
end
theorem mapF_pure {φ : Nat → Option Nat} : ∀ (fs : List (Str × D)), refsDs (fs.map (·.2)) = [] → mapF φ fs = some fs
  | [], _ => rfl
  | (f, d) :: ds, h => by
    have h' := List.append_eq_nil_iff.mp (show refsD d ++ refsDs (ds.map (·.2)) = [] from h)
    unfold mapF
    rw [mapR_pure d h'.1, mapF_pure ds h'.2]
theorem mapK_pure {φ : Nat → Option Nat} : ∀ (fs : List (Key × D)), refsDs (fs.map (·.2)) = [] → mapK φ fs = some fs
  | [], _ => rfl
  | (f, d) :: ds, h => by
    have h' := List.append_eq_nil_iff.mp (show refsD d ++ refsDs (ds.map (·.2)) = [] from h)
    unfold mapK
    rw [mapR_pure d h'.1, mapK_pure ds h'.2]
theorem mapO_pure {φ : Nat → Option Nat} (o : O) (h : refsO o = []) : mapO φ o = some o := by
  cases o with
  | lst xs => show (mapRs φ xs).map O.lst = _; rw [mapRs_pure xs h]; rfl
  | ins c fs => show (mapF φ fs).map (O.ins c) = _; rw [mapF_pure fs h]; rfl
  | dic lk ks => show (mapK φ ks).map (O.dic lk) = _; rw [mapK_pure ks h]; rfl
/-! psi gives every place a number -/
theorem psi_some (ns : List Nat) (N j : Nat) : ∃ m, psi ns N j = some m := by
  unfold psi
  split
  · rename_i h; exact ⟨ns[j], by simp [h]⟩
  · exact ⟨_, rfl⟩
mutual
theorem mapR_psi (ns : List Nat) (N : Nat) : ∀ d : D, ∃ e, mapR (psi ns N) d = some e
  | .non => ⟨_, rfl⟩
  | .bl _ => ⟨_, rfl⟩
  | .int _ => ⟨_, rfl⟩
  | .str _ => ⟨_, rfl⟩
  | .cls _ => ⟨_, rfl⟩
  | .ty _ => ⟨_, rfl⟩
  | .ref n => by obtain ⟨m, h⟩ := psi_some ns N n; exact ⟨.ref m, by unfold mapR; rw [h]; rfl⟩
  | .tup xs => by obtain ⟨m, h⟩ := mapRs_psi ns N xs; exact ⟨.tup m, by unfold mapR; rw [h]; rfl⟩
  | .rol xs => by obtain ⟨m, h⟩ := mapRs_psi ns N xs; exact ⟨.rol m, by unfold mapR; rw [h]; rfl⟩
theorem mapRs_psi (ns : List Nat) (N : Nat) : ∀ ds : List D, ∃ es, mapRs (psi ns N) ds = some es
  | [] => ⟨_, rfl⟩
  | d :: ds => by
    obtain ⟨e, h⟩ := mapR_psi ns N d
    obtain ⟨es, h2⟩ := mapRs_psi ns N ds
    exact ⟨e :: es, by unfold mapRs; rw [h, h2]⟩
end
theorem mapF_psi (ns : List Nat) (N : Nat) : ∀ ds : List (Str × D), ∃ es, mapF (psi ns N) ds = some es
  | [] => ⟨_, rfl⟩
  | (f, d) :: ds => by
    obtain ⟨e, h⟩ := mapR_psi ns N d
    obtain ⟨es, h2⟩ := mapF_psi ns N ds
    exact ⟨_, by unfold mapF; rw [h, h2]⟩
theorem mapK_psi (ns : List Nat) (N : Nat) : ∀ ds : List (Key × D), ∃ es, mapK (psi ns N) ds = some es
  | [] => ⟨_, rfl⟩
  | (f, d) :: ds => by
    obtain ⟨e, h⟩ := mapR_psi ns N d
    obtain ⟨es, h2⟩ := mapK_psi ns N ds
    exact ⟨_, by unfold mapK; rw [h, h2]⟩
theorem mapO_psi (ns : List Nat) (N : Nat) (o : O) : ∃ e, mapO (psi ns N) o = some e := by
  cases o with
  | lst xs => obtain ⟨m, h⟩ := mapRs_psi ns N xs; exact ⟨_, by show (mapRs _ xs).map O.lst = _; rw [h]; rfl⟩
  | ins c fs => obtain ⟨m, h⟩ := mapF_psi ns N fs; exact ⟨_, by show (mapF _ fs).map (O.ins c) = _; rw [h]; rfl⟩
  | dic lk ks => obtain ⟨m, h⟩ := mapK_psi ns N ks; exact ⟨_, by show (mapK _ ks).map (O.dic lk) = _; rw [h]; rfl⟩
theorem optAll_psi (ns : List Nat) (N : Nat) : ∀ L : List O, ∃ L2, optAll (mapO (psi ns N)) L = some L2
  | [] => ⟨_, rfl⟩
  | o :: L => by
    obtain ⟨e, h⟩ := mapO_psi ns N o
    obtain ⟨es, h2⟩ := optAll_psi ns N L
    exact ⟨e :: es, by unfold optAll; rw [h, h2]⟩
theorem optAll_cons {α β : Type} {f : α → Option β} {x : α} {xs : List α} {y : β} {ys : List β} (h : f x = some y) (h2 : optAll f xs = some ys) : optAll f (x :: xs) = some (y :: ys) := by
  unfold optAll
  rw [h, h2]
/-- places os (at ns), all without places in them: what F does there is done here -/
theorem lrunAt_flat {F : FS} {ns : List Nat} {ds es : List D} {L os os2 X : List O} {d : D} (nd : ns.Nodup) (h1 : mapRs (posN ns) ds = some es) (h2 : optAll (fun n => L[n]?) ns = some os) (h3 : ∀ o ∈ os, refsO o = []) (hF : F es os = .ok d (os2 ++ X)) (hl : os2.length = ns.length) (h4 : ∀ o ∈ os2, refsO o = []) (hd : refsD d = []) :
    lrunAt ns F ds L = .ok d (setAll ns os2 L) := by
  unfold lrunAt
  have e3 : optAll (mapO (posN ns)) os = some os := by
    clear h2 hF
    induction os with
    | nil => rfl
    | cons o os ih => exact optAll_cons (mapO_pure o (h3 o List.mem_cons_self)) (ih fun o ho => h3 o (List.mem_cons_of_mem _ ho))
  obtain ⟨L2, e5⟩ := optAll_psi ns L.length (os2 ++ X)
  have hL2 : ∀ (a b : List O) (r : List O), (∀ o ∈ a, refsO o = []) → optAll (mapO (psi ns L.length)) (a ++ b) = some r → ∃ s, r = a ++ s := by
    intro a
    induction a with
    | nil => intro b r _ _; exact ⟨r, rfl⟩
    | cons o a ih =>
      intro b r h e
      rw [List.cons_append] at e
      unfold optAll at e
      split at e
      · rename_i y ys q1 q2
        cases e
        rw [mapO_pure o (h o List.mem_cons_self)] at q1
        cases q1
        obtain ⟨s, rfl⟩ := ih b ys (fun o ho => h o (List.mem_cons_of_mem _ ho)) q2
        exact ⟨s, rfl⟩
      · cases e
  obtain ⟨s, rfl⟩ := hL2 os2 X L2 h4 e5
  rw [h1, h2]
  simp only [e3, if_pos nd, hF, mapR_pure d hd, e5]
  unfold lback
  rw [if_pos]
  · congr 1
    have : ∀ (ns : List Nat) (a b L : List O), a.length = ns.length → setAll ns (a ++ b) L = setAll ns a L := by
      intro ns
      induction ns with
      | nil => intro a b L _; cases a <;> rfl
      | cons n ns ih =>
        intro a b L h
        cases a with
        | nil => simp at h
        | cons o a => exact ih a b _ (by simpa using h)
    exact this ns os2 s L hl
  · refine ⟨by rw [hd]; rfl, ?_⟩
    rw [← hl, List.take_left]
    rw [List.all_eq_true]
    intro o ho
    rw [h4 o ho]
    rfl
theorem reach_nil {L : List O} (seen : List Nat) : reach L lfuel [] seen = seen := rfl
theorem lrun_pure {F : FS} {ds : List D} {L X : List O} {d : D} (h : refsDs ds = []) (hF : F ds [] = .ok d X) (hd : refsD d = []) : lrun F ds L = .ok d L := by
  unfold lrun
  rw [h]
  have : reach L lfuel [] [] = [] := rfl
  rw [this]
  exact lrunAt_flat (os := []) (os2 := []) List.nodup_nil (mapRs_pure ds h) rfl (by simp) hF rfl (by simp) hd
theorem reach_one {L : List O} {n : Nat} {o : O} (h : L[n]? = some o) (ho : refsO o = []) : reach L lfuel [n] [] = [n] := by
  show reach L (99999 + 1) [n] [] = [n]
  unfold reach
  simp only [List.contains_nil, Bool.false_eq_true, if_false, h, ho]
  rfl
theorem lrun_bag {F : FS} {n : Nat} {rest : List D} {L X : List O} {o o' : O} {d : D} (hr : refsDs rest = []) (h : L[n]? = some o) (ho : refsO o = []) (hF : F (.ref 0 :: rest) [o] = .ok d (o' :: X)) (ho' : refsO o' = []) (hd : refsD d = []) : lrun F (.ref n :: rest) L = .ok d (L.set n o') := by
  unfold lrun
  have e : refsDs (.ref n :: rest) = [n] := by show [n] ++ refsDs rest = [n]; rw [hr]; rfl
  rw [e, reach_one h ho]
  refine lrunAt_flat (os := [o]) (os2 := [o']) (es := .ref 0 :: rest) (X := X) (by simp) ?_ (optAll_cons h rfl) (by simpa using ho) hF rfl (by simpa using ho') hd
  unfold mapRs
  rw [mapRs_pure rest hr]
  simp [mapR, posN]
theorem reach_two {L : List O} {n m : Nat} {o p : O} (h : L[n]? = some o) (ho : refsO o = []) (h2 : L[m]? = some p) (hp : refsO p = []) (hn : n ≠ m) : reach L lfuel [n, m] [] = [n, m] := by
  show reach L (99998 + 1 + 1) [n, m] [] = [n, m]
  unfold reach
  simp only [List.contains_nil, Bool.false_eq_true, if_false, h, ho, List.nil_append]
  unfold reach
  have : ([n] : List Nat).contains m = false := by simp; exact fun e => hn e.symm
  simp only [this, Bool.false_eq_true, if_false, h2, hp, List.nil_append]
  rfl
theorem lrun_two {F : FS} {n m : Nat} {rest : List D} {L X : List O} {o p o' p' : O} {d : D} (hr : refsDs rest = []) (h : L[n]? = some o) (ho : refsO o = []) (h2 : L[m]? = some p) (hp : refsO p = []) (hn : n ≠ m) (hF : F (.ref 0 :: .ref 1 :: rest) [o, p] = .ok d (o' :: p' :: X)) (ho' : refsO o' = []) (hp' : refsO p' = []) (hd : refsD d = []) :
    lrun F (.ref n :: .ref m :: rest) L = .ok d ((L.set n o').set m p') := by
  unfold lrun
  have e : refsDs (.ref n :: .ref m :: rest) = [n, m] := by show [n] ++ ([m] ++ refsDs rest) = [n, m]; rw [hr]; rfl
  rw [e, reach_two h ho h2 hp hn]
  refine lrunAt_flat (os := [o, p]) (os2 := [o', p']) (es := .ref 0 :: .ref 1 :: rest) (X := X) (by simp [hn]) ?_ (optAll_cons h (optAll_cons h2 rfl)) (by simp [ho, hp]) hF rfl (by simp [ho', hp']) hd
  unfold mapRs
  unfold mapRs
  rw [mapRs_pure rest hr]
  simp [mapR, posN, hn]
theorem lrun_same {F : FS} {n : Nat} {rest : List D} {L X : List O} {o o' : O} {d : D} (hr : refsDs rest = []) (h : L[n]? = some o) (ho : refsO o = []) (hF : F (.ref 0 :: .ref 0 :: rest) [o] = .ok d (o' :: X)) (ho' : refsO o' = []) (hd : refsD d = []) : lrun F (.ref n :: .ref n :: rest) L = .ok d (L.set n o') := by
  unfold lrun
  have e : refsDs (.ref n :: .ref n :: rest) = [n, n] := by show [n] ++ ([n] ++ refsDs rest) = [n, n]; rw [hr]; rfl
  have e2 : reach L lfuel [n, n] [] = [n] := by
    show reach L (99998 + 1 + 1) [n, n] [] = [n]
    unfold reach
    simp only [List.contains_nil, Bool.false_eq_true, if_false, h, ho, List.nil_append]
    unfold reach
    simp
    rfl
  rw [e, e2]
  refine lrunAt_flat (os := [o]) (os2 := [o']) (es := .ref 0 :: .ref 0 :: rest) (X := X) (by simp) ?_ (optAll_cons h rfl) (by simpa using ho) hF rfl (by simpa using ho') hd
  unfold mapRs
  unfold mapRs
  rw [mapRs_pure rest hr]
  simp [mapR, posN]

/-- a new thing is handed back -/
theorem lrun_new {F : FS} {ds : List D} {L X : List O} {o : O} (h : refsDs ds = []) (hF : F ds [] = .ok (.ref 0) [o]) (ho : refsO o = []) : lrun F ds L = .ok (.ref L.length) (L ++ [o]) := by
  unfold lrun
  rw [h]
  have : reach L lfuel [] [] = [] := rfl
  rw [this]
  unfold lrunAt
  rw [mapRs_pure ds h]
  have e : mapR (psi [] L.length) (.ref 0) = some (.ref L.length) := rfl
  have e2 : optAll (mapO (psi [] L.length)) [o] = some [o] := optAll_cons (mapO_pure o ho) rfl
  show (match F ds [] with | .ok d L' => _ | .ex c fs L' => _ | .bad => _) = _
  rw [hF]
  simp only [e, e2]
  unfold lback
  rw [if_neg]
  · rfl
  · intro z
    have : decide (L.length < L.length) = true := by
      have := z.1
      simp [refsD, small] at this
    simp at this
theorem loop_nx {src : Src} {t : MG} {body : MS} (I : Nat → En → List O → Prop) (hok : ∀ i ε L, I i ε L → src.ok L = true) : ∀ (ds : List D) (k : Nat) (ε : En) (L : List O),
    (∀ i d ε L, ds[i]? = some d → I (k + i) ε L → ∃ ε1 ε2 L2, t.f d ε = some ε1 ∧ (body ε1 L = .nx ε2 L2 ∨ body ε1 L = .ct ε2 L2) ∧ I (k + i + 1) ε2 L2) → I k ε L → ∃ ε2 L2, loopF src t body ds ε L = .nx ε2 L2 ∧ I (k + ds.length) ε2 L2
  | [], k, ε, L, _, h0 => ⟨ε, L, by unfold loopF; rw [if_pos (hok _ _ _ h0)], h0⟩
  | d :: ds, k, ε, L, step, h0 => by
    obtain ⟨ε1, ε2, L2, h1, h2, h3⟩ := step 0 d ε L rfl h0
    obtain ⟨ε3, L3, h4, h5⟩ := loop_nx I hok ds (k + 1) ε2 L2 (fun i d ε L e hi => by
      have := step (i + 1) d ε L (by simpa using e) (by rw [← Nat.add_assoc, Nat.add_right_comm]; exact hi)
      rw [← Nat.add_assoc, Nat.add_right_comm k i 1] at this
      exact this) h3
    refine ⟨ε3, L3, ?_, by rw [List.length_cons, ← Nat.add_assoc, Nat.add_right_comm]; exact h5⟩
    unfold loopF
    rw [if_pos (hok _ _ _ h0), h1]
    rcases h2 with h2 | h2 <;> simp only [h2] <;> exact h4
/-- the same from 0 -/
theorem loop_all {src : Src} {t : MG} {body : MS} (I : Nat → En → List O → Prop) {ds : List D} {ε : En} {L : List O} (hok : ∀ i ε L, I i ε L → src.ok L = true) (h0 : I 0 ε L)
    (step : ∀ i d ε L, ds[i]? = some d → I i ε L → ∃ ε1 ε2 L2, t.f d ε = some ε1 ∧ (body ε1 L = .nx ε2 L2 ∨ body ε1 L = .ct ε2 L2) ∧ I (i + 1) ε2 L2) : ∃ ε2 L2, loopF src t body ds ε L = .nx ε2 L2 ∧ I ds.length ε2 L2 := by
  obtain ⟨ε2, L2, h1, h2⟩ := loop_nx I hok ds 0 ε L (fun i d ε L e hi => by rw [Nat.zero_add] at hi ⊢; exact step i d ε L e hi) h0
  exact ⟨ε2, L2, h1, by rwa [Nat.zero_add] at h2⟩
theorem rngD_get {lo : Int} {n i : Nat} {d : D} (h : (rngD lo n)[i]? = some d) : d = .int (lo + i) ∧ i < n := by
  have hi : i < n := by
    obtain ⟨q, _⟩ := List.getElem?_eq_some_iff.mp h
    rw [rngD_len] at q; exact q
  simp only [rngD, List.getElem?_map, List.getElem?_range hi, Option.map_some, Option.some.injEq] at h
  exact ⟨h.symm, hi⟩
/-! ### ints and texts as data -/
theorem toPy_ints (L : List O) (n : Nat) : ∀ ns : List Int, optAll (toPy L (n + 1)) (ns.map D.int) = some (ns.map PyData.int)
  | [] => rfl
  | m :: ns => optAll_cons rfl (toPy_ints L n ns)
theorem lay_ints : ∀ ns : List Int, PyData.canLayAll0 (ns.map PyData.int) = true
  | [] => by simp [PyData.canLayAll0]
  | m :: ns => by simp [PyData.canLayAll0, PyData.canLay0, lay_ints ns]
theorem depth_ints : ∀ ns : List Int, PyData.depthAll (ns.map PyData.int) = 0
  | [] => by simp [PyData.depthAll]
  | m :: ns => by simp [PyData.depthAll, PyData.depth, depth_ints ns]
theorem shaped_ints (ns : List Int) : SeqAt.shaped (.list (ns.map PyData.int)) = true := by
  unfold SeqAt.shaped
  simp [PyData.canLay0, lay_ints, PyData.depth, depth_ints]
theorem shaped_int (i : Int) : SeqAt.shaped (.int i) = true := by
  unfold SeqAt.shaped
  simp [PyData.canLay0, PyData.depth]
theorem any_ints (i : Int) : ∀ ns : List Int, ((ns.map PyData.int).any fun z => PyData.eqv z (.int i)) = decide (i ∈ ns)
  | [] => rfl
  | m :: ns => by
    rw [List.map_cons, List.any_cons, any_ints i ns]
    simp only [PyData.eqv, List.mem_cons]
    by_cases h : m = i
    · subst h; simp
    · have : ¬ i = m := fun e => h e.symm
      simp [h, this]
/-- i in [ints] -/
theorem inD_ints {L : List O} {n : Nat} {ns : List Int} {i : Int} (h : L[n]? = some (.lst (ns.map D.int))) : inD L (.int i) (.ref n) = some (decide (i ∈ ns)) := by
  have e1 : toPy L pyDeep (.int i) = some (.int i) := rfl
  have e2 : toPy L pyDeep (.ref n) = some (.list (ns.map PyData.int)) := by
    show (match L[n]? with | some (.lst ds) => (optAll (toPy L 15) ds).map PyData.list | _ => none) = _
    rw [h]
    show (optAll (toPy L (14 + 1)) (ns.map D.int)).map PyData.list = _
    rw [toPy_ints]
    rfl
  unfold inD
  simp only [h, e1, e2, shaped_int, shaped_ints, and_self, if_true, any_ints]
/-- [e for t in src] without tests: F gives each item -/
theorem comp_map {src : Src} {t : MG} {te : ME} {ε : En} {n : Nat} (f : D → D) : ∀ (ds acc : List D) (L : List O), L[n]? = some (.lst acc) → (∀ L, src.ok L = true) → (∀ d ∈ ds, ∀ L, ∃ ε1, t.f d ε = some ε1 ∧ te ε1 L = .ok (f d) L) → acc.length + ds.length ≤ 1000000 →
    loopC src t mYes te n ε ds L = .ok (.ref n) (L.set n (.lst (acc ++ ds.map f)))
  | [], acc, L, h, hok, _, _ => by
    unfold loopC
    rw [if_pos (hok L), List.map_nil, List.append_nil]
    have : L.set n (.lst acc) = L := by
      obtain ⟨hn, e⟩ := List.getElem?_eq_some_iff.mp h
      rw [← e]
      exact List.set_getElem_self hn
    rw [this]
  | d :: ds, acc, L, h, hok, hf, hl => by
    obtain ⟨ε1, h1, h2⟩ := hf d List.mem_cons_self L
    have hn : n < L.length := (List.getElem?_eq_some_iff.mp h).1
    unfold loopC
    rw [if_pos (hok L), h1]
    simp only [mYes, Rs.nox, Rs.bind, if_true, h2, h]
    rw [if_pos (by simp at hl; unfold most; omega)]
    rw [comp_map f ds (acc ++ [f d]) _ (List.getElem?_set_self hn) hok (fun e he => hf e (List.mem_cons_of_mem _ he)) (by simp at hl ⊢; omega)]
    rw [List.set_set, List.append_assoc]
    rfl

/-- [d for d in src if p d] -/
theorem comp_filter {src : Src} {t : MG} {tt : MB} {te : ME} {ε : En} {n : Nat} (p : D → Bool) : ∀ (ds acc : List D) (L : List O), L[n]? = some (.lst acc) → (∀ L, src.ok L = true) → (∀ d ∈ ds, ∀ L, ∃ ε1, t.f d ε = some ε1 ∧ tt ε1 L = .ok (p d) L ∧ te ε1 L = .ok d L) → acc.length + ds.length ≤ 1000000 →
    loopC src t tt te n ε ds L = .ok (.ref n) (L.set n (.lst (acc ++ ds.filter p)))
  | [], acc, L, h, hok, _, _ => by
    unfold loopC
    rw [if_pos (hok L), List.filter_nil, List.append_nil]
    have : L.set n (.lst acc) = L := by
      obtain ⟨hn, e⟩ := List.getElem?_eq_some_iff.mp h
      rw [← e]
      exact List.set_getElem_self hn
    rw [this]
  | d :: ds, acc, L, h, hok, hf, hl => by
    obtain ⟨ε1, h1, h2, h3⟩ := hf d List.mem_cons_self L
    have hn : n < L.length := (List.getElem?_eq_some_iff.mp h).1
    unfold loopC
    rw [if_pos (hok L), h1]
    cases hp : p d with
    | false =>
      rw [hp] at h2
      simp only [h2, Rs.nox, Rs.bind, Bool.false_eq_true, if_false]
      rw [comp_filter p ds acc L h hok (fun e he => hf e (List.mem_cons_of_mem _ he)) (by simp at hl ⊢; omega), List.filter_cons_of_neg (by simp [hp])]
    | true =>
      rw [hp] at h2
      simp only [h2, Rs.nox, Rs.bind, if_true, h3, h]
      rw [if_pos (by simp at hl; unfold most; omega)]
      rw [comp_filter p ds (acc ++ [d]) _ (List.getElem?_set_self hn) hok (fun e he => hf e (List.mem_cons_of_mem _ he)) (by simp at hl ⊢; omega)]
      rw [List.set_set, List.append_assoc, List.filter_cons_of_pos hp]
      rfl

/-! ### data that == and repr take -/
structure NiceP (k : Nat) (d : D) (p : PyData) : Prop where
  py : ∀ (L : List O) (n : Nat), k < n → toPy L n d = some p
  lay : p.canLay0 = true
  dep : p.depth ≤ k
def Nice (k : Nat) (d : D) : Prop := ∃ p, NiceP k d p
theorem nice_int (i : Int) : NiceP 0 (.int i) (.int i) := ⟨fun L n h => by cases n with | zero => omega | succ n => rfl, by simp [PyData.canLay0], by simp [PyData.depth]⟩
theorem nice_bl (b : Bool) : NiceP 0 (.bl b) (.bool b) := ⟨fun L n h => by cases n with | zero => omega | succ n => rfl, by simp [PyData.canLay0], by simp [PyData.depth]⟩
theorem nice_str {x : Str} (h : (PyData.str x).canLay0 = true) : NiceP 0 (.str x) (.str x) := ⟨fun L n h => by cases n with | zero => omega | succ n => rfl, h, by simp [PyData.depth]⟩
theorem NiceP.up {k j : Nat} {d : D} {p : PyData} (h : NiceP k d p) (hj : k ≤ j) : NiceP j d p := ⟨fun L n hn => h.py L n (by omega), h.lay, Nat.le_trans h.dep hj⟩
theorem nice_all {k : Nat} : ∀ {ds : List D}, (∀ d ∈ ds, Nice k d) → ∃ ps : List PyData, (∀ L n, k < n → optAll (toPy L n) ds = some ps) ∧ PyData.canLayAll0 ps = true ∧ PyData.depthAll ps ≤ k
  | [], _ => ⟨[], fun _ _ _ => rfl, by simp [PyData.canLayAll0], by simp [PyData.depthAll]⟩
  | d :: ds, h => by
    obtain ⟨p, hp⟩ := h d List.mem_cons_self
    obtain ⟨ps, h1, h2, h3⟩ := nice_all (ds := ds) fun e he => h e (List.mem_cons_of_mem _ he)
    refine ⟨p :: ps, fun L n hn => optAll_cons (hp.py L n hn) (h1 L n hn), by simp [PyData.canLayAll0, hp.lay, h2], ?_⟩
    have := hp.dep
    simp only [PyData.depthAll]
    omega
theorem nice_tup {k : Nat} {ds : List D} (h : ∀ d ∈ ds, Nice k d) : Nice (k + 1) (.tup ds) := by
  obtain ⟨ps, h1, h2, h3⟩ := nice_all h
  refine ⟨.tuple ps, fun L n hn => ?_, by simpa [PyData.canLay0] using h2, by simp only [PyData.depth]; omega⟩
  cases n with
  | zero => omega
  | succ n =>
    show (optAll (toPy L n) ds).map PyData.tuple = _
    rw [h1 L n (by omega)]
    rfl
theorem NiceP.shaped {k : Nat} {d : D} {p : PyData} (h : NiceP k d p) (hk : k ≤ 64) : SeqAt.shaped p = true := by
  unfold SeqAt.shaped
  rw [h.lay, Bool.true_and]
  exact decide_eq_true (Nat.le_trans h.dep hk)
theorem eqData_nice {k j : Nat} {d e : D} {p q : PyData} (h : NiceP k d p) (h2 : NiceP j e q) (hk : k < 16) (hj : j < 16) (L : List O) : eqData L d e = some (PyData.eqv p q) := by
  unfold eqData
  rw [h.py L pyDeep hk, h2.py L pyDeep hj]
  simp only [h.shaped (by omega), h2.shaped (by omega), and_self, if_true]
mutual
theorem eqv_refl : ∀ p : PyData, p.canLay0 = true → PyData.eqv p p = true
  | .none, _ => rfl
  | .bool b, _ => by simp [PyData.eqv]
  | .int i, _ => by simp [PyData.eqv]
  | .str x, _ => by simp [PyData.eqv]
  | .list xs, h => by unfold PyData.eqv; exact eqvAll_refl xs (by simpa [PyData.canLay0] using h)
  | .tuple xs, h => by unfold PyData.eqv; exact eqvAll_refl xs (by simpa [PyData.canLay0] using h)
  | .dict _, h => by simp [PyData.canLay0] at h
theorem eqvAll_refl : ∀ ps : List PyData, PyData.canLayAll0 ps = true → PyData.eqvAll ps ps = true
  | [], _ => rfl
  | p :: ps, h => by
    simp only [PyData.canLayAll0, Bool.and_eq_true] at h
    unfold PyData.eqvAll
    rw [eqv_refl p h.1, eqvAll_refl ps h.2]
    rfl
end

mutual
theorem eqv_symm : ∀ p q : PyData, PyData.eqv p q = PyData.eqv q p
  | .none, q => by cases q <;> simp [PyData.eqv]
  | .bool a, q => by
    cases q <;> simp [PyData.eqv]
    · exact Bool.beq_comm
    · exact BEq.comm
  | .int a, q => by
    cases q <;> simp [PyData.eqv]
    · exact BEq.comm
    · exact BEq.comm
  | .str a, q => by
    cases q <;> simp [PyData.eqv]
    exact BEq.comm
  | .list xs, q => by
    cases q <;> simp [PyData.eqv]
    exact eqvAll_symm xs _
  | .tuple xs, q => by
    cases q <;> simp [PyData.eqv]
    exact eqvAll_symm xs _
  | .dict _, q => by cases q <;> simp [PyData.eqv]
theorem eqvAll_symm : ∀ p q : List PyData, PyData.eqvAll p q = PyData.eqvAll q p
  | [], q => by cases q <;> simp [PyData.eqvAll]
  | x :: xs, q => by
    cases q with
    | nil => simp [PyData.eqvAll]
    | cons y ys =>
      simp only [PyData.eqvAll]
      rw [eqv_symm x y, eqvAll_symm xs ys]
end
end Tw
end

section
set_option Elab.async false
set_option linter.all false
set_option maxRecDepth 100000
set_option maxHeartbeats 4000000
namespace K05
open PySem PySem.Spec L2 Tw
open PyProof.Rows (envOfC)
def top (i : Nat) : Stmt := PySem.Challenge.pw_treewaits_k05_ways_made.main.body.getD i (.Pass ⟨0, 0, 0, 0⟩)
abbrev d_WORDS : D := (.tup [(.str "take"), (.str "try"), (.str "leap")])
abbrev d_MODES : D := (.tup [(.str "shared"), (.str "alone"), (.str "rising")])
abbrev d_MOST_POINTS : D := (.int 4)
abbrev d_MOST_TAKES : D := (.int 5)
def gi_Way_K0_takes_points_hops : List Nat := [0, 2, 1, 3]
def gd_Way_K0_takes_points_hops : List D → List D → List D := fun us ws => pick gi_Way_K0_takes_points_hops (us ++ ([] ++ ws))
def gi_Way_K2_hops : List Nat := [0, 1, 2, 3]
def gd_Way_K2_hops : List D → List D → List D := fun us ws => pick gi_Way_K2_hops (us ++ ([] ++ ws))
def m_is_integer : MS := (mRet (mAndV (mIsi (isiT .int []) (mVar 0)) (mNotV (mIsi (isiT .bl []) (mVar 0)))))
def F_is_integer : FS := runF 1 1 m_is_integer
def G_is_integer : FS := lrun F_is_integer
def m_is_place : MS := (mSeq (mIf (mOrB (mNotB (mTru (mIsi (isiT .tup []) (mVar 0)))) (mOrB (mTst (mOp2 oNotIn (mFn cLen (mCons (mVar 0) mNil)) (mTup (mCons (mC (.int 1)) (mCons (mC (.int 2)) mNil))))) (mNotB (mTru (mIsi (isiT .str []) (mOp2 oIdx (mVar 0) (mC (.int 0)))))))) (mRet (mC (.bl false))) mNext)
  (mSeq (mIf (mTst (mOp2 oEq (mFn cLen (mCons (mVar 0) mNil)) (mC (.int 1)))) (mRet (mOp2 oEq (mOp2 oIdx (mVar 0) (mC (.int 0))) (mC (.str "parent")))) mNext)
  (mRet (mAndV (mOp2 oEq (mOp2 oIdx (mVar 0) (mC (.int 0))) (mC (.str "child"))) (mAndV (mCall G_is_integer (mCons (mOp2 oIdx (mVar 0) (mC (.int 1))) mNil)) (mChain oLe oLe (mC (.int 0)) (mOp2 oIdx (mVar 0) (mC (.int 1))) (mVar 1)))))))
def F_is_place : FS := runF 2 2 m_is_place
def G_is_place : FS := lrun F_is_place
def m_checked_points : MS := (mSeq (mIf (mOrB (mNotB (mTru (mIsi (isiT .tup []) (mVar 0)))) (mTst (mOp2 oGt (mFn cLen (mCons (mVar 0) mNil)) (mC d_MOST_POINTS)))) mBad mNext)
  (mFor (mEnum (mVar 0)) (gTupM 2 (gsCons (gNm 1) (gsCons (gNm 2) gsNil))) (mIf (mNotB (mTru (mCall G_is_place (mCons (mVar 2) (mCons (mVar 1) mNil))))) mBad mNext)))
def F_checked_points : FS := runF 1 3 m_checked_points
def G_checked_points : FS := lrun F_checked_points
def m_is_take : MS := (mSeq (mIf (mOrB (mNotB (mTru (mIsi (isiT .tup []) (mVar 0)))) (mTst (mOp2 oNe (mFn cLen (mCons (mVar 0) mNil)) (mC (.int 3))))) (mRet (mC (.bl false))) mNext)
  (mSeq (mAsg (mVar 0) (gTupM 3 (gsCons (gNm 2) (gsCons (gNm 3) (gsCons (gNm 4) gsNil)))))
  (mSeq (mIf (mOrB (mNotB (mTru (mIsi (isiT .str []) (mVar 2)))) (mOrB (mNotB (mTru (mIsi (isiT .str []) (mVar 4)))) (mNotB (mTru (mCall G_is_integer (mCons (mVar 3) mNil)))))) (mRet (mC (.bl false))) mNext)
  (mRet (mAndV (mOp2 oIn (mVar 2) (mC d_WORDS)) (mAndV (mOp2 oIn (mVar 4) (mC d_MODES)) (mChain oLe oLt (mC (.int 0)) (mVar 3) (mVar 1))))))))
def F_is_take : FS := runF 2 5 m_is_take
def G_is_take : FS := lrun F_is_take
def m_is_allowed : MS := (mSeq (mAsg (mOp2 oIdx (mVar 0) (mVar 1)) (gTupM 3 (gsCons (gNm 3) (gsCons (gNm 4) (gsCons (gNm 5) gsNil)))))
  (mSeq (mIf (mTst (mOp2 oIn (mVar 4) (mComp [7] (mIter (mSl (mVar 0) mNoPart (mPart (mVar 1)))) (gNm 7) mYes (mOp2 oIdx (mVar 7) (mC (.int 1)))))) (mRet (mC (.bl false))) mNext)
  (mSeq (mSet 6 (mChain oLe oLe (mC (.int 1)) (mVar 1) (mVar 2)))
  (mSeq (mIf (mTst (mOp2 oEq (mVar 3) (mIfE (mTru (mVar 6)) (mC (.str "try")) (mC (.str "leap"))))) (mRet (mC (.bl false))) mNext)
  (mRet (mOrV (mOp2 oNe (mVar 5) (mC (.str "rising"))) (mAndV (mNotV (mVar 6)) (mAndV (mOp2 oGt (mVar 1) (mC (.int 0))) (mOp2 oNe (mOp2 oIdx (mOp2 oIdx (mVar 0) (mOp2 oSub (mVar 1) (mC (.int 1)))) (mC (.int 2))) (mC (.str "shared")))))))))))
def F_is_allowed : FS := runF 3 8 m_is_allowed
def G_is_allowed : FS := lrun F_is_allowed
def m_checked_takes : MS := (mSeq (mIf (mOrB (mNotB (mTru (mCall G_is_integer (mCons (mVar 2) mNil)))) (mTst (mOp2 oLt (mVar 2) (mC (.int 0))))) mBad mNext)
  (mSeq (mIf (mOrB (mNotB (mTru (mIsi (isiT .tup []) (mVar 1)))) (mNotB (mTst (mChain oLe oLe (mC (.int 1)) (mFn cLen (mCons (mVar 1) mNil)) (mC d_MOST_TAKES))))) mBad mNext)
  (mSeq (mIf (mTst (mOp2 oGe (mVar 2) (mFn cLen (mCons (mVar 1) mNil)))) mBad mNext)
  (mFor (mEnum (mVar 1)) (gTupM 2 (gsCons (gNm 3) (gsCons (gNm 4) gsNil))) (mIf (mOrB (mNotB (mTru (mCall G_is_take (mCons (mVar 4) (mCons (mOp2 oAdd (mFn cLen (mCons (mVar 0) mNil)) (mC (.int 1))) mNil))))) (mNotB (mTru (mCall G_is_allowed (mCons (mVar 1) (mCons (mVar 3) (mCons (mVar 2) mNil))))))) mBad mNext)))))
def F_checked_takes : FS := runF 3 5 m_checked_takes
def G_checked_takes : FS := lrun F_checked_takes
def m_Wayu_initu : MS := (mSeq (mDrop (mCall G_checked_points (mCons (mVar 1) mNil)))
  (mSeq (mDrop (mCall G_checked_takes (mCons (mVar 1) (mCons (mVar 2) (mCons (mVar 3) mNil)))))
  (mSeq (mFldSet 2 "places" (mVar 0) (mVar 1))
  (mSeq (mFldSet 2 "locks" (mVar 0) (mVar 2))
  (mFldSet 2 "walked" (mVar 0) (mVar 3))))))
def F_Wayu_initu : FS := runF 4 4 m_Wayu_initu
def G_Wayu_initu : FS := lrun F_Wayu_initu
def m_Way_points : MS := (mRet (mFld 2 "places" (mVar 0)))
def F_Way_points : FS := runF 1 1 m_Way_points
def G_Way_points : FS := lrun F_Way_points
def m_Way_takes : MS := (mRet (mFld 2 "locks" (mVar 0)))
def F_Way_takes : FS := runF 1 1 m_Way_takes
def G_Way_takes : FS := lrun F_Way_takes
def m_Way_hops : MS := (mRet (mFld 2 "walked" (mVar 0)))
def F_Way_hops : FS := runF 1 1 m_Way_hops
def G_Way_hops : FS := lrun F_Way_hops
def m_Wayu_equ : MS := (mSeq (mIf (mNotB (mTru (mIsi (isiC 2 []) (mVar 1)))) (mRet (mC (.bl false))) mNext)
  (mRet (mOp2 oEq (mTup (mCons (mFld 2 "places" (mVar 0)) (mCons (mFld 2 "locks" (mVar 0)) (mCons (mFld 2 "walked" (mVar 0)) mNil)))) (mTup (mCons (mFld 2 "places" (mVar 1)) (mCons (mFld 2 "locks" (mVar 1)) (mCons (mFld 2 "walked" (mVar 1)) mNil)))))))
def F_Wayu_equ : FS := runF 2 2 m_Wayu_equ
def G_Wayu_equ : FS := lrun F_Wayu_equ
def m_Wayu_lenu : MS := (mRet (mFn cLen (mCons (mFld 2 "locks" (mVar 0)) mNil)))
def F_Wayu_lenu : FS := runF 1 1 m_Wayu_lenu
def G_Wayu_lenu : FS := lrun F_Wayu_lenu
def m_law_bag : MS := (mSeq (mSet 2 (mIfE (mTst (mOp2 oLt (mVar 1) (mFn cLen (mCons (mVar 0) mNil)))) (mOp2 oIdx (mVar 0) (mVar 1)) (mC (.int 0))))
  (mSeq (mSet 3 (mIfE (mTst (mOp2 oGe (mFn cAbs (mCons (mVar 2) mNil)) (mOp2 oPow (mC (.int 10)) (mC (.int 18))))) (mFn cAbs (mCons (mVar 2) mNil)) (mC (.int 0))))
  (mRet (mLst (mCons (mVar 3) (mCons (mOp2 oAdd (mOp2 oAdd (mOp2 oMul (mOp2 oMod (mFn cInt (mCons (mVar 2) mNil)) (mOp2 oAdd (mOp2 oPow (mC (.int 10)) (mC (.int 18))) (mC (.int 3)))) (mC (.int 11))) (mOp2 oMul (mC (.int 7907)) (mVar 1))) (mC (.int 613))) (mCons (mC (.int 0)) mNil)))))))
def Fulaw_bag : FS := runF 2 4 m_law_bag
def Gulaw_bag : FS := lrun Fulaw_bag
def m_law_take : MS := (mSeq (mIf (mTst (mOp2 oGt (mOp2 oIdx (mVar 0) (mC (.int 0))) (mC (.int 0)))) (mSeq (mSet 2 (mOp2 oMod (mFn cInt (mCons (mOp2 oIdx (mVar 0) (mC (.int 0))) mNil)) (mVar 1)))
  (mSeq (mPut (mVar 0) (mC (.int 0)) (mOp2 oFdiv (mOp2 oIdx (mVar 0) (mC (.int 0))) (mVar 1)))
  (mRet (mVar 2)))) mNext)
  (mSeq (mPut (mVar 0) (mC (.int 2)) (mOp2 oAdd (mOp2 oIdx (mVar 0) (mC (.int 2))) (mC (.int 1))))
  (mSeq (mSet 3 (mOp2 oMod (mOp2 oPow (mFn cInt (mCons (mOp2 oAdd (mOp2 oIdx (mVar 0) (mC (.int 1))) (mOp2 oMul (mC (.int 7919)) (mOp2 oIdx (mVar 0) (mC (.int 2))))) mNil)) (mC (.int 3))) (mC (.int 1000000000000000003))))
  (mRet (mOp2 oMod (mOp2 oFdiv (mFn cInt (mCons (mOp2 oMul (mOp2 oFdiv (mVar 3) (mC (.int 17))) (mOp2 oAdd (mOp2 oMod (mOp2 oFdiv (mVar 3) (mC (.int 31))) (mC (.int 1000003))) (mOp2 oMul (mC (.int 7)) (mOp2 oIdx (mVar 0) (mC (.int 2)))))) mNil)) (mC (.int 1009))) (mVar 1))))))
def Fulaw_take : FS := runF 2 4 m_law_take
def Gulaw_take : FS := lrun Fulaw_take
def m_law_points : MS := (mSeq (mSet 2 (mLst mNil))
  (mSeq (mFor (mRng1 (mCall Gulaw_take (mCons (mVar 0) (mCons (mOp2 oAdd (mVar 1) (mC (.int 1))) mNil)))) (gNm 3) (mDrop (mBmL oAppend (mVar 2) (mCons (mIfE (mTst (mOp2 oLt (mCall Gulaw_take (mCons (mVar 0) (mCons (mC (.int 5)) mNil))) (mC (.int 2)))) (mTup (mCons (mC (.str "parent")) mNil)) (mTup (mCons (mC (.str "child")) (mCons (mCall Gulaw_take (mCons (mVar 0) (mCons (mOp2 oAdd (mVar 3) (mC (.int 1))) mNil))) mNil)))) mNil))))
  (mRet (mFn cTuple (mCons (mVar 2) mNil)))))
def Fulaw_points : FS := runF 2 4 m_law_points
def Gulaw_points : FS := lrun Fulaw_points
def m_law_of : MS := (mRet (mOp2 oIdx (mVar 1) (mCall Gulaw_take (mCons (mVar 0) (mCons (mFn cLen (mCons (mVar 1) mNil)) mNil)))))
def Fulaw_of : FS := runF 2 2 m_law_of
def Gulaw_of : FS := lrun Fulaw_of
def m_law_takes : MS := (mSeq (mPar 2 3 (mCons (mListRg1 (mVar 1)) (mCons (mLst mNil) mNil)))
  (mSeq (mSet 4 (mOp2 oAdd (mC (.int 1)) (mCall Gulaw_take (mCons (mVar 0) (mCons (mFn cMin (mCons (mC (.int 5)) (mCons (mVar 1) mNil))) mNil)))))
  (mSeq (mSet 5 (mCall Gulaw_of (mCons (mVar 0) (mCons (mLst (mCons (mC (.int 0)) (mCons (mC (.int 0)) (mCons (mCall Gulaw_take (mCons (mVar 0) (mCons (mVar 4) mNil))) mNil)))) mNil))))
  (mSeq (mFor (mRng1 (mVar 4)) (gNm 6) (mSeq (mSet 7 (mBmL oPop (mVar 2) (mCons (mCall Gulaw_take (mCons (mVar 0) (mCons (mFn cLen (mCons (mVar 2) mNil)) mNil))) mNil)))
  (mSeq (mSet 8 (mChain oLe oLe (mC (.int 1)) (mVar 6) (mVar 5)))
  (mSeq (mSet 9 (mCall Gulaw_of (mCons (mVar 0) (mCons (mLst (mCons (mC (.str "take")) (mCons (mC (.str "take")) (mCons (mC (.str "take")) (mCons (mC (.str "take")) (mCons (mIfE (mTru (mVar 8)) (mC (.str "leap")) (mC (.str "try"))) mNil)))))) mNil))))
  (mSeq (mSet 10 (mLst (mCons (mC (.str "shared")) (mCons (mC (.str "alone")) (mCons (mC (.str "alone")) mNil)))))
  (mSeq (mIf (mAndB (mTst (mOp2 oGt (mVar 6) (mC (.int 0)))) (mAndB (mNotB (mTru (mVar 8))) (mTst (mOp2 oNe (mOp2 oIdx (mOp2 oIdx (mVar 3) (mOp1 oNeg (mC (.int 1)))) (mC (.int 2))) (mC (.str "shared")))))) (mDrop (mBmL oAppend (mVar 10) (mCons (mC (.str "rising")) mNil))) mNext)
  (mDrop (mBmL oAppend (mVar 3) (mCons (mTup (mCons (mVar 9) (mCons (mVar 7) (mCons (mCall Gulaw_of (mCons (mVar 0) (mCons (mVar 10) mNil))) mNil)))) mNil)))))))))
  (mRet (mTup (mCons (mFn cTuple (mCons (mVar 3) mNil)) (mCons (mVar 5) mNil))))))))
def Fulaw_takes : FS := runF 2 11 m_law_takes
def Gulaw_takes : FS := lrun Fulaw_takes
def m_law_parts : MS := (mSeq (mSet 1 (mCall Gulaw_points (mCons (mVar 0) (mCons (mC (.int 4)) mNil))))
  (mSeq (mAsg (mCall Gulaw_takes (mCons (mVar 0) (mCons (mOp2 oAdd (mFn cLen (mCons (mVar 1) mNil)) (mC (.int 1))) mNil))) (gTupM 2 (gsCons (gNm 2) (gsCons (gNm 3) gsNil))))
  (mRet (mTup (mCons (mVar 1) (mCons (mVar 2) (mCons (mVar 3) mNil)))))))
def Fulaw_parts : FS := runF 1 4 m_law_parts
def Gulaw_parts : FS := lrun Fulaw_parts
def m_law_bent : MS := (mSeq (mSet 4 (mCall Gulaw_take (mCons (mVar 0) (mCons (mC (.int 4)) mNil))))
  (mSeq (mAsg (mOp2 oIdx (mVar 2) (mOp1 oNeg (mC (.int 1)))) (gTupM 3 (gsCons (gNm 5) (gsCons (gNm 6) (gsCons (gNm 7) gsNil)))))
  (mSeq (mIf (mTst (mOp2 oEq (mVar 4) (mC (.int 0)))) (mRet (mTup (mCons (mVar 1) (mCons (mOp2 oAdd (mSl (mVar 2) mNoPart (mPart (mOp1 oNeg (mC (.int 1))))) (mTup (mCons (mTup (mCons (mVar 5) (mCons (mVar 6) (mCons (mC (.str "alone")) mNil)))) mNil))) (mCons (mVar 3) mNil))))) mNext)
  (mSeq (mIf (mAndB (mTst (mOp2 oEq (mVar 4) (mC (.int 1)))) (mTst (mOp2 oLt (mFn cLen (mCons (mVar 1) mNil)) (mC (.int 4))))) (mRet (mTup (mCons (mOp2 oAdd (mVar 1) (mTup (mCons (mTup (mCons (mC (.str "parent")) mNil)) mNil))) (mCons (mVar 2) (mCons (mVar 3) mNil))))) mNext)
  (mSeq (mIf (mAndB (mTst (mOp2 oEq (mVar 4) (mC (.int 2)))) (mAndB (mTst (mOp2 oGt (mVar 3) (mC (.int 0)))) (mNotB (mTru (mComp [8] (mIter (mVar 2)) (gNm 8) (mTst (mOp2 oEq (mOp2 oIdx (mVar 8) (mC (.int 0))) (mC (.str "leap")))) (mVar 8)))))) (mRet (mTup (mCons (mVar 1) (mCons (mVar 2) (mCons (mOp2 oSub (mVar 3) (mC (.int 1))) mNil))))) mNext)
  (mRet (mTup (mCons (mVar 1) (mCons (mVar 2) (mCons (mVar 3) mNil))))))))))
def Fulaw_bent : FS := runF 4 9 m_law_bent
def Gulaw_bent : FS := lrun Fulaw_bent
def m_law : MS := (mSeq (mSet 1 (mLst mNil))
  (mSeq (mFor (mRng1 (mFn cMax (mCons (mC (.int 2)) (mCons (mFn cMin (mCons (mC (.int 5)) (mCons (mFn (cLenI 2 G_Wayu_lenu) (mCons (mVar 0) mNil)) mNil))) mNil)))) (gNm 2) (mSeq (mSet 3 (mCall Gulaw_bag (mCons (mVar 0) (mCons (mVar 2) mNil))))
  (mSeq (mAsg (mCall Gulaw_parts (mCons (mVar 3) mNil)) (gTupM 3 (gsCons (gNm 4) (gsCons (gNm 5) (gsCons (gNm 6) gsNil)))))
  (mSeq (mSet 7 (mMakeK 2 G_Wayu_initu gd_Way_K2_hops (mCons (mVar 4) (mCons (mVar 5) mNil)) (mCons (mVar 6) mNil)))
  (mSeq (mIf (mOrB (mTst (mOp2 (oNeI 2 G_Wayu_equ) (mProp 2 G_Way_points (mVar 7)) (mVar 4))) (mOrB (mTst (mOp2 (oNeI 2 G_Wayu_equ) (mProp 2 G_Way_takes (mVar 7)) (mVar 5))) (mOrB (mTst (mOp2 (oNeI 2 G_Wayu_equ) (mProp 2 G_Way_hops (mVar 7)) (mVar 6))) (mTst (mOp2 (oNeI 2 G_Wayu_equ) (mFn (cLenI 2 G_Wayu_lenu) (mCons (mVar 7) mNil)) (mFn (cLenI 2 G_Wayu_lenu) (mCons (mVar 5) mNil))))))) (mRet (mC (.bl false))) mNext)
  (mSeq (mIf (mTst (mOp2 (oNeI 2 G_Wayu_equ) (mFn cRepr (mCons (mLst (mCons (mProp 2 G_Way_points (mVar 7)) (mCons (mProp 2 G_Way_takes (mVar 7)) (mCons (mProp 2 G_Way_hops (mVar 7)) mNil)))) mNil)) (mFn cRepr (mCons (mLst (mCons (mVar 4) (mCons (mVar 5) (mCons (mVar 6) mNil)))) mNil)))) (mRet (mC (.bl false))) mNext)
  (mSeq (mSet 8 (mCall Gulaw_bent (mCons (mVar 3) (mCons (mVar 4) (mCons (mVar 5) (mCons (mVar 6) mNil))))))
  (mSeq (mPar 9 10 (mCons (mMakeK 2 G_Wayu_initu gd_Way_K2_hops (mCons (mOp2 oIdx (mVar 8) (mC (.int 0))) (mCons (mOp2 oIdx (mVar 8) (mC (.int 1))) mNil)) (mCons (mOp2 oIdx (mVar 8) (mC (.int 2))) mNil)) (mCons (mOp2 (oEqI 2 G_Wayu_equ) (mVar 8) (mTup (mCons (mVar 4) (mCons (mVar 5) (mCons (mVar 6) mNil))))) mNil)))
  (mSeq (mIf (mTst (mOp2 (oNeI 2 G_Wayu_equ) (mLst (mCons (mOp2 (oEqI 2 G_Wayu_equ) (mVar 7) (mVar 9)) (mCons (mOp2 (oEqI 2 G_Wayu_equ) (mVar 9) (mVar 7)) (mCons (mNotV (mOp2 (oNeI 2 G_Wayu_equ) (mVar 7) (mVar 9))) mNil)))) (mOp2 oMul (mLst (mCons (mVar 10) mNil)) (mC (.int 3))))) (mRet (mC (.bl false))) mNext)
  (mSeq (mIf (mOrB (mTst (mOp2 (oEqI 2 G_Wayu_equ) (mVar 7) (mTup (mCons (mVar 4) (mCons (mVar 5) (mCons (mVar 6) mNil)))))) (mOrB (mTst (mOp2 (oEqI 2 G_Wayu_equ) (mVar 7) (mVar 5))) (mTst (mOp2 (oEqI 2 G_Wayu_equ) (mVar 7) (mFn (cLenI 2 G_Wayu_lenu) (mCons (mVar 5) mNil)))))) (mRet (mC (.bl false))) mNext)
  (mSeq (mIf (mNotB (mTst (mOp2 (oEqI 2 G_Wayu_equ) (mVar 7) (mMakeK 2 G_Wayu_initu gd_Way_K2_hops (mCons (mVar 4) (mCons (mVar 5) mNil)) (mCons (mVar 6) mNil))))) (mRet (mC (.bl false))) mNext)
  (mDrop (mBmL oAppend (mVar 1) (mCons (mTup (mCons (mVar 7) (mCons (mTup (mCons (mVar 4) (mCons (mVar 5) (mCons (mVar 6) mNil)))) mNil))) mNil))))))))))))))
  (mSeq (mFor (mIter (mVar 1)) (gTupM 2 (gsCons (gNm 11) (gsCons (gNm 8) gsNil))) (mFor (mIter (mVar 1)) (gTupM 2 (gsCons (gNm 9) (gsCons (gNm 12) gsNil))) (mIf (mTst (mOp2 (oNeI 2 G_Wayu_equ) (mOp2 (oEqI 2 G_Wayu_equ) (mVar 11) (mVar 9)) (mOp2 (oEqI 2 G_Wayu_equ) (mVar 8) (mVar 12)))) (mRet (mC (.bl false))) mNext)))
  (mSeq (mSet 13 (mMakeD 2 G_Wayu_initu [(.int 0)] (mCons (mTup mNil) (mCons (mTup (mCons (mTup (mCons (mC (.str "take")) (mCons (mC (.int 0)) (mCons (mC (.str "shared")) mNil)))) mNil)) mNil))))
  (mSeq (mIf (mOrB (mTst (mOp2 (oNeI 2 G_Wayu_equ) (mProp 2 G_Way_hops (mVar 13)) (mC (.int 0)))) (mTst (mOp2 (oNeI 2 G_Wayu_equ) (mVar 13) (mMakeK 2 G_Wayu_initu gd_Way_K0_takes_points_hops mNil (mCons (mTup (mCons (mTup (mCons (mC (.str "take")) (mCons (mC (.int 0)) (mCons (mC (.str "shared")) mNil)))) mNil)) (mCons (mTup mNil) (mCons (mC (.int 0)) mNil))))))) (mRet (mC (.bl false))) mNext)
  (mRet (mAndV (mOp2 (oEqI 2 G_Wayu_equ) (mC (.tup [(.str "shared"), (.str "alone"), (.str "rising")])) (mTup (mCons (mC (.str "shared")) (mCons (mC (.str "alone")) (mCons (mC (.str "rising")) mNil))))) (mOp2 (oEqI 2 G_Wayu_equ) (mCon 2 "MODES" (.tup [(.str "shared"), (.str "alone"), (.str "rising")]) (mVar 13)) (mC (.tup [(.str "shared"), (.str "alone"), (.str "rising")]))))))))))
def F_law : FS := runF 1 14 m_law
/-! ### the plain law -/
def BagI (k : Int) (o : O) : Prop := ∃ a b c : Int, o = .lst [.int a, .int b, .int c] ∧ 0 ≤ a ∧ 0 ≤ b ∧ b < 12000000000000000000 ∧ 0 ≤ c ∧ 0 ≤ k ∧ c + k ≤ 1000000000000
theorem BagI.pure {k : Int} {o : O} (h : BagI k o) : refsO o = [] := by
  obtain ⟨a, b, c, rfl, _⟩ := h
  rfl
theorem BagI.mono {k j : Int} {o : O} (h : BagI k o) (h0 : 0 ≤ j) (hj : j ≤ k) : BagI j o := by
  obtain ⟨a, b, c, rfl, h1, h2, h3, h4, h5, h6⟩ := h
  exact ⟨a, b, c, rfl, h1, h2, h3, h4, h0, by omega⟩
theorem take_spec {k m : Int} {o : O} (h : BagI (k + 1) o) (hk : 0 ≤ k) (hm : 0 < m) (hm2 : m < 1000000) : ∃ (r : Int) (o' : O), Fulaw_take [.ref 0, .int m] [o] = .ok (.int r) [o'] ∧ 0 ≤ r ∧ r < m ∧ BagI k o' := by
  obtain ⟨a, b, c, rfl, h1, h2, h3, h4, h5, h6⟩ := h
  have m0 : m ≠ 0 := by omega
  have m1 : m.natAbs < 1073741824 := by omega
  by_cases ha : 0 < a
  · refine ⟨a.fmod m, .lst [.int (a.fdiv m), .int b, .int c], ?_, Int.fmod_nonneg_of_pos _ hm, Int.fmod_lt_of_pos _ hm, a.fdiv m, b, c, rfl, Int.fdiv_nonneg h1 (by omega), h2, h3, h4, hk, by omega⟩
    simp [Fulaw_take, runF, m_law_take, mSeq, mIf, mTst, mOp2, mVar, mC, Rs.bind, Rs.bindS, oIdx, ofO, oGt, oCmp, atI, ixN, ha, mSet, mFn, mCons, mNil, cInt, oMod, m0, mPut, oFdiv, m1, oPut, mRet]
  · have hx0 : 0 ≤ b + 7919 * (c + 1) := by omega
    have hx : (b + 7919 * (c + 1)).natAbs < 2 ^ 64 := by omega
    generalize hX : b + 7919 * (c + 1) = X at hx hx0
    have hy0 : 0 ≤ (X ^ 3).fmod 1000000000000000003 := Int.fmod_nonneg_of_pos _ (by decide)
    have hy1 : (X ^ 3).fmod 1000000000000000003 < 1000000000000000003 := Int.fmod_lt_of_pos _ (by decide)
    generalize hY : (X ^ 3).fmod 1000000000000000003 = Y at hy0 hy1
    have z0 : 0 ≤ Y.fdiv 17 := Int.fdiv_nonneg hy0 (by decide)
    have z1 : Y.fdiv 17 < 2 ^ 64 := by
      rw [Int.fdiv_eq_ediv_of_nonneg _ (by decide)]
      omega
    generalize hZ : Y.fdiv 17 = Z at z0 z1
    have ok : ∀ T : Int, mulOk Z T = true := fun T => by
      unfold mulOk
      simp only [Bool.or_eq_true, decide_eq_true_eq]
      exact .inl (.inl ⟨by omega, z1⟩)
    have ok2 : ∀ T : Int, mulOk 7919 T = true := fun T => by
      unfold mulOk
      simp only [Bool.or_eq_true, decide_eq_true_eq]
      exact .inl (.inl ⟨by decide, by decide⟩)
    have ok3 : ∀ T : Int, mulOk 7 T = true := fun T => by
      unfold mulOk
      simp only [Bool.or_eq_true, decide_eq_true_eq]
      exact .inl (.inl ⟨by decide, by decide⟩)
    refine ⟨((Z * ((Y.fdiv 31).fmod 1000003 + 7 * (c + 1))).fdiv 1009).fmod m, .lst [.int a, .int b, .int (c + 1)], ?_, Int.fmod_nonneg_of_pos _ hm, Int.fmod_lt_of_pos _ hm, a, b, c + 1, rfl, h1, h2, h3, by omega, hk, by omega⟩
    simp [Fulaw_take, runF, m_law_take, mSeq, mIf, mTst, mOp2, mVar, mC, Rs.bind, Rs.bindS, oIdx, ofO, oGt, oCmp, atI, ixN, ha, mSet, mFn, mCons, mNil, cInt, oMod, m0, mPut, oFdiv, m1, oPut, mRet, mNext, oAdd, oMul, oPow, ok, ok2, ok3, hX, hx, hY, hZ]
theorem Gtake {k m : Int} {o : O} {L : List O} {n : Nat} (hL : L[n]? = some o) (h : BagI (k + 1) o) (hk : 0 ≤ k) (hm : 0 < m) (hm2 : m < 1000000) : ∃ (r : Int) (o' : O), Gulaw_take [.ref n, .int m] L = .ok (.int r) (L.set n o') ∧ 0 ≤ r ∧ r < m ∧ BagI k o' := by
  obtain ⟨r, o', e, h1, h2, h3⟩ := take_spec h hk hm hm2
  exact ⟨r, o', lrun_bag (X := []) rfl hL h.pure e h3.pure rfl, h1, h2, h3⟩
/-! places -/
def PlaceOk (i : Int) (p : D) : Prop := p = .tup [.str "parent"] ∨ ∃ j : Int, 0 ≤ j ∧ j ≤ i ∧ p = .tup [.str "child", .int j]
def PlacesOk (ps : List D) : Prop := ps.length ≤ 4 ∧ ∀ (i : Nat) p, ps[i]? = some p → PlaceOk i p
theorem PlaceOk.pure {i : Int} {p : D} (h : PlaceOk i p) : refsD p = [] := by
  rcases h with rfl | ⟨j, _, _, rfl⟩ <;> rfl
theorem refs_all {ds : List D} (h : ∀ d ∈ ds, refsD d = []) : refsDs ds = [] := by
  induction ds with
  | nil => rfl
  | cons d ds ih =>
    show refsD d ++ refsDs ds = []
    rw [h d List.mem_cons_self, ih fun e he => h e (List.mem_cons_of_mem _ he)]
    rfl
theorem PlacesOk.pure {ps : List D} (h : PlacesOk ps) : refsDs ps = [] := refs_all fun d hd => by
  obtain ⟨i, hi⟩ := List.getElem?_of_mem hd
  exact (h.2 i d hi).pure
theorem points_spec {k : Int} {o : O} (h : BagI (k + 11) o) (hk : 0 ≤ k) : ∃ (ps : List D) (o' : O) (X : List O), Fulaw_points [.ref 0, .int 4] [o] = .ok (.tup ps) (o' :: X) ∧ PlacesOk ps ∧ BagI k o' := by
  obtain ⟨r, o1, e1, r0, r1, b1⟩ := Gtake (L := [o, .lst []]) (n := 0) (m := 5) (k := k + 10) rfl (by rw [Int.add_assoc]; exact h) (by omega) (by decide) (by decide)
  have hr : -1000000 ≤ r ∧ r ≤ 1000000 := by omega
  have hrn : r.toNat ≤ 4 := by omega
  -- the loop
  have lp := loop_all (src := ⟨rngD 0 r.toNat, none⟩) (t := gNm 3) (body := mDrop (mBmL oAppend (mVar 2) (mCons (mIfE (mTst (mOp2 oLt (mCall Gulaw_take (mCons (mVar 0) (mCons (mC (.int 5)) mNil))) (mC (.int 2)))) (mTup (mCons (mC (.str "parent")) mNil)) (mTup (mCons (mC (.str "child")) (mCons (mCall Gulaw_take (mCons (mVar 0) (mCons (mOp2 oAdd (mVar 3) (mC (.int 1))) mNil))) mNil)))) mNil)))
    (fun i ε L => ∃ (ps : List D) (o' : O) (x : Option D), ε = [some (.ref 0), some (.int 4), some (.ref 1), x] ∧ L = [o', .lst ps] ∧ ps.length = i ∧ (∀ (j : Nat) p, ps[j]? = some p → PlaceOk j p) ∧ BagI (k + 10 - 2 * i) o')
    (ds := rngD 0 r.toNat) (ε := [some (.ref 0), some (.int 4), some (.ref 1), none]) (L := [o1, .lst []]) (fun _ _ _ _ => rfl)
    ⟨[], o1, none, rfl, rfl, rfl, fun j p e => by simp at e, by simpa using b1⟩ (by
      rintro i d ε L hd ⟨ps, o', x, rfl, rfl, hl, hp, hb⟩
      obtain ⟨rfl, hi⟩ := rngD_get hd
      refine ⟨[some (.ref 0), some (.int 4), some (.ref 1), some (.int (0 + i))], ?_⟩
      have hi4 : i < 4 := by omega
      obtain ⟨a, o2, e2, a0, a1, b2⟩ := Gtake (L := [o', .lst ps]) (n := 0) (m := 5) (k := k + 10 - 2 * i - 1) rfl (by rw [Int.sub_add_cancel]; exact hb) (by omega) (by decide) (by decide)
      have e2' : Gulaw_take [.ref 0, .int 5] [o', .lst ps] = .ok (.int a) [o2, .lst ps] := e2
      by_cases ha : a < 2
      · refine ⟨[some (.ref 0), some (.int 4), some (.ref 1), some (.int (0 + i))], [o2, .lst (ps ++ [.tup [.str "parent"]])], rfl, .inl ?_, ps ++ [.tup [.str "parent"]], o2, _, rfl, rfl, by simp [hl], ?_, b2.mono (by omega) (by omega)⟩
        · simp [mDrop, mBmL, Rs.bind, Rs.bindS, mVar, isLst, mCons, mNil, mIfE, mTst, mOp2, mCall, mC, e2', ofO, oLt, oCmp, ha, mTup, most, oAppend, show ps.length < 1000000 by omega]
        · intro j p e
          by_cases hj : j < ps.length
          · rw [List.getElem?_append_left hj] at e; exact hp j p e
          · rw [List.getElem?_append_right (by omega)] at e
            have : p = .tup [.str "parent"] := by
              obtain ⟨q, e⟩ := List.getElem?_eq_some_iff.mp e
              simpa using e.symm
            exact .inl this
      · obtain ⟨c, o3, e3, c0, c1, b3⟩ := Gtake (L := [o2, .lst ps]) (n := 0) (m := (i : Int) + 1) (k := k + 10 - 2 * i - 1 - 1) rfl (by rw [Int.sub_add_cancel]; exact b2) (by omega) (by omega) (by omega)
        have e3' : Gulaw_take [.ref 0, .int ((i : Int) + 1)] [o2, .lst ps] = .ok (.int c) [o3, .lst ps] := e3
        refine ⟨[some (.ref 0), some (.int 4), some (.ref 1), some (.int (0 + i))], [o3, .lst (ps ++ [.tup [.str "child", .int c]])], rfl, .inl ?_, ps ++ [.tup [.str "child", .int c]], o3, _, rfl, rfl, by simp [hl], ?_, b3.mono (by omega) (by omega)⟩
        · simp [mDrop, mBmL, Rs.bind, Rs.bindS, mVar, isLst, mCons, mNil, mIfE, mTst, mOp2, mCall, mC, e2', e3', ofO, oLt, oCmp, ha, mTup, most, oAppend, oAdd, show ps.length < 1000000 by omega]
        · intro j p e
          by_cases hj : j < ps.length
          · rw [List.getElem?_append_left hj] at e; exact hp j p e
          · have hjj : j = ps.length := by
              obtain ⟨q, _⟩ := List.getElem?_eq_some_iff.mp e
              simp at q; omega
            rw [List.getElem?_append_right (by omega)] at e
            have : p = .tup [.str "child", .int c] := by
              obtain ⟨q, e⟩ := List.getElem?_eq_some_iff.mp e
              simpa using e.symm
            exact .inr ⟨c, c0, by omega, this⟩)
  obtain ⟨ε2, L2, hlp, ps, o', x, rfl, rfl, hl, hp, hb⟩ := lp
  rw [rngD_len] at hl hb
  refine ⟨ps, o', [.lst ps], ?_, ⟨by omega, hp⟩, hb.mono hk (by omega)⟩
  have e1' : Gulaw_take [.ref 0, .int 5] [o, .lst []] = .ok (.int r) [o1, .lst []] := e1
  simp [Fulaw_points, runF, m_law_points, mSeq, mSet, mLst, mNil, Rs.bindS, Rs.bind, mFor, mRng1, mCall, mCons, mVar, mOp2, mC, ofO, oAdd, e1', hr, hlp, mRet, mFn, cTuple, seqD]
/-! draws from a list -/
theorem of_spec {k : Int} {o : O} {xs : List D} (h : BagI (k + 1) o) (hk : 0 ≤ k) (hx : 0 < xs.length) (hx2 : xs.length < 1000000) : ∃ (x : D) (o' : O), Fulaw_of [.ref 0, .ref 1] [o, .lst xs] = .ok x [o', .lst xs] ∧ x ∈ xs ∧ BagI k o' := by
  obtain ⟨r, o1, e1, r0, r1, b1⟩ := Gtake (L := [o, .lst xs]) (n := 0) (m := xs.length) (k := k) rfl h hk (by omega) (by omega)
  have e1' : Gulaw_take [.ref 0, .int (xs.length : Int)] [o, .lst xs] = .ok (.int r) [o1, .lst xs] := e1
  have hr : r.toNat < xs.length := by omega
  have hat : atI xs r = some xs[r.toNat] := by
    have : ixN xs.length r = some r.toNat := by
      unfold ixN
      rw [if_pos r0, if_pos r1]
    unfold atI
    rw [this]
    simp [hr]
  refine ⟨xs[r.toNat], o1, ?_, List.getElem_mem hr, b1⟩
  simp [Fulaw_of, runF, m_law_of, mRet, Rs.bindS, Rs.bind, mOp2, mVar, mCall, mCons, mNil, mFn, cLen, ofO, e1', oIdx, hat]
theorem set_same {L : List O} {n : Nat} {o : O} (h : L[n]? = some o) : L.set n o = L := by
  obtain ⟨hn, e⟩ := List.getElem?_eq_some_iff.mp h
  rw [← e]
  exact List.set_getElem_self hn
theorem Gof {k : Int} {o : O} {xs : List D} {L : List O} {m : Nat} (h0 : L[0]? = some o) (hm : L[m]? = some (.lst xs)) (hm0 : m ≠ 0) (hp : refsDs xs = []) (h : BagI (k + 1) o) (hk : 0 ≤ k) (hx : 0 < xs.length) (hx2 : xs.length < 1000000) :
    ∃ (x : D) (o' : O), Gulaw_of [.ref 0, .ref m] L = .ok x (L.set 0 o') ∧ x ∈ xs ∧ BagI k o' := by
  obtain ⟨x, o', e, hx', hb⟩ := of_spec h hk hx hx2
  have hxp : refsD x = [] := by
    have : ∀ (ds : List D), refsDs ds = [] → ∀ d ∈ ds, refsD d = [] := by
      intro ds
      induction ds with
      | nil => intro _ d hd; cases hd
      | cons e es ih =>
        intro h d hd
        have h' := List.append_eq_nil_iff.mp (show refsD e ++ refsDs es = [] from h)
        rcases List.mem_cons.mp hd with rfl | hd
        · exact h'.1
        · exact ih h'.2 d hd
    exact this xs hp x hx'
  refine ⟨x, o', ?_, hx', hb⟩
  have := lrun_two (F := Fulaw_of) (rest := []) (X := []) rfl h0 h.pure hm (show refsO (.lst xs) = [] from hp) (Ne.symm hm0) e hb.pure (show refsO (.lst xs) = [] from hp) hxp
  rw [show Gulaw_of [.ref 0, .ref m] L = lrun Fulaw_of [.ref 0, .ref m] L from rfl, this]
  congr 1
  exact set_same (by rw [List.getElem?_set_ne (Ne.symm hm0)]; exact hm)
/-! takes -/
abbrev Tk := Str × Int × Str
def tkD (t : Tk) : D := .tup [.str t.1, .int t.2.1, .str t.2.2]
def hopAt (h : Int) (i : Nat) : Bool := decide ((1 : Int) ≤ (i : Nat)) && decide (((i : Nat) : Int) ≤ h)
def TkOk (many h : Int) (tl : List Tk) (i : Nat) (t : Tk) : Prop :=
  (t.1 = "take" ∨ t.1 = (if hopAt h i = true then ("leap" : Str) else ("try" : Str))) ∧ 0 ≤ t.2.1 ∧ t.2.1 < many ∧ (t.2.2 = "shared" ∨ t.2.2 = "alone" ∨ (t.2.2 = "rising" ∧ hopAt h i = false ∧ ∃ u, 0 < i ∧ tl[i - 1]? = some u ∧ u.2.2 ≠ "shared")) ∧ t.2.1 ∉ (tl.take i).map (·.2.1)
def TakesOk (many h : Int) (tl : List Tk) : Prop := 1 ≤ tl.length ∧ tl.length ≤ 5 ∧ 0 ≤ h ∧ h < tl.length ∧ ∀ (i : Nat) t, tl[i]? = some t → TkOk many h tl i t
theorem tk_pure (tl : List Tk) : refsDs (tl.map tkD) = [] := refs_all fun d hd => by
  obtain ⟨t, _, rfl⟩ := List.mem_map.mp hd
  rfl
theorem atI_last {xs : List D} {x : D} : atI (xs ++ [x]) (-1) = some x := by
  have : ixN (xs ++ [x]).length (-1) = some xs.length := by
    unfold ixN
    rw [if_neg (by decide), if_pos (by simp; omega)]
    congr 1
    simp
    omega
  unfold atI
  rw [this]
  simp
theorem seqIx {r : Int} {n : Nat} (h0 : 0 ≤ r) (h1 : r < n) : seqIndex? r n = some r.toNat := by
  have : ixN n r = some r.toNat := by
    unfold ixN
    rw [if_pos h0, if_pos h1]
  exact (ixN_seq this).1
def bT1 : MS := (mSet 7 (mBmL oPop (mVar 2) (mCons (mCall Gulaw_take (mCons (mVar 0) (mCons (mFn cLen (mCons (mVar 2) mNil)) mNil))) mNil)))
def bT2 : MS := (mSet 8 (mChain oLe oLe (mC (.int 1)) (mVar 6) (mVar 5)))
def bT3 : MS := (mSet 9 (mCall Gulaw_of (mCons (mVar 0) (mCons (mLst (mCons (mC (.str "take")) (mCons (mC (.str "take")) (mCons (mC (.str "take")) (mCons (mC (.str "take")) (mCons (mIfE (mTru (mVar 8)) (mC (.str "leap")) (mC (.str "try"))) mNil)))))) mNil))))
def bT4 : MS := (mSet 10 (mLst (mCons (mC (.str "shared")) (mCons (mC (.str "alone")) (mCons (mC (.str "alone")) mNil)))))
def bT5 : MS := (mIf (mAndB (mTst (mOp2 oGt (mVar 6) (mC (.int 0)))) (mAndB (mNotB (mTru (mVar 8))) (mTst (mOp2 oNe (mOp2 oIdx (mOp2 oIdx (mVar 3) (mOp1 oNeg (mC (.int 1)))) (mC (.int 2))) (mC (.str "shared")))))) (mDrop (mBmL oAppend (mVar 10) (mCons (mC (.str "rising")) mNil))) mNext)
def bT6 : MS := (mDrop (mBmL oAppend (mVar 3) (mCons (mTup (mCons (mVar 9) (mCons (mVar 7) (mCons (mCall Gulaw_of (mCons (mVar 0) (mCons (mVar 10) mNil))) mNil)))) mNil)))
structure TkSt (many h : Int) (left : List Int) (tl : List Tk) (L : List O) (o : O) : Prop where
  bag : L[0]? = some o
  lf : L[1]? = some (.lst (left.map D.int))
  found : L[2]? = some (.lst (tl.map tkD))
  okk : ∀ (i : Nat) t, tl[i]? = some t → TkOk many h tl i t
  rng : ∀ p ∈ left, 0 ≤ p ∧ p < many
  nd : left.Nodup
  dis : ∀ p ∈ left, p ∉ tl.map (·.2.1)
theorem erase_map (f : Int → D) : ∀ (l : List Int) (k : Nat), (l.map f).eraseIdx k = (l.eraseIdx k).map f
  | [], _ => by simp
  | _ :: _, 0 => by simp
  | x :: l, k + 1 => by simp [erase_map f l k]
abbrev eT (many h : Int) (e4 : Option D) (i : Nat) (x7 x8 x9 x10 : Option D) : En := [some (.ref 0), some (.int many), some (.ref 1), some (.ref 2), e4, some (.int h), some (.int i), x7, x8, x9, x10]
/-- the point -/
theorem turn1 {k many h : Int} {left : List Int} {tl : List Tk} {L : List O} {o : O} {x7 x8 x9 x10 e4 : Option D} (hk : 0 ≤ k) (S : TkSt many h left tl L o) (hb : BagI (k + 1) o) (hl : 0 < left.length) (hl2 : left.length ≤ 5) :
    ∃ (left' : List Int) (p : Int) (L' : List O) (o' : O), bT1 (eT many h e4 tl.length x7 x8 x9 x10) L = .nx (eT many h e4 tl.length (some (.int p)) x8 x9 x10) L' ∧ TkSt many h left' tl L' o' ∧ BagI k o' ∧ left'.length + 1 = left.length ∧ 0 ≤ p ∧ p < many ∧ p ∉ left' ∧ p ∉ tl.map (·.2.1) := by
  obtain ⟨r, b1, e1, r0, r1, B1⟩ := Gtake (L := L) (n := 0) (m := (left.length : Int)) (k := k) S.bag hb hk (by omega) (by omega)
  have hrl : r.toNat < left.length := by omega
  have h11 : (L.set 0 b1)[1]? = some (.lst (left.map D.int)) := by rw [List.getElem?_set_ne (by decide)]; exact S.lf
  have len1 : 1 < L.length := (List.getElem?_eq_some_iff.mp S.lf).1
  have hz : -1000000 ≤ r ∧ r ≤ 1000000 := by omega
  have hsx : seqIndex? r left.length = some r.toNat := seqIx r0 r1
  have hget : left[r.toNat]? = some left[r.toNat] := by simp [hrl]
  have hmem : left[r.toNat] ∈ left := List.getElem_mem hrl
  refine ⟨left.eraseIdx r.toNat, left[r.toNat], (L.set 0 b1).set 1 (.lst ((left.eraseIdx r.toNat).map D.int)), b1, ?_, ⟨?_, ?_, ?_, S.okk, ?_, ?_, ?_⟩, B1, ?_, (S.rng _ hmem).1, (S.rng _ hmem).2, ?_, S.dis _ hmem⟩
  · simp [bT1, eT, mSet, mBmL, Rs.bind, Rs.bindS, mVar, isLst, S.lf, mCons, mNil, mCall, mFn, cLen, ofO, e1, oPop, h11, hz, hsx, hget, erase_map]
  · rw [List.getElem?_set_ne (by decide), List.getElem?_set_self (by omega)]
  · rw [List.getElem?_set_self (by simpa using len1)]
  · rw [List.getElem?_set_ne (by decide), List.getElem?_set_ne (by decide)]; exact S.found
  · intro p hp; exact S.rng p (List.mem_of_mem_eraseIdx hp)
  · exact S.nd.sublist (List.eraseIdx_sublist ..)
  · intro p hp; exact S.dis p (List.mem_of_mem_eraseIdx hp)
  · rw [List.length_eraseIdx_of_lt hrl]; omega
  · intro z
    have nd := S.nd
    obtain ⟨j, hj⟩ := List.getElem?_of_mem z
    rw [List.getElem?_eraseIdx] at hj
    split at hj
    · have := nodup_get nd hj hget; omega
    · have := nodup_get nd hj hget; omega
theorem turn2 {many h : Int} {i : Nat} {L : List O} {x7 x8 x9 x10 e4 : Option D} : bT2 (eT many h e4 i x7 x8 x9 x10) L = .nx (eT many h e4 i x7 (some (.bl (hopAt h i))) x9 x10) L := by
  unfold hopAt
  by_cases h1 : (1 : Int) ≤ (i : Nat)
  · simp [bT2, eT, mSet, mChain, Rs.bind, Rs.bindS, mVar, mC, ofO, oLe, oCmp, h1]
  · simp [bT2, eT, mSet, mChain, Rs.bind, Rs.bindS, mVar, mC, ofO, oLe, oCmp, h1]
theorem TkSt.push {many h : Int} {left : List Int} {tl : List Tk} {L : List O} {o : O} (S : TkSt many h left tl L o) (x : O) : TkSt many h left tl (L ++ [x]) o :=
  ⟨by rw [List.getElem?_append_left (List.getElem?_eq_some_iff.mp S.bag).1]; exact S.bag, by rw [List.getElem?_append_left (List.getElem?_eq_some_iff.mp S.lf).1]; exact S.lf, by rw [List.getElem?_append_left (List.getElem?_eq_some_iff.mp S.found).1]; exact S.found, S.okk, S.rng, S.nd, S.dis⟩
theorem TkSt.put {many h : Int} {left : List Int} {tl : List Tk} {L : List O} {o : O} (S : TkSt many h left tl L o) (m : Nat) (hm : 3 ≤ m) (x : O) : TkSt many h left tl (L.set m x) o :=
  ⟨by rw [List.getElem?_set_ne (by omega)]; exact S.bag, by rw [List.getElem?_set_ne (by omega)]; exact S.lf, by rw [List.getElem?_set_ne (by omega)]; exact S.found, S.okk, S.rng, S.nd, S.dis⟩
theorem TkSt.draw {many h : Int} {left : List Int} {tl : List Tk} {L : List O} {o : O} (S : TkSt many h left tl L o) (o' : O) : TkSt many h left tl (L.set 0 o') o' :=
  ⟨List.getElem?_set_self (List.getElem?_eq_some_iff.mp S.bag).1, by rw [List.getElem?_set_ne (by decide)]; exact S.lf, by rw [List.getElem?_set_ne (by decide)]; exact S.found, S.okk, S.rng, S.nd, S.dis⟩
theorem TkSt.len {many h : Int} {left : List Int} {tl : List Tk} {L : List O} {o : O} (S : TkSt many h left tl L o) : 3 ≤ L.length := (List.getElem?_eq_some_iff.mp S.found).1
/-- the word -/
def wordsD (hop : Bool) : List D := [.str "take", .str "take", .str "take", .str "take", .str (if hop = true then ("leap" : Str) else ("try" : Str))]
theorem turn3 {k many h : Int} {left : List Int} {tl : List Tk} {L : List O} {o : O} {x7 x9 x10 e4 : Option D} (hk : 0 ≤ k) (S : TkSt many h left tl L o) (hb : BagI (k + 1) o) (hop : Bool) (i : Nat) :
    ∃ (w : Str) (L' : List O) (o' : O), bT3 (eT many h e4 i x7 (some (.bl hop)) x9 x10) L = .nx (eT many h e4 i x7 (some (.bl hop)) (some (.str w)) x10) L' ∧ TkSt many h left tl L' o' ∧ BagI k o' ∧ (w = "take" ∨ w = (if hop = true then ("leap" : Str) else ("try" : Str))) := by
  have S2 := S.push (.lst (wordsD hop))
  obtain ⟨x, o', e, hx, B⟩ := Gof (xs := wordsD hop) (L := L ++ [O.lst (wordsD hop)]) (m := L.length) S2.bag (by simp) (by have := S.len; omega) rfl hb hk (by simp [wordsD]) (by simp [wordsD])
  have hw : ∃ w : Str, x = .str w ∧ (w = "take" ∨ w = (if hop = true then ("leap" : Str) else ("try" : Str))) := by
    simp [wordsD] at hx
    rcases hx with rfl | rfl
    · exact ⟨_, rfl, .inl rfl⟩
    · exact ⟨_, rfl, .inr rfl⟩
  obtain ⟨w, rfl, hw⟩ := hw
  refine ⟨w, (L ++ [O.lst (wordsD hop)]).set 0 o', o', ?_, S2.draw o', B, hw⟩
  cases hop with
  | true =>
    have e' : Gulaw_of [.ref 0, .ref L.length] (L ++ [O.lst [.str "take", .str "take", .str "take", .str "take", .str "leap"]]) = .ok (.str w) ((L ++ [O.lst (wordsD true)]).set 0 o') := e
    simp [bT3, eT, mSet, mCall, Rs.bind, Rs.bindS, mCons, mNil, mVar, mLst, mC, mIfE, mTru, truth, most, e']
  | false =>
    have e' : Gulaw_of [.ref 0, .ref L.length] (L ++ [O.lst [.str "take", .str "take", .str "take", .str "take", .str "try"]]) = .ok (.str w) ((L ++ [O.lst (wordsD false)]).set 0 o') := e
    simp [bT3, eT, mSet, mCall, Rs.bind, Rs.bindS, mCons, mNil, mVar, mLst, mC, mIfE, mTru, truth, most, e']
/-- the modes -/
def modesD (rise : Bool) : List D := [.str "shared", .str "alone", .str "alone"] ++ (if rise = true then [.str "rising"] else [])
theorem str_eq (L : List O) (a b : Str) : eqData L (.str a) (.str b) = if SeqAt.shaped (.str a) = true ∧ SeqAt.shaped (.str b) = true then some (a == b) else none := rfl
theorem oNe_of {L : List O} {a b : Str} {c : Bool} (h : (if SeqAt.shaped (.str a) = true ∧ SeqAt.shaped (.str b) = true then some (a == b) else none) = some c) : oNe (.str a) (.str b) L = some (.bl (!c), L) := by
  unfold oNe
  rw [str_eq, h]
  rfl
theorem ne_sh (L : List O) : oNe (.str "shared") (.str "shared") L = some (.bl false, L) := oNe_of (c := true) (by decide +kernel)
theorem ne_al (L : List O) : oNe (.str "alone") (.str "shared") L = some (.bl true, L) := oNe_of (c := false) (by decide +kernel)
theorem ne_ri (L : List O) : oNe (.str "rising") (.str "shared") L = some (.bl true, L) := oNe_of (c := false) (by decide +kernel)
theorem turn45 {many h : Int} {left : List Int} {tl : List Tk} {L : List O} {o : O} {x7 x9 x10 e4 : Option D} (S : TkSt many h left tl L o) (hop : Bool) :
    ∃ (rise : Bool) (L' : List O), mSeq bT4 bT5 (eT many h e4 tl.length x7 (some (.bl hop)) x9 x10) L = .nx (eT many h e4 tl.length x7 (some (.bl hop)) x9 (some (.ref L.length))) L' ∧ TkSt many h left tl L' o ∧ L'[L.length]? = some (.lst (modesD rise)) ∧ (rise = true → hop = false ∧ ∃ u, 0 < tl.length ∧ tl[tl.length - 1]? = some u ∧ u.2.2 ≠ "shared") := by
  have S2 := S.push (.lst (modesD false))
  have hlen := S.len
  have get : (L ++ [.lst (modesD false)])[L.length]? = some (.lst (modesD false)) := by simp
  by_cases h0 : 0 < tl.length
  · cases hop with
    | true =>
      refine ⟨false, L ++ [.lst (modesD false)], ?_, S2, get, fun z => by cases z⟩
      have : (0 : Int) < (tl.length : Nat) := by omega
      simp [mSeq, bT4, bT5, eT, mSet, mLst, mCons, mNil, mC, Rs.bind, Rs.bindS, most, mIf, mAndB, mTst, mOp2, mVar, ofO, oGt, oCmp, this, mNotB, mTru, truth, mNext, modesD]
    | false =>
      obtain ⟨tl', u, rfl⟩ : ∃ tl' u, tl = tl' ++ [u] := ⟨tl.dropLast, tl.getLast (by intro z; rw [z] at h0; simp at h0), (List.dropLast_concat_getLast _).symm⟩
      have hu : (tl' ++ [u])[(tl' ++ [u]).length - 1]? = some u := by simp
      have f2 : (L ++ [.lst (modesD false)])[2]? = some (.lst (tl'.map tkD ++ [tkD u])) := by rw [S2.found]; simp
      have hat : atI (tl'.map tkD ++ [tkD u]) (-1) = some (tkD u) := atI_last
      have hat2 : atI [D.str u.1, .int u.2.1, .str u.2.2] 2 = some (.str u.2.2) := rfl
      have hlt : (0 : Int) < ((tl' ++ [u]).length : Nat) := by omega
      have ok := (S.okk _ u hu).2.2.2.1
      have f3 : (L ++ [O.lst [.str "shared", .str "alone", .str "alone"]])[2]? = some (.lst (tl'.map tkD ++ [tkD u])) := f2
      have hne : oNe (.str u.2.2) (.str "shared") (L ++ [O.lst [.str "shared", .str "alone", .str "alone"]]) = some (.bl (decide (u.2.2 ≠ "shared")), L ++ [O.lst [.str "shared", .str "alone", .str "alone"]]) := by
        rcases ok with e | e | ⟨e, _⟩ <;> rw [e]
        · rw [ne_sh]; rfl
        · rw [ne_al, decide_eq_true (show (("alone" : Str) ≠ "shared") by decide +kernel)]
        · rw [ne_ri, decide_eq_true (show (("rising" : Str) ≠ "shared") by decide +kernel)]
      have hat3 : oIdx (.ref 2) (.int (-1)) (L ++ [O.lst [.str "shared", .str "alone", .str "alone"]]) = some (tkD u, L ++ [O.lst [.str "shared", .str "alone", .str "alone"]]) := by
        simp only [oIdx, f3, hat, Option.map_some]
      have hat4 : oIdx (tkD u) (.int 2) (L ++ [O.lst [.str "shared", .str "alone", .str "alone"]]) = some (.str u.2.2, L ++ [O.lst [.str "shared", .str "alone", .str "alone"]]) := rfl
      by_cases hs : u.2.2 = "shared"
      · rw [show decide (u.2.2 ≠ "shared") = false from by rw [hs]; rfl] at hne
        refine ⟨false, L ++ [O.lst (modesD false)], ?_, S2, get, fun z => by cases z⟩
        simp [hlt, mSeq, bT4, bT5, eT, mSet, mLst, mCons, mNil, mC, Rs.bind, Rs.bindS, most, mIf, mAndB, mTst, mOp1, oNeg, mOp2, mVar, ofO, oGt, oCmp, mNotB, mTru, truth, mNext, modesD, hat3, hat4, hne]
      · rw [decide_eq_true hs] at hne
        refine ⟨true, (L ++ [O.lst (modesD false)]).set L.length (.lst (modesD true)), ?_, S2.put L.length hlen _, List.getElem?_set_self (by simp), fun _ => ⟨rfl, u, h0, hu, hs⟩⟩
        simp [hlt, mSeq, bT4, bT5, eT, mSet, mLst, mCons, mNil, mC, Rs.bind, Rs.bindS, most, mIf, mAndB, mTst, mOp1, oNeg, mOp2, mVar, ofO, oGt, oCmp, mNotB, mTru, truth, mNext, modesD, hat3, hat4, hne, mDrop, mBmL, isLst, oAppend]
  · refine ⟨false, L ++ [.lst (modesD false)], ?_, S2, get, fun z => by cases z⟩
    have : ¬ (0 : Int) < (tl.length : Nat) := by omega
    simp [h0, mSeq, bT4, bT5, eT, mSet, mLst, mCons, mNil, mC, Rs.bind, Rs.bindS, most, mIf, mAndB, mTst, mOp2, mVar, ofO, oGt, oCmp, this, mNotB, mTru, truth, mNext, modesD]
/-- the take is laid -/
theorem turn6 {k many h p : Int} {left : List Int} {tl : List Tk} {L : List O} {o : O} {e4 x8 : Option D} {w : Str} {n10 : Nat} {rise : Bool} (hk : 0 ≤ k) (S : TkSt many h left tl L o) (hb : BagI (k + 1) o) (ht : tl.length ≤ 5) (hm : L[n10]? = some (.lst (modesD rise))) (hn : 3 ≤ n10)
    (hw : w = "take" ∨ w = (if hopAt h tl.length = true then ("leap" : Str) else ("try" : Str))) (hr : rise = true → hopAt h tl.length = false ∧ ∃ u, 0 < tl.length ∧ tl[tl.length - 1]? = some u ∧ u.2.2 ≠ "shared") (p0 : 0 ≤ p) (p1 : p < many) (pl : p ∉ left) (pt : p ∉ tl.map (·.2.1)) :
    ∃ (t : Tk) (L' : List O) (o' : O), bT6 (eT many h e4 tl.length (some (.int p)) x8 (some (.str w)) (some (.ref n10))) L = .nx (eT many h e4 tl.length (some (.int p)) x8 (some (.str w)) (some (.ref n10))) L' ∧ TkSt many h left (tl ++ [t]) L' o' ∧ BagI k o' := by
  obtain ⟨x, o', e, hx, B⟩ := Gof (xs := modesD rise) (L := L) (m := n10) S.bag hm (by omega) (by cases rise <;> rfl) hb hk (by cases rise <;> simp [modesD]) (by cases rise <;> simp [modesD])
  have hmd : ∃ m : Str, x = .str m ∧ (m = "shared" ∨ m = "alone" ∨ (m = "rising" ∧ rise = true)) := by
    cases rise with
    | false =>
      simp [modesD] at hx
      rcases hx with rfl | rfl
      · exact ⟨_, rfl, .inl rfl⟩
      · exact ⟨_, rfl, .inr (.inl rfl)⟩
    | true =>
      simp [modesD] at hx
      rcases hx with rfl | rfl | rfl
      · exact ⟨_, rfl, .inl rfl⟩
      · exact ⟨_, rfl, .inr (.inl rfl)⟩
      · exact ⟨_, rfl, .inr (.inr ⟨rfl, rfl⟩)⟩
  obtain ⟨m, rfl, hmd⟩ := hmd
  have S2 := S.draw o'
  have len2 : 2 < L.length := (List.getElem?_eq_some_iff.mp S.found).1
  have hz : (tl.map tkD).length < most := by rw [List.length_map]; unfold most; omega
  refine ⟨(w, p, m), (L.set 0 o').set 2 (.lst ((tl ++ [(w, p, m)]).map tkD)), o', ?_, ⟨?_, ?_, ?_, ?_, S.rng, S.nd, ?_⟩, B⟩
  · have hfd := S2.found
    have hz2 : tl.length < most := by unfold most; omega
    simp [bT6, eT, mDrop, mBmL, Rs.bind, Rs.bindS, mVar, isLst, S.found, mCons, mNil, mTup, mCall, e, ofO, oAppend, hfd, hz2, show (3 : Nat) ≤ most by decide, tkD]
  · rw [List.getElem?_set_ne (by decide)]; exact S2.bag
  · rw [List.getElem?_set_ne (by decide)]; exact S2.lf
  · rw [List.getElem?_set_self (by simpa using len2)]
  · intro i t hi
    by_cases hit : i < tl.length
    · rw [List.getElem?_append_left hit] at hi
      obtain ⟨a1, a2, a3, a4, a5⟩ := S.okk i t hi
      refine ⟨a1, a2, a3, ?_, ?_⟩
      · rcases a4 with a4 | a4 | ⟨a4, b4, u, c4, d4, f4⟩
        · exact .inl a4
        · exact .inr (.inl a4)
        · exact .inr (.inr ⟨a4, b4, u, c4, by rw [List.getElem?_append_left (by omega)]; exact d4, f4⟩)
      · rw [List.take_append_of_le_length (by omega)]; exact a5
    · have hie : i = tl.length := by
        obtain ⟨q, _⟩ := List.getElem?_eq_some_iff.mp hi
        simp at q; omega
      subst hie
      have : t = (w, p, m) := by
        rw [List.getElem?_append_right (Nat.le_refl _)] at hi
        simpa using hi.symm
      subst this
      refine ⟨hw, p0, p1, ?_, ?_⟩
      · rcases hmd with hmd | hmd | ⟨hmd, hrr⟩
        · exact .inl hmd
        · exact .inr (.inl hmd)
        · obtain ⟨g1, u, g2, g3, g4⟩ := hr hrr
          exact .inr (.inr ⟨hmd, g1, u, g2, by rw [List.getElem?_append_left (by omega)]; exact g3, g4⟩)
      · rw [List.take_append_of_le_length (Nat.le_refl _), List.take_length]; exact pt
  · intro q hq z
    rw [List.map_append, List.mem_append] at z
    rcases z with z | z
    · exact S.dis q hq z
    · simp at z
      subst z
      exact pl hq
def bTakes : MS := mSeq bT1 (mSeq bT2 (mSeq bT3 (mSeq bT4 (mSeq bT5 bT6))))
theorem turn_takes {k many h : Int} {left : List Int} {tl : List Tk} {L : List O} {o : O} {x7 x8 x9 x10 e4 : Option D} (hk : 0 ≤ k) (S : TkSt many h left tl L o) (hb : BagI (k + 3) o) (hl : 0 < left.length) (hl2 : left.length ≤ 5) (ht : tl.length ≤ 5) :
    ∃ (left' : List Int) (t : Tk) (L' : List O) (o' : O) (y7 y8 y9 y10 : Option D), bTakes (eT many h e4 tl.length x7 x8 x9 x10) L = .nx (eT many h e4 tl.length y7 y8 y9 y10) L' ∧ TkSt many h left' (tl ++ [t]) L' o' ∧ BagI k o' ∧ left'.length + 1 = left.length := by
  obtain ⟨left', p, L1, o1, s1, S1, B1, hl', p0, p1, pl, pt⟩ := turn1 (x7 := x7) (x8 := x8) (x9 := x9) (x10 := x10) (e4 := e4) (k := k + 2) (by omega) S (by rw [Int.add_assoc]; exact hb) hl hl2
  have s2 := turn2 (many := many) (h := h) (i := tl.length) (L := L1) (x7 := some (.int p)) (x8 := x8) (x9 := x9) (x10 := x10) (e4 := e4)
  obtain ⟨w, L3, o3, s3, S3, B3, hw⟩ := turn3 (x7 := some (.int p)) (x9 := x9) (x10 := x10) (e4 := e4) (k := k + 1) (by omega) S1 (by rw [Int.add_assoc]; exact B1) (hopAt h tl.length) tl.length
  obtain ⟨rise, L5, s5, S5, hm, hr⟩ := turn45 (x7 := some (.int p)) (x9 := some (.str w)) (x10 := x10) (e4 := e4) S3 (hopAt h tl.length)
  obtain ⟨t, L6, o6, s6, S6, B6⟩ := turn6 (e4 := e4) (x8 := some (.bl (hopAt h tl.length))) hk S5 B3 ht hm S3.len hw hr p0 p1 pl pt
  refine ⟨left', t, L6, o6, some (.int p), some (.bl (hopAt h tl.length)), some (.str w), some (.ref L3.length), ?_, S6, B6, hl'⟩
  have s45 : ∀ (c : MS) ε L ε' L', mSeq bT4 bT5 ε L = .nx ε' L' → mSeq bT4 (mSeq bT5 c) ε L = c ε' L' := by
    intro c ε L ε' L' e
    unfold mSeq at e ⊢
    cases h4 : bT4 ε L with
    | nx ε1 L1 =>
      rw [h4] at e
      simp only at e ⊢
      rw [e]
    | rt d L1 => rw [h4] at e; cases e
    | bk ε1 L1 => rw [h4] at e; cases e
    | ct ε1 L1 => rw [h4] at e; cases e
    | ex c fs ε1 L1 => rw [h4] at e; cases e
    | bad => rw [h4] at e; cases e
  unfold bTakes
  rw [show mSeq bT1 (mSeq bT2 (mSeq bT3 (mSeq bT4 (mSeq bT5 bT6)))) (eT many h e4 tl.length x7 x8 x9 x10) L = mSeq bT2 (mSeq bT3 (mSeq bT4 (mSeq bT5 bT6))) (eT many h e4 tl.length (some (.int p)) x8 x9 x10) L1 from by unfold mSeq; rw [s1]]
  rw [show mSeq bT2 (mSeq bT3 (mSeq bT4 (mSeq bT5 bT6))) (eT many h e4 tl.length (some (.int p)) x8 x9 x10) L1 = mSeq bT3 (mSeq bT4 (mSeq bT5 bT6)) (eT many h e4 tl.length (some (.int p)) (some (.bl (hopAt h tl.length))) x9 x10) L1 from by unfold mSeq; rw [s2]]
  rw [show mSeq bT3 (mSeq bT4 (mSeq bT5 bT6)) (eT many h e4 tl.length (some (.int p)) (some (.bl (hopAt h tl.length))) x9 x10) L1 = mSeq bT4 (mSeq bT5 bT6) (eT many h e4 tl.length (some (.int p)) (some (.bl (hopAt h tl.length))) (some (.str w)) x10) L3 from by unfold mSeq; rw [s3]]
  rw [s45 bT6 _ _ _ _ s5]
  exact s6
theorem takes_spec {k many : Int} {o : O} (h : BagI (k + 20) o) (hk : 0 ≤ k) (m1 : 1 ≤ many) (m2 : many ≤ 5) : ∃ (tl : List Tk) (hp : Int) (o' : O) (X : List O), Fulaw_takes [.ref 0, .int many] [o] = .ok (.tup [.tup (tl.map tkD), .int hp]) (o' :: X) ∧ TakesOk many hp tl ∧ BagI k o' := by
  have hrg : rngD 0 many.toNat = (((List.range many.toNat).map fun (k : Nat) => (0 : Int) + (k : Int)).map D.int) := by simp [rngD]
  have ndl : ((List.range many.toNat).map fun (k : Nat) => (0 : Int) + (k : Int)).Nodup := nodup_map_on List.nodup_range fun a _ b _ e => by
    have e' : (0 : Int) + (a : Int) = 0 + (b : Int) := e
    omega
  have rgl : ∀ p ∈ ((List.range many.toNat).map fun (k : Nat) => (0 : Int) + (k : Int)), 0 ≤ p ∧ p < many := fun p hp => by
    obtain ⟨a, ha, rfl⟩ := List.mem_map.mp hp
    have := List.mem_range.mp ha
    constructor <;> omega
  have lenl : ((List.range many.toNat).map fun (k : Nat) => (0 : Int) + (k : Int)).length = many.toNat := by simp
  generalize hleft : ((List.range many.toNat).map fun (k : Nat) => (0 : Int) + (k : Int)) = left at hrg ndl rgl lenl
  -- size
  obtain ⟨r, o1, e1, r0, r1, B1⟩ := Gtake (L := [o, .lst (left.map D.int), .lst []]) (n := 0) (m := many) (k := k + 19) rfl (by rw [Int.add_assoc]; exact h) (by omega) (by omega) (by omega)
  have e1' : Gulaw_take [.ref 0, .int many] [o, .lst (left.map D.int), .lst []] = .ok (.int r) [o1, .lst (left.map D.int), .lst []] := e1
  -- hops
  obtain ⟨q, o2, e2, q0, q1, B2⟩ := Gtake (L := [o1, .lst (left.map D.int), .lst []]) (n := 0) (m := 1 + r) (k := k + 18) rfl (by rw [Int.add_assoc]; exact B1) (by omega) (by omega) (by omega)
  have e2' : Gulaw_take [.ref 0, .int (1 + r)] [o1, .lst (left.map D.int), .lst []] = .ok (.int q) [o2, .lst (left.map D.int), .lst []] := e2
  obtain ⟨x, o3, e3, hx, B3⟩ := Gof (xs := [.int 0, .int 0, .int q]) (L := [o2, .lst (left.map D.int), .lst [], .lst [.int 0, .int 0, .int q]]) (m := 3) (k := k + 17) rfl rfl (by decide) rfl (by rw [Int.add_assoc]; exact B2) (by omega) (by simp) (by simp)
  have hxx : ∃ hp : Int, x = .int hp ∧ 0 ≤ hp ∧ hp < 1 + r := by
    simp at hx
    rcases hx with rfl | rfl
    · exact ⟨0, rfl, by omega, by omega⟩
    · exact ⟨q, rfl, q0, q1⟩
  obtain ⟨hp, rfl, hp0, hp1⟩ := hxx
  have e3' : Gulaw_of [.ref 0, .ref 3] [o2, .lst (left.map D.int), .lst [], .lst [.int 0, .int 0, .int q]] = .ok (.int hp) [o3, .lst (left.map D.int), .lst [], .lst [.int 0, .int 0, .int q]] := e3
  have S0 : TkSt many hp left [] [o3, .lst (left.map D.int), .lst [], .lst [.int 0, .int 0, .int q]] o3 := ⟨rfl, rfl, rfl, fun i t e => by simp at e, rgl, ndl, fun p _ z => by cases z⟩
  have hsz : -1000000 ≤ 1 + r ∧ 1 + r ≤ 1000000 := by omega
  have hsn : (1 + r).toNat ≤ 5 := by omega
  have lp := loop_all (src := ⟨rngD 0 (1 + r).toNat, none⟩) (t := gNm 6) (body := bTakes)
    (fun i ε L => ∃ (left' : List Int) (tl : List Tk) (o' : O) (x6 x7 x8 x9 x10 : Option D), ε = [some (.ref 0), some (.int many), some (.ref 1), some (.ref 2), some (.int (1 + r)), some (.int hp), x6, x7, x8, x9, x10] ∧ TkSt many hp left' tl L o' ∧ tl.length = i ∧ left'.length + i = many.toNat ∧ BagI (k + 17 - 3 * i) o')
    (ds := rngD 0 (1 + r).toNat) (ε := [some (.ref 0), some (.int many), some (.ref 1), some (.ref 2), some (.int (1 + r)), some (.int hp), none, none, none, none, none]) (L := [o3, .lst (left.map D.int), .lst [], .lst [.int 0, .int 0, .int q]]) (fun _ _ _ _ => rfl)
    ⟨left, [], o3, none, none, none, none, none, rfl, S0, rfl, by omega, by simpa using B3⟩ (by
      rintro i d ε L hd ⟨left', tl, o', x6, x7, x8, x9, x10, rfl, S, hl, hll, hb⟩
      obtain ⟨rfl, hi⟩ := rngD_get hd
      obtain ⟨left2, t, L', o4, y7, y8, y9, y10, s, S', B', hl'⟩ := turn_takes (k := k + 17 - 3 * i - 3) (x7 := x7) (x8 := x8) (x9 := x9) (x10 := x10) (e4 := some (.int (1 + r))) (by omega) S (by rw [Int.sub_add_cancel]; exact hb) (by omega) (by omega) (by omega)
      refine ⟨eT many hp (some (.int (1 + r))) tl.length x7 x8 x9 x10, eT many hp (some (.int (1 + r))) tl.length y7 y8 y9 y10, L', ?_, .inl s, left2, tl ++ [t], o4, _, y7, y8, y9, y10, rfl, S', by simp [hl], by omega, B'.mono (by omega) (by omega)⟩
      show some _ = some _
      rw [hl, Int.zero_add]
      rfl)
  obtain ⟨ε2, L2, hlp, left', tl, o', x6, x7, x8, x9, x10, rfl, S, hl, hll, hb⟩ := lp
  rw [rngD_len] at hl hb
  have len2 : 2 < L2.length := (List.getElem?_eq_some_iff.mp S.found).1
  have hL2 : ∃ X, L2 = o' :: X := by
    cases L2 with
    | nil => simp at len2
    | cons a X =>
      have := S.bag
      simp at this
      exact ⟨X, by rw [this]⟩
  obtain ⟨X, hX⟩ := hL2
  refine ⟨tl, hp, o', X, ?_, ⟨by omega, by omega, hp0, by omega, S.okk⟩, hb.mono hk (by omega)⟩
  have hmin : (if many < 5 then many else 5) = many := by split <;> omega
  have hmany : -1000000 ≤ many ∧ many ≤ (most : Int) := by unfold most; omega
  have hf := S.found
  have hdef : m_law_takes = mSeq (mPar 2 3 (mCons (mListRg1 (mVar 1)) (mCons (mLst mNil) mNil))) (mSeq (mSet 4 (mOp2 oAdd (mC (.int 1)) (mCall Gulaw_take (mCons (mVar 0) (mCons (mFn cMin (mCons (mC (.int 5)) (mCons (mVar 1) mNil))) mNil))))) (mSeq (mSet 5 (mCall Gulaw_of (mCons (mVar 0) (mCons (mLst (mCons (mC (.int 0)) (mCons (mC (.int 0)) (mCons (mCall Gulaw_take (mCons (mVar 0) (mCons (mVar 4) mNil))) mNil)))) mNil)))) (mSeq (mFor (mRng1 (mVar 4)) (gNm 6) bTakes) (mRet (mTup (mCons (mFn cTuple (mCons (mVar 3) mNil)) (mCons (mVar 5) mNil))))))) := rfl
  unfold Fulaw_takes
  rw [hdef]
  rw [hX] at hlp hf
  simp [runF, mSeq, mPar, mListRg1, mVar, show many ≤ 1000000 by omega, show -1000000 ≤ many by omega, hrg, mLst, mNil, mCons, Rs.bind, Rs.bindS, most, mSet, mOp2, mC, mCall, mFn, cMin, ofO, hmin, e1', oAdd, e2', e3', mFor, mRng1, hsz, hlp, mRet, mTup, cTuple, seqD, hf]
theorem parts_spec {k : Int} {o : O} (h : BagI (k + 31) o) (hk : 0 ≤ k) : ∃ (ps : List D) (tl : List Tk) (hp : Int) (o' : O) (X : List O), Fulaw_parts [.ref 0] [o] = .ok (.tup [.tup ps, .tup (tl.map tkD), .int hp]) (o' :: X) ∧ PlacesOk ps ∧ TakesOk (ps.length + 1) hp tl ∧ BagI k o' := by
  obtain ⟨ps, o1, X1, e1, hps, B1⟩ := points_spec (k := k + 20) (o := o) (by rw [Int.add_assoc]; exact h) (by omega)
  have g1 : Gulaw_points [.ref 0, .int 4] [o] = .ok (.tup ps) [o1] := lrun_bag (L := [o]) rfl rfl h.pure e1 B1.pure hps.pure
  obtain ⟨tl, hp, o2, X2, e2, ht, B2⟩ := takes_spec (many := ps.length + 1) B1 hk (by omega) (by have := hps.1; omega)
  have g2 : Gulaw_takes [.ref 0, .int ((ps.length : Int) + 1)] [o1] = .ok (.tup [.tup (tl.map tkD), .int hp]) [o2] := lrun_bag (L := [o1]) rfl rfl B1.pure e2 B2.pure (by show refsD _ ++ (refsD _ ++ []) = []; rw [show refsD (.tup (tl.map tkD)) = refsDs (tl.map tkD) from rfl, tk_pure]; rfl)
  refine ⟨ps, tl, hp, o2, [], ?_, hps, ht, B2⟩
  simp [Fulaw_parts, runF, m_law_parts, mSeq, mSet, mCall, mCons, mNil, mVar, mC, Rs.bind, Rs.bindS, g1, mAsg, mOp2, mFn, cLen, ofO, oAdd, g2, gTupM, gsCons, gsNil, gNm, mRet, mTup, most]
theorem Gparts {k : Int} {o : O} {L : List O} {n : Nat} (hL : L[n]? = some o) (h : BagI (k + 31) o) (hk : 0 ≤ k) : ∃ (ps : List D) (tl : List Tk) (hp : Int) (o' : O), Gulaw_parts [.ref n] L = .ok (.tup [.tup ps, .tup (tl.map tkD), .int hp]) (L.set n o') ∧ PlacesOk ps ∧ TakesOk (ps.length + 1) hp tl ∧ BagI k o' := by
  obtain ⟨ps, tl, hp, o', X, e, h1, h2, h3⟩ := parts_spec h hk
  refine ⟨ps, tl, hp, o', lrun_bag rfl hL h.pure e h3.pure ?_, h1, h2, h3⟩
  show refsDs ps ++ (refsDs (tl.map tkD) ++ ([] ++ [])) = []
  rw [h1.pure, tk_pure]
  rfl
/-! what the program says of places -/
theorem integer_ok (i : Int) (L : List O) : G_is_integer [.int i] L = .ok (.bl true) L := lrun_pure (X := []) rfl rfl rfl
theorem oEq_of {L : List O} {a b : Str} {c : Bool} (h : (if SeqAt.shaped (.str a) = true ∧ SeqAt.shaped (.str b) = true then some (a == b) else none) = some c) : oEq (.str a) (.str b) L = some (.bl c, L) := by
  unfold oEq
  rw [str_eq, h]
  rfl
theorem eq_pp (L : List O) : oEq (.str "parent") (.str "parent") L = some (.bl true, L) := oEq_of (by decide +kernel)
theorem eq_cc (L : List O) : oEq (.str "child") (.str "child") L = some (.bl true, L) := oEq_of (by decide +kernel)
theorem eqI_of {L : List O} {a b : Int} : oEq (.int a) (.int b) L = some (.bl (a == b), L) := by
  unfold oEq eqData
  have h1 : toPy L pyDeep (.int a) = some (.int a) := rfl
  have h2 : toPy L pyDeep (.int b) = some (.int b) := rfl
  simp only [h1, h2, shaped_int, and_self, if_true]
  rfl
theorem place_ok {i : Int} {p : D} (h : PlaceOk i p) (L : List O) : G_is_place [p, .int i] L = .ok (.bl true) L := by
  rcases h with rfl | ⟨j, j0, j1, rfl⟩
  · refine lrun_pure (X := []) rfl ?_ rfl
    simp [F_is_place, runF, m_is_place, mSeq, mIf, mOrB, mNotB, mTru, mIsi, mVar, tagD, isiT, Rs.bind, Rs.bindS, truth, mTst, mOp2, mFn, mCons, mNil, cLen, ofO, mTup, mC, most, oNotIn, inD, flatD, eqF, oIdx, atI, ixN, mRet, mNext, eqI_of, eq_pp]
  · refine lrun_pure (X := []) rfl ?_ rfl
    simp [F_is_place, runF, m_is_place, mSeq, mIf, mOrB, mNotB, mTru, mIsi, mVar, tagD, isiT, Rs.bind, Rs.bindS, truth, mTst, mOp2, mFn, mCons, mNil, cLen, ofO, mTup, mC, most, oNotIn, inD, flatD, eqF, oIdx, atI, ixN, mRet, mNext, eqI_of, eq_cc, mAndV, mCall, integer_ok, mChain, oLe, oCmp, j0, j1]
theorem points_ok {ps : List D} (h : PlacesOk ps) (L : List O) : G_checked_points [.tup ps] L = .ok .non L := by
  obtain ⟨ε2, L2, hlp, x, y, rfl, rfl⟩ := loop_all (src := ⟨enumD 0 ps, none⟩) (t := gTupM 2 (gsCons (gNm 1) (gsCons (gNm 2) gsNil))) (body := mIf (mNotB (mTru (mCall G_is_place (mCons (mVar 2) (mCons (mVar 1) mNil))))) mBad mNext)
    (fun i ε L => ∃ x y, ε = [some (.tup ps), x, y] ∧ L = []) (ds := enumD 0 ps) (ε := [some (.tup ps), none, none]) (L := []) (fun _ _ _ _ => rfl) ⟨none, none, rfl, rfl⟩ (by
      rintro i d ε L hd ⟨x, y, rfl, rfl⟩
      obtain ⟨p, hp, rfl⟩ := enumD_get ps 0 i d hd
      have hpl := place_ok (h.2 i p hp) []
      refine ⟨[some (.tup ps), some (.int (0 + i)), some p], [some (.tup ps), some (.int (0 + i)), some p], [], rfl, .inl ?_, _, _, rfl, rfl⟩
      have hpl' : G_is_place [p, .int (0 + (i : Int))] [] = .ok (.bl true) [] := by rw [Int.zero_add]; exact hpl
      simp [mIf, mNotB, mTru, mCall, mCons, mNil, mVar, Rs.bind, Rs.bindS, hpl, hpl', truth, mNext])
  refine lrun_pure (X := []) (by show refsDs ps ++ [] = []; rw [h.pure]; rfl) ?_ rfl
  have h4 : ¬ ((4 : Int) < (ps.length : Nat)) := by have := h.1; omega
  have h4' : ¬ (4 < ps.length) := by have := h.1; omega
  simp [F_checked_points, runF, m_checked_points, mSeq, mIf, mOrB, mNotB, mTru, mIsi, mVar, tagD, isiT, Rs.bind, Rs.bindS, truth, mTst, mOp2, mFn, mCons, mNil, cLen, ofO, mC, oGt, oCmp, h4, h4', mNext, mFor, mEnum, hlp]
def WordOk (w : Str) : Prop := w = "take" ∨ w = "leap" ∨ w = "try"
def ModeOk (m : Str) : Prop := m = "shared" ∨ m = "alone" ∨ m = "rising"
theorem TkOk.word {many h : Int} {tl : List Tk} {i : Nat} {t : Tk} (o : TkOk many h tl i t) : WordOk t.1 := by
  rcases o.1 with e | e
  · exact .inl e
  · split at e
    · exact .inr (.inl e)
    · exact .inr (.inr e)
theorem TkOk.mode {many h : Int} {tl : List Tk} {i : Nat} {t : Tk} (o : TkOk many h tl i t) : ModeOk t.2.2 := by
  rcases o.2.2.2.1 with e | e | e
  · exact .inl e
  · exact .inr (.inl e)
  · exact .inr (.inr e.1)
theorem in_words {w : Str} (h : WordOk w) (L : List O) : oIn (.str w) d_WORDS L = some (.bl true, L) := by
  have : inD L (.str w) d_WORDS = some true := by
    have e : inD L (.str w) d_WORDS = inD [] (.str w) d_WORDS := rfl
    rw [e]
    rcases h with rfl | rfl | rfl <;> decide +kernel
  unfold oIn
  rw [this]
  rfl
theorem in_modes {w : Str} (h : ModeOk w) (L : List O) : oIn (.str w) d_MODES L = some (.bl true, L) := by
  have : inD L (.str w) d_MODES = some true := by
    have e : inD L (.str w) d_MODES = inD [] (.str w) d_MODES := rfl
    rw [e]
    rcases h with rfl | rfl | rfl <;> decide +kernel
  unfold oIn
  rw [this]
  rfl
theorem neI_of {L : List O} {a b : Int} : oNe (.int a) (.int b) L = some (.bl (!(a == b)), L) := by
  unfold oNe eqData
  have h1 : toPy L pyDeep (.int a) = some (.int a) := rfl
  have h2 : toPy L pyDeep (.int b) = some (.int b) := rfl
  simp only [h1, h2, shaped_int, and_self, if_true]
  rfl
theorem istake_ok {n : Int} {t : Tk} (hw : WordOk t.1) (hm : ModeOk t.2.2) (h0 : 0 ≤ t.2.1) (h1 : t.2.1 < n) (L : List O) : G_is_take [tkD t, .int n] L = .ok (.bl true) L := by
  refine lrun_pure (X := []) rfl ?_ rfl
  have w1 := in_words hw []
  have m1 := in_modes hm []
  simp [F_is_take, tkD, runF, m_is_take, mSeq, mIf, mOrB, mNotB, mTru, mIsi, mVar, tagD, isiT, Rs.bind, Rs.bindS, truth, mTst, mOp2, mFn, mCons, mNil, cLen, ofO, mC, mNext, neI_of, mAsg, gTupM, gsCons, gsNil, gNm, mCall, integer_ok, mRet, mAndV, w1, m1, mChain, oLe, oLt, oCmp, h0, h1]
def AllowAt (h : Int) (tl : List Tk) (i : Nat) (t : Tk) : Prop := t.1 ≠ (if hopAt h i = true then ("try" : Str) else ("leap" : Str)) ∧ t.2.1 ∉ (tl.take i).map (·.2.1) ∧ (t.2.2 ≠ "rising" ∨ (hopAt h i = false ∧ 0 < i ∧ ∃ u, tl[i - 1]? = some u ∧ ModeOk u.2.2 ∧ u.2.2 ≠ "shared"))
structure Tko (many h : Int) (tl : List Tk) (i : Nat) (t : Tk) : Prop where
  word : WordOk t.1
  mode : ModeOk t.2.2
  p0 : 0 ≤ t.2.1
  p1 : t.2.1 < many
  allow : AllowAt h tl i t
structure V (many h : Int) (tl : List Tk) : Prop where
  l1 : 1 ≤ tl.length
  l5 : tl.length ≤ 5
  h0 : 0 ≤ h
  h1 : h < tl.length
  all : ∀ (i : Nat) t, tl[i]? = some t → Tko many h tl i t
theorem TakesOk.v {many h : Int} {tl : List Tk} (o : TakesOk many h tl) : V many h tl := by
  obtain ⟨a1, a2, a3, a4, a5⟩ := o
  refine ⟨a1, a2, a3, a4, fun i t e => ?_⟩
  have q := a5 i t e
  refine ⟨q.word, q.mode, q.2.1, q.2.2.1, ?_, q.2.2.2.2, ?_⟩
  · rcases q.1 with e1 | e1
    · rw [e1]
      split
      · exact (by decide +kernel : ("take" : Str) ≠ "try")
      · exact (by decide +kernel : ("take" : Str) ≠ "leap")
    · rw [e1]
      split
      · exact (by decide +kernel : ("leap" : Str) ≠ "try")
      · exact (by decide +kernel : ("try" : Str) ≠ "leap")
  · rcases q.2.2.2.1 with e1 | e1 | ⟨e1, e2, u, e3, e4, e5⟩
    · left; rw [e1]; exact (by decide +kernel : ("shared" : Str) ≠ "rising")
    · left; rw [e1]; exact (by decide +kernel : ("alone" : Str) ≠ "rising")
    · right; exact ⟨e2, e3, u, e4, (a5 _ u e4).mode, e5⟩
theorem atI_get {α : Type} {xs : List α} {i : Nat} {x : α} (h : xs[i]? = some x) : atI xs (i : Int) = some x := by
  obtain ⟨hi, _⟩ := List.getElem?_eq_some_iff.mp h
  have : ixN xs.length (i : Int) = some i := by
    unfold ixN
    rw [if_pos (by omega), if_pos (by omega)]
    rfl
  unfold atI
  rw [this]
  exact h
theorem cut_to {xs : List D} {i : Nat} (h : i ≤ xs.length) : cutD xs none (some (i : Int)) = xs.take i := by
  unfold cutD
  have h1 : HT.sIx xs.length 0 none = 0 := rfl
  have h2 : HT.sIx xs.length xs.length (some (i : Int)) = i := by
    rw [HT.sIx_nat]
    omega
  rw [h1, h2]
  simp
theorem eq_word {w c : Str} (hw : WordOk w) (hc : c = "try" ∨ c = "leap") (n : w ≠ c) (L : List O) : oEq (.str w) (.str c) L = some (.bl false, L) := by
  refine oEq_of ?_
  rcases hw with rfl | rfl | rfl <;> rcases hc with rfl | rfl
  · decide +kernel
  · decide +kernel
  · decide +kernel
  · exact absurd rfl n
  · exact absurd rfl n
  · decide +kernel
theorem ne_mode {m c : Str} (hm : ModeOk m) (hc : ModeOk c) (L : List O) : oNe (.str m) (.str c) L = some (.bl (decide (m ≠ c)), L) := by
  have : oNe (.str m) (.str c) L = some (.bl (!(decide (m = c))), L) := by
    refine oNe_of ?_
    rcases hm with rfl | rfl | rfl <;> rcases hc with rfl | rfl | rfl <;> decide +kernel
  rw [this]
  by_cases e : m = c <;> simp [e]
theorem asg3 (a b c : Nat) (x y z : D) (ε : En) : (gTupM 3 (gsCons (gNm a) (gsCons (gNm b) (gsCons (gNm c) gsNil)))).f (.tup [x, y, z]) ε = some (((ε.set a (some x)).set b (some y)).set c (some z)) := rfl
def pt1 : D → D
  | .tup [_, p, _] => p
  | _ => .non
theorem allowed_ok {many h : Int} {tl : List Tk} {i : Nat} {t : Tk} (v : V many h tl) (e : tl[i]? = some t) (L : List O) : G_is_allowed [.tup (tl.map tkD), .int (i : Int), .int h] L = .ok (.bl true) L := by
  have o := v.all i t e
  obtain ⟨a1, a2, a3⟩ := o.allow
  have hi : i < tl.length := (List.getElem?_eq_some_iff.mp e).1
  have e1 : (tl.map tkD)[i]? = some (tkD t) := by rw [List.getElem?_map, e]; rfl
  have hat := atI_get e1
  have hcut : cutD (tl.map tkD) none (some (i : Int)) = (tl.take i).map tkD := by rw [cut_to (by simp; omega), List.map_take]
  -- the points ahead
  have hcomp : ∀ x3 x4 x5 x6 x7 : Option D, mComp [7] (mIter (mSl (mVar 0) mNoPart (mPart (mVar 1)))) (gNm 7) mYes (mOp2 oIdx (mVar 7) (mC (.int 1))) [some (.tup (tl.map tkD)), some (.int (i : Int)), some (.int h), x3, x4, x5, x6, x7] [] = .ok (.ref 0) [.lst (((tl.take i).map (·.2.1)).map D.int)] := by
    intro x3 x4 x5 x6 x7
    have hmi : mIter (mSl (mVar 0) mNoPart (mPart (mVar 1))) [some (.tup (tl.map tkD)), some (.int (i : Int)), some (.int h), x3, x4, x5, x6, x7] [] = .ok ⟨(tl.take i).map tkD, none⟩ [] := by
      simp [mIter, mSl, mVar, mNoPart, mPart, Rs.bind, oSl, ofO, hcut]
    unfold mComp
    rw [hmi]
    show loopC _ _ _ _ _ _ _ _ = _
    rw [comp_map pt1 ((tl.take i).map tkD) [] _ rfl (fun _ => rfl) (fun d hd L => ?_) (by simp; have := v.l5; omega)]
    · simp [pt1, tkD, Function.comp_def]
    · obtain ⟨u, _, rfl⟩ := List.mem_map.mp hd
      exact ⟨_, rfl, rfl⟩
  refine lrun_pure (X := [.lst (((tl.take i).map (·.2.1)).map D.int)]) (by show refsDs (tl.map tkD) ++ _ = []; rw [tk_pure]; rfl) ?_ rfl
  have hin : inD [.lst (((tl.take i).map (·.2.1)).map D.int)] (.int t.2.1) (.ref 0) = some false := by
    rw [inD_ints (ns := (tl.take i).map (·.2.1)) rfl]
    simp only [decide_eq_false a2]
  have hopE : ∀ (ε : En) (L : List O), ε[1]? = some (some (.int (i : Int))) → ε[2]? = some (some (.int h)) → mChain oLe oLe (mC (.int 1)) (mVar 1) (mVar 2) ε L = .ok (.bl (hopAt h i)) L := by
    intro ε L h1 h2
    unfold hopAt
    by_cases q : (1 : Int) ≤ (i : Nat)
    · simp [mChain, Rs.bind, mVar, mC, ofO, oLe, oCmp, q, h1, h2]
    · simp [mChain, Rs.bind, mVar, mC, ofO, oLe, oCmp, q, h1, h2]
  have hne := ne_mode o.mode (c := "rising") (.inr (.inr rfl)) [.lst (((tl.take i).map (·.2.1)).map D.int)]
  have heq := eq_word o.word (c := if hopAt h i = true then ("try" : Str) else ("leap" : Str)) (by split <;> simp) a1 [.lst (((tl.take i).map (·.2.1)).map D.int)]
  generalize hG : [O.lst (((tl.take i).map (·.2.1)).map D.int)] = G at hcomp hin hne heq ⊢
  cases hb : hopAt h i with
  | true =>
    rw [hb] at heq
    have heq' : oEq (.str t.1) (.str "try") G = some (.bl false, G) := heq
    have hr : t.2.2 ≠ "rising" := by
      rcases a3 with a3 | ⟨q, _⟩
      · exact a3
      · rw [hb] at q; cases q
    rw [decide_eq_true hr] at hne
    simp [F_is_allowed, runF, m_is_allowed, mSeq, mAsg, mOp2, mVar, Rs.bind, Rs.bindS, ofO, oIdx, hat, asg3, tkD, mIf, mTst, hcomp, oIn, hin, mNext, mSet, hopE, hb, mIfE, mTru, truth, mC, heq', mRet, mOrV, hne]
  | false =>
    rw [hb] at heq
    have heq' : oEq (.str t.1) (.str "leap") G = some (.bl false, G) := heq
    by_cases hr : t.2.2 = "rising"
    · rw [show decide (t.2.2 ≠ "rising") = false from by rw [hr]; rfl] at hne
      obtain ⟨_, g0, u, g1, g2, g3⟩ : hopAt h i = false ∧ 0 < i ∧ ∃ u, tl[i - 1]? = some u ∧ ModeOk u.2.2 ∧ u.2.2 ≠ "shared" := by
        rcases a3 with a3 | a3
        · exact absurd hr a3
        · exact a3
      have u1 : (tl.map tkD)[i - 1]? = some (tkD u) := by rw [List.getElem?_map, g1]; rfl
      have uat := atI_get u1
      have ei : ((i - 1 : Nat) : Int) = (i : Int) - 1 := by omega
      rw [ei] at uat
      have hne2 := ne_mode g2 (c := "shared") (.inl rfl) G
      rw [decide_eq_true g3] at hne2
      have hat2 : atI [D.str u.1, .int u.2.1, .str u.2.2] 2 = some (.str u.2.2) := rfl
      simp [F_is_allowed, runF, m_is_allowed, mSeq, mAsg, mOp2, mVar, Rs.bind, Rs.bindS, ofO, oIdx, hat, asg3, tkD, mIf, mTst, hcomp, oIn, hin, mNext, mSet, hopE, hb, mIfE, mTru, truth, mC, heq', mRet, mOrV, hne, mAndV, mNotV, oGt, oCmp, g0, oSub, uat, hat2, hne2]
    · rw [decide_eq_true hr] at hne
      simp [F_is_allowed, runF, m_is_allowed, mSeq, mAsg, mOp2, mVar, Rs.bind, Rs.bindS, ofO, oIdx, hat, asg3, tkD, mIf, mTst, hcomp, oIn, hin, mNext, mSet, hopE, hb, mIfE, mTru, truth, mC, heq', mRet, mOrV, hne]
theorem asg2 (a b : Nat) (x y : D) (ε : En) : (gTupM 2 (gsCons (gNm a) (gsCons (gNm b) gsNil))).f (.tup [x, y]) ε = some ((ε.set a (some x)).set b (some y)) := rfl
theorem ctakes_ok {ps : List D} {h : Int} {tl : List Tk} (hp : PlacesOk ps) (v : V (ps.length + 1) h tl) (L : List O) : G_checked_takes [.tup ps, .tup (tl.map tkD), .int h] L = .ok .non L := by
  obtain ⟨ε2, L2, hlp, x, y, rfl, rfl⟩ := loop_all (src := ⟨enumD 0 (tl.map tkD), none⟩) (t := gTupM 2 (gsCons (gNm 3) (gsCons (gNm 4) gsNil))) (body := mIf (mOrB (mNotB (mTru (mCall G_is_take (mCons (mVar 4) (mCons (mOp2 oAdd (mFn cLen (mCons (mVar 0) mNil)) (mC (.int 1))) mNil))))) (mNotB (mTru (mCall G_is_allowed (mCons (mVar 1) (mCons (mVar 3) (mCons (mVar 2) mNil))))))) mBad mNext)
    (fun i ε L => ∃ x y, ε = [some (.tup ps), some (.tup (tl.map tkD)), some (.int h), x, y] ∧ L = []) (ds := enumD 0 (tl.map tkD)) (ε := [some (.tup ps), some (.tup (tl.map tkD)), some (.int h), none, none]) (L := []) (fun _ _ _ _ => rfl) ⟨none, none, rfl, rfl⟩ (by
      rintro i d ε L hd ⟨x, y, rfl, rfl⟩
      obtain ⟨p, hq, rfl⟩ := enumD_get _ 0 i d hd
      rw [List.getElem?_map] at hq
      cases ht : tl[i]? with
      | none => rw [ht] at hq; cases hq
      | some t =>
        rw [ht] at hq
        cases hq
        have o := v.all i t ht
        have e1 := istake_ok o.word o.mode o.p0 o.p1 []
        have e2 := allowed_ok v ht []
        refine ⟨[some (.tup ps), some (.tup (tl.map tkD)), some (.int h), some (.int (0 + i)), some (tkD t)], [some (.tup ps), some (.tup (tl.map tkD)), some (.int h), some (.int (0 + i)), some (tkD t)], [], rfl, .inl ?_, _, _, rfl, rfl⟩
        simp [mIf, mOrB, mNotB, mTru, mCall, mCons, mNil, mVar, mOp2, mFn, cLen, mC, ofO, oAdd, Rs.bind, Rs.bindS, e1, e2, truth, mNext])
  refine lrun_pure (X := []) (by show refsDs ps ++ (refsDs (tl.map tkD) ++ []) = []; rw [hp.pure, tk_pure]; rfl) ?_ rfl
  have h0 : ¬ (h < 0) := by have := v.h0; omega
  have h1 : (1 : Int) ≤ (tl.length : Nat) := by have := v.l1; omega
  have h2 : ((tl.length : Nat) : Int) ≤ 5 := by have := v.l5; omega
  have h3 : ¬ (((tl.length : Nat) : Int) ≤ h) := by have := v.h1; omega
  have h1' : 1 ≤ tl.length := v.l1
  have h2' : tl.length ≤ 5 := v.l5
  simp [F_checked_takes, runF, m_checked_takes, mSeq, mIf, mOrB, mNotB, mTru, mIsi, mVar, tagD, isiT, Rs.bind, Rs.bindS, truth, mTst, mOp2, mFn, mCons, mNil, cLen, ofO, mC, oGe, oLt, oLe, oCmp, mCall, integer_ok, h0, h1, h2, h3, h1', h2', mChain, mNext, mFor, mEnum, hlp]
def wayO (ps : List D) (tl : List Tk) (h : Int) : O := .ins 2 [("places", .tup ps), ("locks", .tup (tl.map tkD)), ("walked", .int h)]
theorem wayO_pure {ps : List D} {tl : List Tk} {h : Int} (hp : PlacesOk ps) : refsO (wayO ps tl h) = [] := by
  show refsDs ps ++ (refsDs (tl.map tkD) ++ ([] ++ [])) = []
  rw [hp.pure, tk_pure]
  rfl
theorem init_ok {ps : List D} {h : Int} {tl : List Tk} (hp : PlacesOk ps) (v : V (ps.length + 1) h tl) {L : List O} {n : Nat} (hn : L[n]? = some (.ins 2 [])) : G_Wayu_initu [.ref n, .tup ps, .tup (tl.map tkD), .int h] L = .ok .non (L.set n (wayO ps tl h)) := by
  refine lrun_bag (X := []) (by show refsDs ps ++ (refsDs (tl.map tkD) ++ ([] ++ [])) = []; rw [hp.pure, tk_pure]; rfl) hn rfl ?_ (wayO_pure hp) rfl
  have e1 := points_ok hp [O.ins 2 []]
  have e2 := ctakes_ok hp v [O.ins 2 []]
  have k1 : ¬ (("places" : Str) = "locks") := by decide +kernel
  have k2 : ¬ (("places" : Str) = "walked") := by decide +kernel
  have k3 : ¬ (("locks" : Str) = "walked") := by decide +kernel
  simp [F_Wayu_initu, runF, m_Wayu_initu, mSeq, mDrop, mCall, mCons, mNil, mVar, Rs.bind, Rs.bindS, e1, e2, mFldSet, putD, k1, k2, k3, wayO]
/-! ways bent -/
theorem V.more {many h : Int} {tl : List Tk} (v : V many h tl) : V (many + 1) h tl :=
  ⟨v.l1, v.l5, v.h0, v.h1, fun i t e => let o := v.all i t e; ⟨o.word, o.mode, o.p0, by have := o.p1; omega, o.allow⟩⟩
theorem hop_less {h : Int} {i : Nat} (q : hopAt (h - 1) i = true) : hopAt h i = true := by
  unfold hopAt at q ⊢
  simp only [Bool.and_eq_true, decide_eq_true_eq] at q ⊢
  omega
theorem V.less {many h : Int} {tl : List Tk} (v : V many h tl) (h0 : 0 < h) (nl : ∀ t ∈ tl, t.1 ≠ "leap") : V many (h - 1) tl :=
  ⟨v.l1, v.l5, by omega, by have := v.h1; omega, fun i t e => by
    have o := v.all i t e
    obtain ⟨a1, a2, a3⟩ := o.allow
    refine ⟨o.word, o.mode, o.p0, o.p1, ?_, a2, ?_⟩
    · cases q : hopAt (h - 1) i with
      | true =>
        rw [hop_less q] at a1
        exact a1
      | false => exact nl t (List.mem_of_getElem? e)
    · rcases a3 with a3 | ⟨b1, b2⟩
      · exact .inl a3
      · right
        refine ⟨?_, b2⟩
        cases q : hopAt (h - 1) i with
        | true => rw [hop_less q] at b1; cases b1
        | false => rfl⟩
theorem V.alone {many h : Int} {tl : List Tk} {u : Tk} (v : V many h (tl ++ [u])) : V many h (tl ++ [(u.1, u.2.1, ("alone" : Str))]) := by
  have l1 := v.l1
  have l5 := v.l5
  have h1 := v.h1
  simp at l1 l5 h1
  refine ⟨by simp, by simpa using l5, v.h0, by simpa using h1, fun i t e => ?_⟩
  by_cases hi : i < tl.length
  · have e' := e
    rw [List.getElem?_append_left hi] at e'
    have o := v.all i t (by rw [List.getElem?_append_left hi]; exact e')
    obtain ⟨a1, a2, a3⟩ := o.allow
    rw [List.take_append_of_le_length (by omega)] at a2
    refine ⟨o.word, o.mode, o.p0, o.p1, a1, by rw [List.take_append_of_le_length (by omega)]; exact a2, ?_⟩
    rcases a3 with a3 | ⟨b1, b2, w, b3, b4⟩
    · exact .inl a3
    · rw [List.getElem?_append_left (by omega)] at b3
      exact .inr ⟨b1, b2, w, by rw [List.getElem?_append_left (by omega)]; exact b3, b4⟩
  · have hie : i = tl.length := by
      obtain ⟨q, _⟩ := List.getElem?_eq_some_iff.mp e
      simp at q; omega
    subst hie
    have et : t = (u.1, u.2.1, ("alone" : Str)) := by
      rw [List.getElem?_append_right (Nat.le_refl _)] at e
      simpa using e.symm
    subst et
    have o := v.all tl.length u (by simp)
    obtain ⟨a1, a2, a3⟩ := o.allow
    rw [List.take_append_of_le_length (Nat.le_refl _)] at a2
    refine ⟨o.word, .inr (.inl rfl), o.p0, o.p1, a1, by rw [List.take_append_of_le_length (Nat.le_refl _)]; exact a2, .inl (show ("alone" : Str) ≠ "rising" by decide +kernel)⟩
theorem PlacesOk.push {ps : List D} (h : PlacesOk ps) (hl : ps.length < 4) : PlacesOk (ps ++ [.tup [.str "parent"]]) := by
  refine ⟨by simp; omega, fun i p e => ?_⟩
  by_cases hi : i < ps.length
  · rw [List.getElem?_append_left hi] at e; exact h.2 i p e
  · rw [List.getElem?_append_right (by omega)] at e
    obtain ⟨q, e⟩ := List.getElem?_eq_some_iff.mp e
    exact .inl (by simpa using e.symm)
theorem eq_leap {w : Str} (hw : WordOk w) (L : List O) : oEq (.str w) (.str "leap") L = some (.bl (decide (w = "leap")), L) := by
  refine oEq_of ?_
  rcases hw with rfl | rfl | rfl <;> decide +kernel
def isLeap : D → Bool
  | .tup [.str w, _, _] => decide (w = "leap")
  | _ => false
/-- the parts bent: valid parts again -/
theorem bent_spec {k h : Int} {o : O} {ps : List D} {tl : List Tk} (hb : BagI (k + 1) o) (hk : 0 ≤ k) (hp : PlacesOk ps) (v : V (ps.length + 1) h tl) : ∃ (ps' : List D) (tl' : List Tk) (h' : Int) (o' : O) (X : List O), Fulaw_bent [.ref 0, .tup ps, .tup (tl.map tkD), .int h] [o] = .ok (.tup [.tup ps', .tup (tl'.map tkD), .int h']) (o' :: X) ∧ PlacesOk ps' ∧ V (ps'.length + 1) h' tl' ∧ BagI k o' := by
  obtain ⟨r, o1, e1, r0, r1, B1⟩ := Gtake (L := [o]) (n := 0) (m := 4) (k := k) rfl hb hk (by decide) (by decide)
  have e1' : Gulaw_take [.ref 0, .int 4] [o] = .ok (.int r) [o1] := e1
  obtain ⟨tl0, u, rfl⟩ : ∃ tl0 u, tl = tl0 ++ [u] := ⟨tl.dropLast, tl.getLast (by intro z; have := v.l1; rw [z] at this; simp at this), (List.dropLast_concat_getLast _).symm⟩
  have hmap : (tl0 ++ [u]).map tkD = tl0.map tkD ++ [tkD u] := by simp
  have hat : atI ((tl0 ++ [u]).map tkD) (-1) = some (tkD u) := by rw [hmap]; exact atI_last
  have l5 := v.l5
  simp at l5
  by_cases w0 : r = 0
  · subst w0
    refine ⟨ps, tl0 ++ [(u.1, u.2.1, ("alone" : Str))], h, o1, [], ?_, hp, v.alone, B1⟩
    have hcut : cutD ((tl0 ++ [u]).map tkD) none (some (-1)) = tl0.map tkD := by
      rw [hmap]
      unfold cutD
      have h1 : HT.sIx (tl0.map tkD ++ [tkD u]).length 0 none = 0 := rfl
      have h2 : HT.sIx (tl0.map tkD ++ [tkD u]).length (tl0.map tkD ++ [tkD u]).length (some (-1)) = tl0.length := by
        unfold HT.sIx
        simp
        omega
      rw [h1, h2]
      have := List.length_map (as := tl0) tkD
      simp
    have hz : tl0.length + 1 ≤ sizeLine := most_le (by unfold most; omega)
    generalize hT : (tl0 ++ [u]).map tkD = T at hat hcut
    simp [Fulaw_bent, runF, m_law_bent, mSeq, mSet, mCall, mCons, mNil, mVar, mC, Rs.bind, Rs.bindS, e1', mAsg, mOp1, oNeg, mOp2, oIdx, hat, ofO, asg3, tkD, mIf, mTst, eqI_of, mRet, mTup, mSl, mNoPart, mPart, oSl, hcut, oAdd, most, hz]
  · have same : (∃ X, Fulaw_bent [.ref 0, .tup ps, .tup ((tl0 ++ [u]).map tkD), .int h] [o] = .ok (.tup [.tup ps, .tup ((tl0 ++ [u]).map tkD), .int h]) (o1 :: X)) → ∃ (ps' : List D) (tl' : List Tk) (h' : Int) (o' : O) (X : List O), Fulaw_bent [.ref 0, .tup ps, .tup ((tl0 ++ [u]).map tkD), .int h] [o] = .ok (.tup [.tup ps', .tup (tl'.map tkD), .int h']) (o' :: X) ∧ PlacesOk ps' ∧ V (ps'.length + 1) h' tl' ∧ BagI k o' := fun ⟨X, e⟩ => ⟨ps, tl0 ++ [u], h, o1, X, e, hp, v, B1⟩
    have b0 : (r == 0) = false := by simpa using w0
    by_cases w1 : r = 1
    · subst w1
      by_cases h4 : ps.length < 4
      · refine ⟨ps ++ [.tup [.str "parent"]], tl0 ++ [u], h, o1, [], ?_, hp.push h4, ?_, B1⟩
        · have h4i : ((ps.length : Nat) : Int) < 4 := by omega
          have hz : ps.length + 1 ≤ sizeLine := most_le (by unfold most; omega)
          generalize hT : (tl0 ++ [u]).map tkD = T at hat
          simp [Fulaw_bent, runF, m_law_bent, mSeq, mSet, mCall, mCons, mNil, mVar, mC, Rs.bind, Rs.bindS, e1', mAsg, mOp1, oNeg, mOp2, oIdx, hat, ofO, asg3, tkD, mIf, mTst, eqI_of, mRet, mTup, oAdd, most, hz, mAndB, mFn, cLen, oLt, oCmp, h4, h4i, mNext]
        · simp only [List.length_append, List.length_cons, List.length_nil]
          have := v.more
          simpa using this
      · refine same ⟨[], ?_⟩
        have h4i : ¬ (((ps.length : Nat) : Int) < 4) := by omega
        generalize hT : (tl0 ++ [u]).map tkD = T at hat
        simp [Fulaw_bent, runF, m_law_bent, mSeq, mSet, mCall, mCons, mNil, mVar, mC, Rs.bind, Rs.bindS, e1', mAsg, mOp1, oNeg, mOp2, oIdx, hat, ofO, asg3, tkD, mIf, mTst, eqI_of, mRet, mTup, oAdd, most, mAndB, mFn, cLen, oLt, oCmp, h4, h4i, mNext]
    · have b1 : (r == 1) = false := by simpa using w1
      have hcomp : ∀ x4 x5 x6 x7 x8 : Option D, mComp [8] (mIter (mVar 2)) (gNm 8) (mTst (mOp2 oEq (mOp2 oIdx (mVar 8) (mC (.int 0))) (mC (.str "leap")))) (mVar 8) [some (.ref 0), some (.tup ps), some (.tup ((tl0 ++ [u]).map tkD)), some (.int h), x4, x5, x6, x7, x8] [o1] = .ok (.ref 1) [o1, .lst (((tl0 ++ [u]).map tkD).filter isLeap)] := by
        intro x4 x5 x6 x7 x8
        unfold mComp
        show loopC _ _ _ _ _ _ _ _ = _
        rw [comp_filter isLeap ((tl0 ++ [u]).map tkD) [] _ rfl (fun _ => rfl) (fun d hd L => ?_) (by simp; omega)]
        · rfl
        · obtain ⟨w, hw, rfl⟩ := List.mem_map.mp hd
          obtain ⟨j, hj⟩ := List.getElem?_of_mem hw
          refine ⟨_, rfl, ?_, rfl⟩
          have q := eq_leap (v.all j w hj).word L
          simp [mTst, mOp2, mVar, Rs.bind, ofO, oIdx, tkD, atI, ixN, mC, q, isLeap, wipeE]
      by_cases w2 : r = 2
      · subst w2
        by_cases hh : 0 < h
        · cases hf : ((tl0 ++ [u]).map tkD).filter isLeap with
          | nil =>
            have nl : ∀ t ∈ tl0 ++ [u], t.1 ≠ "leap" := fun t ht e => by
              have : tkD t ∈ ((tl0 ++ [u]).map tkD).filter isLeap := List.mem_filter.mpr ⟨List.mem_map.mpr ⟨t, ht, rfl⟩, by simp [isLeap, tkD, e]⟩
              rw [hf] at this
              cases this
            rw [hf] at hcomp
            refine ⟨ps, tl0 ++ [u], h - 1, o1, [.lst []], ?_, hp, v.less hh nl, B1⟩
            generalize hT : (tl0 ++ [u]).map tkD = T at hat hcomp
            simp [Fulaw_bent, runF, m_law_bent, mSeq, mSet, mCall, mCons, mNil, mVar, mC, Rs.bind, Rs.bindS, e1', mAsg, mOp1, oNeg, mOp2, oIdx, hat, ofO, asg3, tkD, mIf, mTst, eqI_of, mRet, mTup, oSub, most, mAndB, mFn, cLen, oGt, oCmp, hh, mNext, mNotB, mTru, hcomp, truth]
          | cons a as =>
            rw [hf] at hcomp
            refine same ⟨[.lst (a :: as)], ?_⟩
            generalize hT : (tl0 ++ [u]).map tkD = T at hat hcomp
            simp [Fulaw_bent, runF, m_law_bent, mSeq, mSet, mCall, mCons, mNil, mVar, mC, Rs.bind, Rs.bindS, e1', mAsg, mOp1, oNeg, mOp2, oIdx, hat, ofO, asg3, tkD, mIf, mTst, eqI_of, mRet, mTup, oSub, most, mAndB, mFn, cLen, oGt, oCmp, hh, mNext, mNotB, mTru, hcomp, truth]
        · refine same ⟨[], ?_⟩
          generalize hT : (tl0 ++ [u]).map tkD = T at hat hcomp
          simp [Fulaw_bent, runF, m_law_bent, mSeq, mSet, mCall, mCons, mNil, mVar, mC, Rs.bind, Rs.bindS, e1', mAsg, mOp1, oNeg, mOp2, oIdx, hat, ofO, asg3, tkD, mIf, mTst, eqI_of, mRet, mTup, oSub, most, mAndB, mFn, cLen, oGt, oCmp, hh, mNext, mNotB, mTru, hcomp, truth]
      · have b2 : (r == 2) = false := by simpa using w2
        refine same ⟨[], ?_⟩
        generalize hT : (tl0 ++ [u]).map tkD = T at hat hcomp
        simp [Fulaw_bent, runF, m_law_bent, mSeq, mSet, mCall, mCons, mNil, mVar, mC, Rs.bind, Rs.bindS, e1', mAsg, mOp1, oNeg, mOp2, oIdx, hat, ofO, asg3, tkD, mIf, mTst, eqI_of, mRet, mTup, oSub, most, mAndB, mFn, cLen, oGt, oCmp, b0, b1, b2, mNext]
theorem Gbent {k h : Int} {o : O} {L : List O} {n : Nat} {ps : List D} {tl : List Tk} (hL : L[n]? = some o) (hb : BagI (k + 1) o) (hk : 0 ≤ k) (hp : PlacesOk ps) (v : V (ps.length + 1) h tl) : ∃ (ps' : List D) (tl' : List Tk) (h' : Int) (o' : O), Gulaw_bent [.ref n, .tup ps, .tup (tl.map tkD), .int h] L = .ok (.tup [.tup ps', .tup (tl'.map tkD), .int h']) (L.set n o') ∧ PlacesOk ps' ∧ V (ps'.length + 1) h' tl' ∧ BagI k o' := by
  obtain ⟨ps', tl', h', o', X, e, h1, h2, h3⟩ := bent_spec hb hk hp v
  refine ⟨ps', tl', h', o', lrun_bag (by show refsDs ps ++ (refsDs (tl.map tkD) ++ ([] ++ [])) = []; rw [hp.pure, tk_pure]; rfl) hL hb.pure e h3.pure ?_, h1, h2, h3⟩
  show refsDs ps' ++ (refsDs (tl'.map tkD) ++ ([] ++ [])) = []
  rw [h1.pure, tk_pure]
  rfl
theorem bag_spec (ns : List Int) (i : Nat) (hi : i ≤ 100) : ∃ o, Fulaw_bag [.rol (ns.map .int), .int (i : Int)] [] = .ok (.ref 0) [o] ∧ BagI 900000000000 o := by
  have num : ∃ N : Int, ∀ x2 x3 : Option D, mSet 2 (mIfE (mTst (mOp2 oLt (mVar 1) (mFn cLen (mCons (mVar 0) mNil)))) (mOp2 oIdx (mVar 0) (mVar 1)) (mC (.int 0))) [some (.rol (ns.map .int)), some (.int (i : Int)), x2, x3] [] = .nx [some (.rol (ns.map .int)), some (.int (i : Int)), some (.int N), x3] [] := by
    by_cases h : i < ns.length
    · refine ⟨ns[i], fun x2 x3 => ?_⟩
      have e : (ns.map D.int)[i]? = some (.int ns[i]) := by simp [h]
      have hat := atI_get e
      have h' : (i : Int) < (ns.length : Nat) := by omega
      generalize hT : ns.map D.int = T at hat
      have hl : T.length = ns.length := by rw [← hT]; simp
      simp [mSet, mIfE, mTst, mOp2, mVar, mFn, mCons, mNil, cLen, Rs.bind, Rs.bindS, ofO, oLt, oCmp, hl, h, oIdx, hat]
    · refine ⟨0, fun x2 x3 => ?_⟩
      simp [mSet, mIfE, mTst, mOp2, mVar, mFn, mCons, mNil, cLen, Rs.bind, Rs.bindS, ofO, oLt, oCmp, h, mC]
  obtain ⟨N, hN⟩ := num
  have y0 : 0 ≤ N.fmod 1000000000000000003 := Int.fmod_nonneg_of_pos _ (by decide)
  have y1 : N.fmod 1000000000000000003 < 1000000000000000003 := Int.fmod_lt_of_pos _ (by decide)
  have ok1 : ∀ T : Int, mulOk T 11 = true := fun T => by
    unfold mulOk
    simp only [Bool.or_eq_true, decide_eq_true_eq]
    exact .inl (.inr ⟨by decide, by decide⟩)
  have ok2 : ∀ T : Int, mulOk 7907 T = true := fun T => by
    unfold mulOk
    simp only [Bool.or_eq_true, decide_eq_true_eq]
    exact .inl (.inl ⟨by decide, by decide⟩)
  generalize hT : ns.map D.int = T at hN ⊢
  by_cases hb : (1000000000000000000 : Int) ≤ (if N < 0 then -N else N)
  · refine ⟨.lst [.int (if N < 0 then -N else N), .int (N.fmod 1000000000000000003 * 11 + 7907 * (i : Int) + 613), .int 0], ?_, _, _, _, rfl, by omega, by omega, by omega, by omega, by omega, by omega⟩
    simp [Fulaw_bag, runF, m_law_bag, mSeq, hN]
    simp [mSet, mIfE, mTst, mOp2, mVar, mFn, mCons, mNil, mC, cAbs, cInt, Rs.bind, Rs.bindS, ofO, oGe, oCmp, oPow, oMod, oAdd, oMul, ok1, ok2, hb, mRet, mLst, most]
  · refine ⟨.lst [.int 0, .int (N.fmod 1000000000000000003 * 11 + 7907 * (i : Int) + 613), .int 0], ?_, _, _, _, rfl, by omega, by omega, by omega, by omega, by omega, by omega⟩
    simp [Fulaw_bag, runF, m_law_bag, mSeq, hN]
    simp [mSet, mIfE, mTst, mOp2, mVar, mFn, mCons, mNil, mC, cAbs, cInt, Rs.bind, Rs.bindS, ofO, oGe, oCmp, oPow, oMod, oAdd, oMul, ok1, ok2, hb, mRet, mLst, most]
theorem Gbag (ns : List Int) (i : Nat) (hi : i ≤ 100) (L : List O) : ∃ o, Gulaw_bag [.rol (ns.map .int), .int (i : Int)] L = .ok (.ref L.length) (L ++ [o]) ∧ BagI 900000000000 o := by
  obtain ⟨o, e, b⟩ := bag_spec ns i hi
  refine ⟨o, lrun_new (X := []) ?_ e b.pure, b⟩
  have : refsDs (ns.map D.int) = [] := refs_all fun d hd => by
    obtain ⟨n, _, rfl⟩ := List.mem_map.mp hd
    rfl
  show refsDs (ns.map D.int) ++ [] = []
  rw [this]
  rfl
/-! the instances -/
theorem points_get {ps : List D} {tl : List Tk} {h : Int} {L : List O} {n : Nat} (hp : PlacesOk ps) (hL : L[n]? = some (wayO ps tl h)) : G_Way_points [.ref n] L = .ok (.tup ps) L := by
  have := lrun_bag (F := F_Way_points) (rest := []) (X := []) (o' := wayO ps tl h) rfl hL (wayO_pure hp) (d := .tup ps) (by simp [F_Way_points, runF, m_Way_points, mRet, mFld, mVar, Rs.bind, Rs.bindS, wayO]) (wayO_pure hp) hp.pure
  rw [show G_Way_points [.ref n] L = lrun F_Way_points [.ref n] L from rfl, this, set_same hL]
theorem str_ne1 : (("locks" : Str) == "places") = false := by decide +kernel
theorem str_ne2 : (("walked" : Str) == "places") = false := by decide +kernel
theorem str_ne3 : (("walked" : Str) == "locks") = false := by decide +kernel
theorem fld_places (ps : List D) (tl : List Tk) (h : Int) : List.lookup ("places" : Str) [(("places" : Str), D.tup ps), ("locks", .tup (tl.map tkD)), ("walked", .int h)] = some (.tup ps) := by
  rw [List.lookup_cons]
  simp
theorem fld_locks (ps : List D) (tl : List Tk) (h : Int) : List.lookup ("locks" : Str) [(("places" : Str), D.tup ps), ("locks", .tup (tl.map tkD)), ("walked", .int h)] = some (.tup (tl.map tkD)) := by
  simp [List.lookup_cons, str_ne1]
theorem fld_walked (ps : List D) (tl : List Tk) (h : Int) : List.lookup ("walked" : Str) [(("places" : Str), D.tup ps), ("locks", .tup (tl.map tkD)), ("walked", .int h)] = some (.int h) := by
  simp [List.lookup_cons, str_ne2, str_ne3]
theorem takes_get {ps : List D} {tl : List Tk} {h : Int} {L : List O} {n : Nat} (hp : PlacesOk ps) (hL : L[n]? = some (wayO ps tl h)) : G_Way_takes [.ref n] L = .ok (.tup (tl.map tkD)) L := by
  have := lrun_bag (F := F_Way_takes) (rest := []) (X := []) (o' := wayO ps tl h) rfl hL (wayO_pure hp) (d := .tup (tl.map tkD)) (by simp [F_Way_takes, runF, m_Way_takes, mRet, mFld, mVar, Rs.bind, Rs.bindS, wayO, fld_locks]) (wayO_pure hp) (tk_pure tl)
  rw [show G_Way_takes [.ref n] L = lrun F_Way_takes [.ref n] L from rfl, this, set_same hL]
theorem hops_get {ps : List D} {tl : List Tk} {h : Int} {L : List O} {n : Nat} (hp : PlacesOk ps) (hL : L[n]? = some (wayO ps tl h)) : G_Way_hops [.ref n] L = .ok (.int h) L := by
  have := lrun_bag (F := F_Way_hops) (rest := []) (X := []) (o' := wayO ps tl h) rfl hL (wayO_pure hp) (d := .int h) (by simp [F_Way_hops, runF, m_Way_hops, mRet, mFld, mVar, Rs.bind, Rs.bindS, wayO, fld_walked]) (wayO_pure hp) rfl
  rw [show G_Way_hops [.ref n] L = lrun F_Way_hops [.ref n] L from rfl, this, set_same hL]
theorem len_get {ps : List D} {tl : List Tk} {h : Int} {L : List O} {n : Nat} (hp : PlacesOk ps) (hL : L[n]? = some (wayO ps tl h)) : G_Wayu_lenu [.ref n] L = .ok (.int tl.length) L := by
  have := lrun_bag (F := F_Wayu_lenu) (rest := []) (X := []) (o' := wayO ps tl h) rfl hL (wayO_pure hp) (d := .int tl.length) (by simp [F_Wayu_lenu, runF, m_Wayu_lenu, mRet, mFn, mCons, mNil, mFld, mVar, Rs.bind, Rs.bindS, wayO, fld_locks, cLen, ofO]) (wayO_pure hp) rfl
  rw [show G_Wayu_lenu [.ref n] L = lrun F_Wayu_lenu [.ref n] L from rfl, this, set_same hL]
theorem nice_place {i : Int} {p : D} (h : PlaceOk i p) : Nice 1 p := by
  rcases h with rfl | ⟨j, _, _, rfl⟩
  · refine nice_tup (k := 0) fun d hd => ?_
    simp at hd
    subst hd
    exact ⟨_, nice_str (by decide +kernel)⟩
  · refine nice_tup (k := 0) fun d hd => ?_
    simp at hd
    rcases hd with rfl | rfl
    · exact ⟨_, nice_str (by decide +kernel)⟩
    · exact ⟨_, nice_int j⟩
theorem nice_places {ps : List D} (h : PlacesOk ps) : Nice 2 (.tup ps) := nice_tup fun d hd => by
  obtain ⟨i, hi⟩ := List.getElem?_of_mem hd
  exact nice_place (h.2 i d hi)
theorem nice_word {w : Str} (h : WordOk w) : Nice 0 (.str w) := ⟨_, nice_str (by rcases h with rfl | rfl | rfl <;> decide +kernel)⟩
theorem nice_mode {w : Str} (h : ModeOk w) : Nice 0 (.str w) := ⟨_, nice_str (by rcases h with rfl | rfl | rfl <;> decide +kernel)⟩
theorem nice_takes {many h : Int} {tl : List Tk} (v : V many h tl) : Nice 2 (.tup (tl.map tkD)) := nice_tup fun d hd => by
  obtain ⟨t, ht, rfl⟩ := List.mem_map.mp hd
  obtain ⟨i, hi⟩ := List.getElem?_of_mem ht
  have o := v.all i t hi
  refine nice_tup (k := 0) fun e he => ?_
  simp at he
  rcases he with rfl | rfl | rfl
  · exact nice_word o.word
  · exact ⟨_, nice_int _⟩
  · exact nice_mode o.mode
theorem nice_parts {many h : Int} {ps : List D} {tl : List Tk} (hp : PlacesOk ps) (v : V many h tl) : Nice 3 (.tup [.tup ps, .tup (tl.map tkD), .int h]) := nice_tup fun d hd => by
  simp at hd
  rcases hd with rfl | rfl | rfl
  · exact nice_places hp
  · exact nice_takes v
  · obtain ⟨p, q⟩ : Nice 0 (.int h) := ⟨_, nice_int h⟩
    exact ⟨p, q.up (by decide)⟩

/-! texts shown -/
theorem low_app (a b : Str) : PyData.strOk (a ++ b) = (PyData.strOk a && PyData.strOk b) := by
  show (a.cps ++ b.cps).all _ = _
  rw [Array.all_append]
  rfl
theorem low_from : ∀ (ts : List Str) (k : Nat) (acc : Str), PyData.strOk acc = true → (∀ t ∈ ts, PyData.strOk t = true) → PyData.strOk (textFrom k acc ts) = true
  | [], k, acc, h, _ => h
  | t :: r, k, acc, h, ht => by
    show PyData.strOk (textFrom (k + 1) (acc ++ (if k > 0 then ", " else "" : String) ++ t) r) = true
    refine low_from r _ _ ?_ fun u hu => ht u (List.mem_cons_of_mem _ hu)
    rw [low_app, low_app, h, ht t List.mem_cons_self]
    split <;> decide +kernel
theorem low_list {ts : List Str} (h : ∀ t ∈ ts, PyData.strOk t = true) : PyData.strOk (listText ts) = true := by
  show PyData.strOk (textFrom 0 "[" ts ++ "]") = true
  rw [low_app, low_from ts 0 _ (by decide +kernel) h]
  decide +kernel
theorem low_tuple {ts : List Str} (h : ∀ t ∈ ts, PyData.strOk t = true) : PyData.strOk (tupleText ts) = true := by
  have := low_list h
  rw [listText_eq_join, low_app, low_app, Bool.and_eq_true, Bool.and_eq_true] at this
  unfold tupleText
  rw [low_app, low_app, this.1.2]
  split <;> decide +kernel
/-- data that repr shows in at most w signs -/
structure ShowP (w : Nat) (p : PyData) : Prop where
  ok : p.showable = true
  low : PyData.strOk p.shown = true
  len : p.shown.length ≤ w
def NiceS (k w : Nat) (d : D) : Prop := ∃ p, NiceP k d p ∧ ShowP w p
theorem show_all {w : Nat} : ∀ {ps : List PyData}, (∀ p ∈ ps, ShowP w p) → PyData.showableAll ps = true ∧ (∀ t ∈ PyData.shownAll ps, PyData.strOk t = true) ∧ ((PyData.shownAll ps).map (·.length)).sum ≤ w * ps.length ∧ (PyData.shownAll ps).length = ps.length
  | [], _ => ⟨by simp [PyData.showableAll], by simp [PyData.shownAll], by simp [PyData.shownAll], by simp [PyData.shownAll]⟩
  | p :: ps, h => by
    obtain ⟨a, b, c, d⟩ := show_all fun q hq => h q (List.mem_cons_of_mem _ hq)
    have hp := h p List.mem_cons_self
    refine ⟨by simp [PyData.showableAll, hp.ok, a], ?_, ?_, ?_⟩
    · intro t ht
      rw [PyData.shownAll] at ht
      rcases List.mem_cons.mp ht with rfl | ht
      · exact hp.low
      · exact b t ht
    · rw [PyData.shownAll, List.map_cons, List.sum_cons, List.length_cons, Nat.mul_add, Nat.mul_one]
      have := hp.len
      omega
    · rw [PyData.shownAll, List.length_cons, List.length_cons, d]
theorem niceS_all {k w : Nat} : ∀ {ds : List D}, (∀ d ∈ ds, NiceS k w d) → ∃ ps : List PyData, (∀ L n, k < n → optAll (toPy L n) ds = some ps) ∧ PyData.canLayAll0 ps = true ∧ PyData.depthAll ps ≤ k ∧ (∀ p ∈ ps, ShowP w p) ∧ ps.length = ds.length
  | [], _ => ⟨[], fun _ _ _ => rfl, by simp [PyData.canLayAll0], by simp [PyData.depthAll], fun p z => absurd z List.not_mem_nil, rfl⟩
  | d :: ds, h => by
    obtain ⟨p, hp, sp⟩ := h d List.mem_cons_self
    obtain ⟨ps, h1, h2, h3, h4, h5⟩ := niceS_all (ds := ds) fun e he => h e (List.mem_cons_of_mem _ he)
    refine ⟨p :: ps, fun L n hn => optAll_cons (hp.py L n hn) (h1 L n hn), by simp [PyData.canLayAll0, hp.lay, h2], ?_, ?_, by simp [h5]⟩
    · have := hp.dep
      simp only [PyData.depthAll]
      omega
    · intro q hq
      rcases List.mem_cons.mp hq with rfl | hq
      · exact sp
      · exact h4 q hq
theorem niceS_tup {k w n : Nat} {ds : List D} (h : ∀ d ∈ ds, NiceS k w d) (hn : ds.length ≤ n) : NiceS (k + 1) (n * (w + 2) + 3) (.tup ds) := by
  obtain ⟨ps, h1, h2, h3, h4, h5⟩ := niceS_all h
  obtain ⟨a, b, c, d⟩ := show_all h4
  refine ⟨.tuple ps, ⟨fun L m hm => ?_, by simpa [PyData.canLay0] using h2, by simp only [PyData.depth]; omega⟩, by simpa [PyData.showable] using a, low_tuple b, ?_⟩
  · cases m with
    | zero => omega
    | succ m =>
      show (optAll (toPy L m) ds).map PyData.tuple = _
      rw [h1 L m (by omega)]
      rfl
  · have := tupleText_len_le (PyData.shownAll ps)
    rw [show (PyData.tuple ps).shown = tupleText (PyData.shownAll ps) from rfl]
    have e : ps.length * (w + 2) ≤ n * (w + 2) := Nat.mul_le_mul_right _ (by omega)
    rw [Nat.mul_add, Nat.mul_comm] at e
    omega
theorem NiceS.up {k j w v : Nat} {d : D} (h : NiceS k w d) (hj : k ≤ j) (hv : w ≤ v) : NiceS j v d := by
  obtain ⟨p, hp, s⟩ := h
  exact ⟨p, hp.up hj, s.ok, s.low, Nat.le_trans s.len hv⟩
theorem niceS_int {i : Int} (h0 : 0 ≤ i) (h1 : i < 6) : NiceS 0 20 (.int i) := by
  refine ⟨_, nice_int i, ?_⟩
  have : i = 0 ∨ i = 1 ∨ i = 2 ∨ i = 3 ∨ i = 4 ∨ i = 5 := by omega
  rcases this with rfl | rfl | rfl | rfl | rfl | rfl <;> exact ⟨by decide +kernel, by decide +kernel, by decide +kernel⟩
theorem niceS_str {x : Str} (h : (PyData.str x).canLay0 = true) (h1 : PyData.strOk (PyData.str x).shown = true) (h2 : (PyData.str x).shown.length ≤ 20) : NiceS 0 20 (.str x) := ⟨_, nice_str h, by simp [PyData.showable], h1, h2⟩
theorem niceS_place {i : Int} {p : D} (hi : i ≤ 4) (h : PlaceOk i p) : NiceS 1 47 p := by
  rcases h with rfl | ⟨j, j0, j1, rfl⟩
  · refine niceS_tup (k := 0) (w := 20) (n := 2) (fun d hd => ?_) (by simp)
    simp at hd
    subst hd
    exact niceS_str (by decide +kernel) (by decide +kernel) (by decide +kernel)
  · refine niceS_tup (k := 0) (w := 20) (n := 2) (fun d hd => ?_) (by simp)
    simp at hd
    rcases hd with rfl | rfl
    · exact niceS_str (by decide +kernel) (by decide +kernel) (by decide +kernel)
    · exact niceS_int j0 (by omega)
theorem niceS_places {ps : List D} (h : PlacesOk ps) : NiceS 2 400 (.tup ps) := by
  refine (niceS_tup (k := 1) (w := 47) (n := 4) (fun d hd => ?_) h.1).up (by decide) (by decide)
  obtain ⟨i, hi⟩ := List.getElem?_of_mem hd
  have := (List.getElem?_eq_some_iff.mp hi).1
  exact niceS_place (by have := h.1; omega) (h.2 i d hi)
theorem niceS_word {w : Str} (h : WordOk w) : NiceS 0 20 (.str w) := by
  rcases h with rfl | rfl | rfl <;> exact niceS_str (by decide +kernel) (by decide +kernel) (by decide +kernel)
theorem niceS_mode {w : Str} (h : ModeOk w) : NiceS 0 20 (.str w) := by
  rcases h with rfl | rfl | rfl <;> exact niceS_str (by decide +kernel) (by decide +kernel) (by decide +kernel)
theorem niceS_takes {many h : Int} {tl : List Tk} (v : V many h tl) (hm : many ≤ 5) : NiceS 2 400 (.tup (tl.map tkD)) := by
  refine (niceS_tup (k := 1) (w := 69) (n := 5) (fun d hd => ?_) (by simpa using v.l5)).up (by decide) (by decide)
  obtain ⟨t, ht, rfl⟩ := List.mem_map.mp hd
  obtain ⟨i, hi⟩ := List.getElem?_of_mem ht
  have o := v.all i t hi
  refine niceS_tup (k := 0) (w := 20) (n := 3) (fun e he => ?_) (by simp)
  simp at he
  rcases he with rfl | rfl | rfl
  · exact niceS_word o.word
  · exact niceS_int o.p0 (by have := o.p1; omega)
  · exact niceS_mode o.mode
/-! parts -/
structure Pt where
  ps : List D
  tl : List Tk
  h : Int
def Pt.d (P : Pt) : D := .tup [.tup P.ps, .tup (P.tl.map tkD), .int P.h]
def Pt.o (P : Pt) : O := wayO P.ps P.tl P.h
structure Pt.Ok (P : Pt) : Prop where
  pl : PlacesOk P.ps
  v : V (P.ps.length + 1) P.h P.tl
theorem Pt.Ok.s {P : Pt} (o : P.Ok) : NiceS 3 1300 P.d := by
  refine (niceS_tup (k := 2) (w := 400) (n := 3) (fun d hd => ?_) (by simp)).up (by decide) (by decide)
  simp at hd
  rcases hd with rfl | rfl | rfl
  · exact niceS_places o.pl
  · exact niceS_takes o.v (by have := o.pl.1; omega)
  · exact (niceS_int o.v.h0 (by have := o.v.h1; have := o.v.l5; omega)).up (by decide) (by decide)
theorem Pt.Ok.n {P : Pt} (o : P.Ok) : Nice 3 P.d := by
  obtain ⟨p, h, _⟩ := o.s
  exact ⟨p, h⟩
theorem Pt.Ok.pure {P : Pt} (o : P.Ok) : refsD P.d = [] := by
  show refsDs P.ps ++ (refsDs (P.tl.map tkD) ++ ([] ++ [])) = []
  rw [o.pl.pure, tk_pure]
  rfl
theorem Pt.Ok.opure {P : Pt} (o : P.Ok) : refsO P.o = [] := wayO_pure o.pl
/-- whether two data are equal -/
def eqB (d e : D) : Bool := (eqData [] d e).getD false
theorem eqB_ok {k : Nat} {d e : D} (h : Nice k d) (h2 : Nice k e) (hk : k < 16) (L : List O) : eqData L d e = some (eqB d e) := by
  obtain ⟨p, hp⟩ := h
  obtain ⟨q, hq⟩ := h2
  unfold eqB
  rw [eqData_nice hp hq hk hk L, eqData_nice hp hq hk hk []]
  rfl
theorem eqB_rfl {k : Nat} {d : D} (h : Nice k d) (hk : k < 16) : eqB d d = true := by
  obtain ⟨p, hp⟩ := h
  unfold eqB
  rw [eqData_nice hp hp hk hk []]
  exact eqv_refl p hp.lay
theorem eqB_symm {k : Nat} {d e : D} (h : Nice k d) (h2 : Nice k e) (hk : k < 16) : eqB d e = eqB e d := by
  obtain ⟨p, hp⟩ := h
  obtain ⟨q, hq⟩ := h2
  unfold eqB
  rw [eqData_nice hp hq hk hk [], eqData_nice hq hp hk hk []]
  exact eqv_symm p q
theorem oEq_nice {k : Nat} {d e : D} (h : Nice k d) (h2 : Nice k e) (hk : k < 16) (L : List O) : oEq d e L = some (.bl (eqB d e), L) := by
  unfold oEq
  rw [eqB_ok h h2 hk L]
  rfl
theorem oNe_nice {k : Nat} {d e : D} (h : Nice k d) (h2 : Nice k e) (hk : k < 16) (L : List O) : oNe d e L = some (.bl (!eqB d e), L) := by
  unfold oNe
  rw [eqB_ok h h2 hk L]
  rfl
/-! own == -/
theorem equ2 {P Q : Pt} (p : P.Ok) (q : Q.Ok) : F_Wayu_equ [.ref 0, .ref 1] [P.o, Q.o] = .ok (.bl (eqB P.d Q.d)) [P.o, Q.o] := by
  have e := oEq_nice p.n q.n (by decide) [P.o, Q.o]
  unfold Pt.d at e
  have o1 : [P.o, Q.o][1]? = some (.ins 2 [("places", .tup Q.ps), ("locks", .tup (Q.tl.map tkD)), ("walked", .int Q.h)]) := rfl
  have o0 : [P.o, Q.o][0]? = some (.ins 2 [("places", .tup P.ps), ("locks", .tup (P.tl.map tkD)), ("walked", .int P.h)]) := rfl
  generalize [P.o, Q.o] = L at e o1 o0 ⊢
  simp [F_Wayu_equ, runF, m_Wayu_equ, mSeq, mIf, mNotB, mTru, mIsi, mVar, Rs.bind, Rs.bindS, tagD, o1, isiC, truth, mNext, mRet, mOp2, mTup, mCons, mNil, mFld, o0, fld_places, fld_locks, fld_walked, most, ofO, e, Pt.d]
theorem equ1 {P : Pt} (p : P.Ok) : F_Wayu_equ [.ref 0, .ref 0] [P.o] = .ok (.bl (eqB P.d P.d)) [P.o] := by
  have e := oEq_nice p.n p.n (by decide) [P.o]
  unfold Pt.d at e
  have o0 : [P.o][0]? = some (.ins 2 [("places", .tup P.ps), ("locks", .tup (P.tl.map tkD)), ("walked", .int P.h)]) := rfl
  generalize [P.o] = L at e o0 ⊢
  simp [F_Wayu_equ, runF, m_Wayu_equ, mSeq, mIf, mNotB, mTru, mIsi, mVar, Rs.bind, Rs.bindS, tagD, o0, isiC, truth, mNext, mRet, mOp2, mTup, mCons, mNil, mFld, fld_places, fld_locks, fld_walked, most, ofO, e, Pt.d]
theorem Gequ {P Q : Pt} (p : P.Ok) (q : Q.Ok) {L : List O} {n m : Nat} (hn : L[n]? = some P.o) (hm : L[m]? = some Q.o) : G_Wayu_equ [.ref n, .ref m] L = .ok (.bl (eqB P.d Q.d)) L := by
  by_cases e : n = m
  · subst e
    rw [hn] at hm
    have hm' : Q.o = P.o := (Option.some.inj hm).symm
    have e1 := equ1 p
    have hd : eqB P.d P.d = eqB P.d Q.d := by
      have e2 := equ2 p q
      have e3 := equ2 p p
      rw [hm'] at e2
      have e4 := e3.symm.trans e2
      simpa using e4
    rw [hd] at e1
    have := lrun_same (F := F_Wayu_equ) (rest := []) (X := []) (d := .bl (eqB P.d Q.d)) rfl hn p.opure e1 p.opure rfl
    rw [show G_Wayu_equ = lrun F_Wayu_equ from rfl, this, set_same hn]
  · have := lrun_two (F := F_Wayu_equ) (rest := []) (X := []) (d := .bl (eqB P.d Q.d)) rfl hn p.opure hm q.opure e (equ2 p q) p.opure q.opure rfl
    rw [show G_Wayu_equ = lrun F_Wayu_equ from rfl, this, set_same hn, set_same hm]
theorem isCls_o {P : Pt} {L : List O} {n : Nat} (hn : L[n]? = some P.o) : isCls 2 L (.ref n) = true := by
  simp [isCls, hn, Pt.o, wayO]
theorem tag_o {P : Pt} {L : List O} {n : Nat} (hn : L[n]? = some P.o) : tagD L (.ref n) = some (.ins 2) := by
  simp [tagD, hn, Pt.o, wayO]
theorem eqI_o {P Q : Pt} (p : P.Ok) (q : Q.Ok) {L : List O} {n m : Nat} (hn : L[n]? = some P.o) (hm : L[m]? = some Q.o) : eqI 2 G_Wayu_equ (.ref n) (.ref m) L = some (eqB P.d Q.d, L) := by
  unfold eqI
  rw [tag_o hm]
  simp [tagOk, Gequ p q hn hm, outB]
theorem oEqI_o {P Q : Pt} (p : P.Ok) (q : Q.Ok) {L : List O} {n m : Nat} (hn : L[n]? = some P.o) (hm : L[m]? = some Q.o) : oEqI 2 G_Wayu_equ (.ref n) (.ref m) L = some (.bl (eqB P.d Q.d), L) := by
  unfold oEqI
  rw [isCls_o hn, if_pos rfl, eqI_o p q hn hm]
  rfl
theorem oNeI_o {P Q : Pt} (p : P.Ok) (q : Q.Ok) {L : List O} {n m : Nat} (hn : L[n]? = some P.o) (hm : L[m]? = some Q.o) : oNeI 2 G_Wayu_equ (.ref n) (.ref m) L = some (.bl (!eqB P.d Q.d), L) := by
  unfold oNeI
  rw [isCls_o hn, if_pos rfl, eqI_o p q hn hm]
  rfl
/-- a way is not equal to other things -/
theorem oEqI_t {P : Pt} (p : P.Ok) {L : List O} {n : Nat} (hn : L[n]? = some P.o) {ds : List D} (hp : refsD (.tup ds) = []) : oEqI 2 G_Wayu_equ (.ref n) (.tup ds) L = some (.bl false, L) := by
  have e : F_Wayu_equ [.ref 0, .tup ds] [P.o] = .ok (.bl false) [P.o] := by
    simp [F_Wayu_equ, runF, m_Wayu_equ, mSeq, mIf, mNotB, mTru, mIsi, mVar, Rs.bind, Rs.bindS, tagD, isiC, truth, mNext, mRet, mC]
  have g := lrun_bag (F := F_Wayu_equ) (rest := [.tup ds]) (X := []) (by show refsD (.tup ds) ++ [] = []; rw [hp]; rfl) hn p.opure e p.opure rfl
  rw [set_same hn] at g
  have g' : G_Wayu_equ [.ref n, .tup ds] L = .ok (.bl false) L := g
  unfold oEqI eqI
  rw [isCls_o hn, if_pos rfl]
  simp [tagD, tagOk, g', outB]
theorem oEqI_i {P : Pt} (p : P.Ok) {L : List O} {n : Nat} (hn : L[n]? = some P.o) (i : Int) : oEqI 2 G_Wayu_equ (.ref n) (.int i) L = some (.bl false, L) := by
  have e : F_Wayu_equ [.ref 0, .int i] [P.o] = .ok (.bl false) [P.o] := by
    simp [F_Wayu_equ, runF, m_Wayu_equ, mSeq, mIf, mNotB, mTru, mIsi, mVar, Rs.bind, Rs.bindS, tagD, isiC, truth, mNext, mRet, mC]
  have g := lrun_bag (F := F_Wayu_equ) (rest := [.int i]) (X := []) rfl hn p.opure e p.opure rfl
  rw [set_same hn] at g
  have g' : G_Wayu_equ [.ref n, .int i] L = .ok (.bl false) L := g
  unfold oEqI eqI
  rw [isCls_o hn, if_pos rfl]
  simp [tagD, tagOk, g', outB]
def b1 : MS := (mSet 3 (mCall Gulaw_bag (mCons (mVar 0) (mCons (mVar 2) mNil))))
def b2 : MS := (mAsg (mCall Gulaw_parts (mCons (mVar 3) mNil)) (gTupM 3 (gsCons (gNm 4) (gsCons (gNm 5) (gsCons (gNm 6) gsNil)))))
def b3 : MS := (mSet 7 (mMakeK 2 G_Wayu_initu gd_Way_K2_hops (mCons (mVar 4) (mCons (mVar 5) mNil)) (mCons (mVar 6) mNil)))
def b4 : MS := (mIf (mOrB (mTst (mOp2 (oNeI 2 G_Wayu_equ) (mProp 2 G_Way_points (mVar 7)) (mVar 4))) (mOrB (mTst (mOp2 (oNeI 2 G_Wayu_equ) (mProp 2 G_Way_takes (mVar 7)) (mVar 5))) (mOrB (mTst (mOp2 (oNeI 2 G_Wayu_equ) (mProp 2 G_Way_hops (mVar 7)) (mVar 6))) (mTst (mOp2 (oNeI 2 G_Wayu_equ) (mFn (cLenI 2 G_Wayu_lenu) (mCons (mVar 7) mNil)) (mFn (cLenI 2 G_Wayu_lenu) (mCons (mVar 5) mNil))))))) (mRet (mC (.bl false))) mNext)
def b5 : MS := (mIf (mTst (mOp2 (oNeI 2 G_Wayu_equ) (mFn cRepr (mCons (mLst (mCons (mProp 2 G_Way_points (mVar 7)) (mCons (mProp 2 G_Way_takes (mVar 7)) (mCons (mProp 2 G_Way_hops (mVar 7)) mNil)))) mNil)) (mFn cRepr (mCons (mLst (mCons (mVar 4) (mCons (mVar 5) (mCons (mVar 6) mNil)))) mNil)))) (mRet (mC (.bl false))) mNext)
def b6 : MS := (mSet 8 (mCall Gulaw_bent (mCons (mVar 3) (mCons (mVar 4) (mCons (mVar 5) (mCons (mVar 6) mNil))))))
def b7 : MS := (mPar 9 10 (mCons (mMakeK 2 G_Wayu_initu gd_Way_K2_hops (mCons (mOp2 oIdx (mVar 8) (mC (.int 0))) (mCons (mOp2 oIdx (mVar 8) (mC (.int 1))) mNil)) (mCons (mOp2 oIdx (mVar 8) (mC (.int 2))) mNil)) (mCons (mOp2 (oEqI 2 G_Wayu_equ) (mVar 8) (mTup (mCons (mVar 4) (mCons (mVar 5) (mCons (mVar 6) mNil))))) mNil)))
def b8 : MS := (mIf (mTst (mOp2 (oNeI 2 G_Wayu_equ) (mLst (mCons (mOp2 (oEqI 2 G_Wayu_equ) (mVar 7) (mVar 9)) (mCons (mOp2 (oEqI 2 G_Wayu_equ) (mVar 9) (mVar 7)) (mCons (mNotV (mOp2 (oNeI 2 G_Wayu_equ) (mVar 7) (mVar 9))) mNil)))) (mOp2 oMul (mLst (mCons (mVar 10) mNil)) (mC (.int 3))))) (mRet (mC (.bl false))) mNext)
def b9 : MS := (mIf (mOrB (mTst (mOp2 (oEqI 2 G_Wayu_equ) (mVar 7) (mTup (mCons (mVar 4) (mCons (mVar 5) (mCons (mVar 6) mNil)))))) (mOrB (mTst (mOp2 (oEqI 2 G_Wayu_equ) (mVar 7) (mVar 5))) (mTst (mOp2 (oEqI 2 G_Wayu_equ) (mVar 7) (mFn (cLenI 2 G_Wayu_lenu) (mCons (mVar 5) mNil)))))) (mRet (mC (.bl false))) mNext)
def b10 : MS := (mIf (mNotB (mTst (mOp2 (oEqI 2 G_Wayu_equ) (mVar 7) (mMakeK 2 G_Wayu_initu gd_Way_K2_hops (mCons (mVar 4) (mCons (mVar 5) mNil)) (mCons (mVar 6) mNil))))) (mRet (mC (.bl false))) mNext)
def b11 : MS := (mDrop (mBmL oAppend (mVar 1) (mCons (mTup (mCons (mVar 7) (mCons (mTup (mCons (mVar 4) (mCons (mVar 5) (mCons (mVar 6) mNil)))) mNil))) mNil)))
def cIn : MS := (mIf (mTst (mOp2 (oNeI 2 G_Wayu_equ) (mOp2 (oEqI 2 G_Wayu_equ) (mVar 11) (mVar 9)) (mOp2 (oEqI 2 G_Wayu_equ) (mVar 8) (mVar 12)))) (mRet (mC (.bl false))) mNext)
def bBody : MS := mSeq b1 ( mSeq b2 ( mSeq b3 ( mSeq b4 ( mSeq b5 ( mSeq b6 ( mSeq b7 ( mSeq b8 ( mSeq b9 ( mSeq b10 b11)))))))))
theorem ins_o {P : Pt} {L : List O} {n : Nat} (hn : L[n]? = some P.o) : isIns 2 Str.empty L (.ref n) = true := by
  have k1 : (Str.empty == ("places" : Str)) = false := by decide +kernel
  have k2 : (Str.empty == ("locks" : Str)) = false := by decide +kernel
  have k3 : (Str.empty == ("walked" : Str)) = false := by decide +kernel
  simp [isIns, hn, Pt.o, wayO, List.lookup_cons, k1, k2, k3]
theorem ap {L X : List O} {n : Nat} {o : O} (h : L[n]? = some o) : (L ++ X)[n]? = some o := by
  rw [List.getElem?_append_left (List.getElem?_eq_some_iff.mp h).1]; exact h
theorem lt_of {L : List O} {n : Nat} {o : O} (h : L[n]? = some o) : n < L.length := (List.getElem?_eq_some_iff.mp h).1
section
variable {e0 e1 e2 e3 e4 e5 e6 e7 e8 e9 e10 e11 e12 e13 : Option D} {L : List O}
theorem s1 (ns : List Int) (i : Nat) (hi : i ≤ 100) : ∃ o, b1 [some (.rol (ns.map .int)), e1, some (.int i), e3, e4, e5, e6, e7, e8, e9, e10, e11, e12, e13] L = .nx [some (.rol (ns.map .int)), e1, some (.int i), some (.ref L.length), e4, e5, e6, e7, e8, e9, e10, e11, e12, e13] (L ++ [o]) ∧ BagI 900000000000 o := by
  obtain ⟨o, e, b⟩ := Gbag ns i hi L
  refine ⟨o, ?_, b⟩
  generalize ns.map D.int = T at e ⊢
  simp [b1, mSet, mCall, mCons, mNil, mVar, Rs.bind, Rs.bindS, e]
theorem s2 {k : Int} {n : Nat} {o : O} (hL : L[n]? = some o) (h : BagI (k + 31) o) (hk : 0 ≤ k) : ∃ (P : Pt) (o' : O), b2 [e0, e1, e2, some (.ref n), e4, e5, e6, e7, e8, e9, e10, e11, e12, e13] L = .nx [e0, e1, e2, some (.ref n), some (.tup P.ps), some (.tup (P.tl.map tkD)), some (.int P.h), e7, e8, e9, e10, e11, e12, e13] (L.set n o') ∧ P.Ok ∧ BagI k o' := by
  obtain ⟨ps, tl, hp, o', e, h1, h2, h3⟩ := Gparts hL h hk
  refine ⟨⟨ps, tl, hp⟩, o', ?_, ⟨h1, h2.v⟩, h3⟩
  simp [b2, mAsg, mCall, mCons, mNil, mVar, Rs.bind, Rs.bindS, e, asg3]
theorem made {P : Pt} (p : P.Ok) (L : List O) : mMadeG 2 G_Wayu_initu (fun x => gd_Way_K2_hops [x, .tup P.ps, .tup (P.tl.map tkD)] [.int P.h]) L = .ok (.ref L.length) (L ++ [P.o]) := by
  have e := init_ok p.pl p.v (L := L ++ [.ins 2 []]) (n := L.length) (by simp)
  have g : gd_Way_K2_hops [.ref L.length, .tup P.ps, .tup (P.tl.map tkD)] [.int P.h] = [.ref L.length, .tup P.ps, .tup (P.tl.map tkD), .int P.h] := rfl
  unfold mMadeG
  simp only [g, e, Rs.bind]
  simp [Pt.o]
theorem s3 {P : Pt} (p : P.Ok) : b3 [e0, e1, e2, e3, some (.tup P.ps), some (.tup (P.tl.map tkD)), some (.int P.h), e7, e8, e9, e10, e11, e12, e13] L = .nx [e0, e1, e2, e3, some (.tup P.ps), some (.tup (P.tl.map tkD)), some (.int P.h), some (.ref L.length), e8, e9, e10, e11, e12, e13] (L ++ [P.o]) := by
  have m := made p L
  generalize P.tl.map tkD = T at m ⊢
  simp [b3, mSet, mMakeK, mCons, mNil, mVar, Rs.bind, Rs.bindS, m]
theorem neT {x y : D} {L : List O} (hx : isCls 2 L x = false) : oNeI 2 G_Wayu_equ x y L = oNe x y L := by
  unfold oNeI
  rw [hx]
  rfl
theorem eqT {x y : D} {L : List O} (hx : isCls 2 L x = false) : oEqI 2 G_Wayu_equ x y L = oEq x y L := by
  unfold oEqI
  rw [hx]
  rfl
theorem ne_self {k : Nat} {d : D} (h : Nice k d) (hk : k < 16) (hx : ∀ L, isCls 2 L d = false) (L : List O) : oNeI 2 G_Wayu_equ d d L = some (.bl false, L) := by
  rw [neT (hx L), oNe_nice h h hk, eqB_rfl h hk]
  rfl
theorem lenW {P : Pt} (p : P.Ok) {n : Nat} (hn : L[n]? = some P.o) : cLenI 2 G_Wayu_lenu [.ref n] L = some (.int P.tl.length, L) := by
  have : ((P.tl.length : Nat) : Int) ≤ 1000000 := by have := p.v.l5; omega
  unfold cLenI
  simp [isCls_o hn, len_get p.pl hn, outI, this]
theorem s4 {P : Pt} (p : P.Ok) {n : Nat} (hn : L[n]? = some P.o) : b4 [e0, e1, e2, e3, some (.tup P.ps), some (.tup (P.tl.map tkD)), some (.int P.h), some (.ref n), e8, e9, e10, e11, e12, e13] L = .nx [e0, e1, e2, e3, some (.tup P.ps), some (.tup (P.tl.map tkD)), some (.int P.h), some (.ref n), e8, e9, e10, e11, e12, e13] L := by
  have a1 := points_get p.pl hn
  have a2 := takes_get p.pl hn
  have a3 := hops_get p.pl hn
  have a4 := lenW p hn
  have c1 := ne_self (nice_places p.pl) (by decide) (fun _ => rfl) L
  have c2 := ne_self (nice_takes p.v) (by decide) (fun _ => rfl) L
  have c3 := ne_self ⟨_, nice_int P.h⟩ (by decide) (fun _ => rfl) L
  have c4 := ne_self ⟨_, nice_int (P.tl.length : Int)⟩ (by decide) (fun _ => rfl) L
  have i := ins_o hn
  have a5 : cLenI 2 G_Wayu_lenu [.tup (P.tl.map tkD)] L = some (.int P.tl.length, L) := by simp [cLenI, isCls, cLen]
  generalize P.tl.map tkD = T at a2 c2 a5 ⊢
  simp [b4, mIf, mOrB, mTst, mOp2, mProp, mVar, Rs.bind, Rs.bindS, i, a1, a2, a3, a4, a5, Rs.nox, ofO, c1, c2, c3, c4, mFn, mCons, mNil, mNext]
theorem repr_list {ds : List D} {n w : Nat} (hn : L[n]? = some (.lst ds)) (h : ∀ d ∈ ds, NiceS 4 w d) (hl : ds.length * (w + 2) + 3 ≤ 1000000) : ∃ s : Str, (∀ (L : List O) n, L[n]? = some (.lst ds) → cRepr [.ref n] L = some (.str s, L)) ∧ Nice 0 (.str s) := by
  obtain ⟨ps, h1, h2, h3, h4, h5⟩ := niceS_all h
  obtain ⟨a, b, c, d⟩ := show_all h4
  have hd : (PyData.list ps).hasDict = false := PyData.hasDict_of_canLay _ (by simpa [PyData.canLay0] using h2)
  have hs : (PyData.list ps).shown.length ≤ most := by
    have := listText_len_le (PyData.shownAll ps)
    rw [show (PyData.list ps).shown = listText (PyData.shownAll ps) from rfl]
    rw [Nat.mul_add, Nat.mul_comm] at hl
    unfold most
    rw [← h5] at hl
    omega
  refine ⟨(PyData.list ps).shown, fun L n hn => ?_, _, nice_str (low_list b)⟩
  have e : toPy L pyDeep (.ref n) = some (.list ps) := by
    show (match L[n]? with | some (.lst ds) => (optAll (toPy L 15) ds).map PyData.list | _ => none) = _
    rw [hn]
    simp [h1 L 15 (by decide)]
  unfold cRepr
  simp only [e]
  rw [if_pos ⟨rfl, by simpa [PyData.showable] using a, hd, by simp only [PyData.depth]; omega, hs⟩]
theorem s5 {P : Pt} (p : P.Ok) {n : Nat} (hn : L[n]? = some P.o) : ∃ a b : O, b5 [e0, e1, e2, e3, some (.tup P.ps), some (.tup (P.tl.map tkD)), some (.int P.h), some (.ref n), e8, e9, e10, e11, e12, e13] L = .nx [e0, e1, e2, e3, some (.tup P.ps), some (.tup (P.tl.map tkD)), some (.int P.h), some (.ref n), e8, e9, e10, e11, e12, e13] (L ++ [a, b]) := by
  refine ⟨.lst [.tup P.ps, .tup (P.tl.map tkD), .int P.h], .lst [.tup P.ps, .tup (P.tl.map tkD), .int P.h], ?_⟩
  have a1 := points_get p.pl hn
  have a2 := takes_get p.pl hn
  have a3 := hops_get p.pl hn
  have i := ins_o hn
  obtain ⟨t, r, nt⟩ := repr_list (L := [.lst [.tup P.ps, .tup (P.tl.map tkD), .int P.h]]) (n := 0) (ds := [.tup P.ps, .tup (P.tl.map tkD), .int P.h]) (w := 400) rfl (fun d hd => by
    simp at hd
    rcases hd with rfl | rfl | rfl
    · exact (niceS_places p.pl).up (by decide) (by decide)
    · exact (niceS_takes p.v (by have := p.pl.1; omega)).up (by decide) (by decide)
    · exact (niceS_int p.v.h0 (by have := p.v.h1; have := p.v.l5; omega)).up (by decide) (by decide)) (by simp)
  have r1 := r (L ++ [.lst [.tup P.ps, .tup (P.tl.map tkD), .int P.h]]) L.length (by simp)
  have r2 := r (L ++ [.lst [.tup P.ps, .tup (P.tl.map tkD), .int P.h], .lst [.tup P.ps, .tup (P.tl.map tkD), .int P.h]]) (L.length + 1) (by simp)
  have c := ne_self nt (by decide) (fun _ => rfl) (L ++ [.lst [.tup P.ps, .tup (P.tl.map tkD), .int P.h], .lst [.tup P.ps, .tup (P.tl.map tkD), .int P.h]])
  generalize P.tl.map tkD = T at a2 r1 r2 c ⊢
  simp [b5, mIf, mTst, mOp2, mFn, mProp, mVar, Rs.bind, Rs.bindS, i, a1, a2, a3, Rs.nox, ofO, mCons, mNil, mNext, mLst, most, r1, r2, c]
theorem s6 {k : Int} {P : Pt} (p : P.Ok) {n : Nat} {o : O} (hL : L[n]? = some o) (hb : BagI (k + 1) o) (hk : 0 ≤ k) : ∃ (Q : Pt) (o' : O), b6 [e0, e1, e2, some (.ref n), some (.tup P.ps), some (.tup (P.tl.map tkD)), some (.int P.h), e7, e8, e9, e10, e11, e12, e13] L = .nx [e0, e1, e2, some (.ref n), some (.tup P.ps), some (.tup (P.tl.map tkD)), some (.int P.h), e7, some Q.d, e9, e10, e11, e12, e13] (L.set n o') ∧ Q.Ok := by
  obtain ⟨ps', tl', h', o', e, h1, h2, h3⟩ := Gbent hL hb hk p.pl p.v
  refine ⟨⟨ps', tl', h'⟩, o', ?_, ⟨h1, h2⟩⟩
  generalize P.tl.map tkD = T at e ⊢
  simp [b6, mSet, mCall, mCons, mNil, mVar, Rs.bind, Rs.bindS, e, Pt.d]
theorem s7 {P Q : Pt} (p : P.Ok) (q : Q.Ok) : b7 [e0, e1, e2, e3, some (.tup P.ps), some (.tup (P.tl.map tkD)), some (.int P.h), e7, some Q.d, e9, e10, e11, e12, e13] L = .nx [e0, e1, e2, e3, some (.tup P.ps), some (.tup (P.tl.map tkD)), some (.int P.h), e7, some Q.d, some (.ref L.length), some (.bl (eqB Q.d P.d)), e11, e12, e13] (L ++ [Q.o]) := by
  have m := made q L
  have e : oEqI 2 G_Wayu_equ (.tup [.tup Q.ps, .tup (Q.tl.map tkD), .int Q.h]) (.tup [.tup P.ps, .tup (P.tl.map tkD), .int P.h]) (L ++ [Q.o]) = some (.bl (eqB Q.d P.d), L ++ [Q.o]) := by
    rw [eqT rfl]
    exact oEq_nice q.n p.n (by decide) _
  generalize eqB Q.d P.d = B at e ⊢
  unfold Pt.d
  generalize P.tl.map tkD = T at e ⊢
  generalize Q.tl.map tkD = S at e m ⊢
  have a0 : ∀ x y z : D, atI [x, y, z] 0 = some x := fun _ _ _ => rfl
  have a1 : ∀ x y z : D, atI [x, y, z] 1 = some y := fun _ _ _ => rfl
  have a2 : ∀ x y z : D, atI [x, y, z] 2 = some z := fun _ _ _ => rfl
  simp [b7, mPar, mMakeK, mCons, mNil, mVar, mC, mOp2, oIdx, a0, a1, a2, ofO, Rs.bind, Rs.bindS, m, mTup, most, e]
theorem s8 {P Q : Pt} (p : P.Ok) (q : Q.Ok) {n m : Nat} (hn : L[n]? = some P.o) (hm : L[m]? = some Q.o) : ∃ a b c : O, b8 [e0, e1, e2, e3, e4, e5, e6, some (.ref n), e8, some (.ref m), some (.bl (eqB Q.d P.d)), e11, e12, e13] L = .nx [e0, e1, e2, e3, e4, e5, e6, some (.ref n), e8, some (.ref m), some (.bl (eqB Q.d P.d)), e11, e12, e13] (L ++ [a, b, c]) := by
  have x1 := oEqI_o p q hn hm
  have x2 := oEqI_o q p hm hn
  have x3 := oNeI_o p q hn hm
  rw [eqB_symm p.n q.n (by decide)] at x1 x3
  generalize eqB Q.d P.d = B at x1 x2 x3 ⊢
  refine ⟨.lst [.bl B, .bl B, .bl B], .lst [.bl B], .lst [.bl B, .bl B, .bl B], ?_⟩
  have g0 : (L ++ [O.lst [.bl B, .bl B, .bl B], .lst [.bl B], .lst [.bl B, .bl B, .bl B]])[L.length]? = some (.lst [.bl B, .bl B, .bl B]) := by simp
  have g2 : (L ++ [O.lst [.bl B, .bl B, .bl B], .lst [.bl B], .lst [.bl B, .bl B, .bl B]])[L.length + 2]? = some (.lst [.bl B, .bl B, .bl B]) := by simp
  have ne : oNeI 2 G_Wayu_equ (.ref L.length) (.ref (L.length + 2)) (L ++ [O.lst [.bl B, .bl B, .bl B], .lst [.bl B], .lst [.bl B, .bl B, .bl B]]) = some (.bl false, L ++ [O.lst [.bl B, .bl B, .bl B], .lst [.bl B], .lst [.bl B, .bl B, .bl B]]) := by
    rw [neT (by simp [isCls])]
    unfold oNe eqData
    have t : ∀ k, (L ++ [O.lst [.bl B, .bl B, .bl B], .lst [.bl B], .lst [.bl B, .bl B, .bl B]])[k]? = some (.lst [.bl B, .bl B, .bl B]) → toPy (L ++ [O.lst [.bl B, .bl B, .bl B], .lst [.bl B], .lst [.bl B, .bl B, .bl B]]) pyDeep (.ref k) = some (.list [.bool B, .bool B, .bool B]) := by
      intro k hk
      show (match (L ++ [O.lst [.bl B, .bl B, .bl B], .lst [.bl B], .lst [.bl B, .bl B, .bl B]])[k]? with | some (.lst ds) => (optAll (toPy _ 15) ds).map PyData.list | _ => none) = _
      rw [hk]
      rfl
    rw [t _ g0, t _ g2]
    cases B <;> rfl
  have hm3 : ((List.replicate 3 [D.bl B]).flatten) = [.bl B, .bl B, .bl B] := rfl
  simp [b8, mIf, mTst, mOp2, mLst, mCons, mNil, mVar, mC, mNotV, Rs.bind, Rs.bindS, x1, x2, x3, ofO, truth, most, oMul, sizeLine, ne, mNext]
theorem s9 {P : Pt} (p : P.Ok) {n : Nat} (hn : L[n]? = some P.o) : b9 [e0, e1, e2, e3, some (.tup P.ps), some (.tup (P.tl.map tkD)), some (.int P.h), some (.ref n), e8, e9, e10, e11, e12, e13] L = .nx [e0, e1, e2, e3, some (.tup P.ps), some (.tup (P.tl.map tkD)), some (.int P.h), some (.ref n), e8, e9, e10, e11, e12, e13] L := by
  have x1 := oEqI_t p hn (ds := [.tup P.ps, .tup (P.tl.map tkD), .int P.h]) p.pure
  have x2 := oEqI_t p hn (ds := P.tl.map tkD) (tk_pure _)
  have x3 := oEqI_i p hn (P.tl.length : Int)
  have a5 : cLenI 2 G_Wayu_lenu [.tup (P.tl.map tkD)] L = some (.int P.tl.length, L) := by simp [cLenI, isCls, cLen]
  generalize P.tl.map tkD = T at x1 x2 a5 ⊢
  simp [b9, mIf, mOrB, mTst, mOp2, mTup, mFn, mCons, mNil, mVar, Rs.bind, Rs.bindS, x1, x2, x3, a5, ofO, most, mNext]
theorem s10 {P : Pt} (p : P.Ok) {n : Nat} (hn : L[n]? = some P.o) : b10 [e0, e1, e2, e3, some (.tup P.ps), some (.tup (P.tl.map tkD)), some (.int P.h), some (.ref n), e8, e9, e10, e11, e12, e13] L = .nx [e0, e1, e2, e3, some (.tup P.ps), some (.tup (P.tl.map tkD)), some (.int P.h), some (.ref n), e8, e9, e10, e11, e12, e13] (L ++ [P.o]) := by
  have m := made p L
  have x := oEqI_o p p (L := L ++ [P.o]) (n := n) (m := L.length) (ap hn) (by simp)
  rw [eqB_rfl p.n (by decide)] at x
  generalize P.tl.map tkD = T at m ⊢
  simp [b10, mIf, mNotB, mTst, mOp2, mMakeK, mCons, mNil, mVar, Rs.bind, Rs.bindS, m, ofO, x, mNext]
theorem s11 {P : Pt} {n : Nat} {es : List D} (h0 : L[0]? = some (.lst es)) (hl : es.length < 1000) : b11 [e0, some (.ref 0), e2, e3, some (.tup P.ps), some (.tup (P.tl.map tkD)), some (.int P.h), some (.ref n), e8, e9, e10, e11, e12, e13] L = .nx [e0, some (.ref 0), e2, e3, some (.tup P.ps), some (.tup (P.tl.map tkD)), some (.int P.h), some (.ref n), e8, e9, e10, e11, e12, e13] (L.set 0 (.lst (es ++ [.tup [.ref n, P.d]]))) := by
  have : es.length < most := by unfold most; omega
  unfold Pt.d
  generalize P.tl.map tkD = T
  simp [b11, mDrop, mBmL, mVar, isLst, h0, mCons, mNil, mTup, Rs.bind, Rs.bindS, ofO, oAppend, this, show (3 : Nat) ≤ most by decide, show (2 : Nat) ≤ most by decide]
end
theorem seq_nx {a b : MS} {ε ε1 : En} {L L1 : List O} (h : a ε L = .nx ε1 L1) : mSeq a b ε L = b ε1 L1 := by
  unfold mSeq
  rw [h]
def ent (e : Nat × Pt) : D := .tup [.ref e.1, e.2.d]
structure SeenOk (L : List O) (es : List (Nat × Pt)) : Prop where
  li : L[0]? = some (.lst (es.map ent))
  ok : ∀ e ∈ es, e.1 ≠ 0 ∧ L[e.1]? = some e.2.o ∧ e.2.Ok
theorem turn {e3 e4 e5 e6 e7 e8 e9 e10 e11 e12 e13 : Option D} {L : List O} {es : List (Nat × Pt)} (ns : List Int) (i : Nat) (hi : i ≤ 100) (S : SeenOk L es) (hl : es.length < 1000) :
    ∃ (y3 y4 y5 y6 y7 y8 y9 y10 : Option D) (L' : List O) (e : Nat × Pt), bBody [some (.rol (ns.map .int)), some (.ref 0), some (.int i), e3, e4, e5, e6, e7, e8, e9, e10, e11, e12, e13] L = .nx [some (.rol (ns.map .int)), some (.ref 0), some (.int i), y3, y4, y5, y6, y7, y8, y9, y10, e11, e12, e13] L' ∧ SeenOk L' (es ++ [e]) := by
  have hL0 := lt_of S.li
  obtain ⟨o, t1, b1'⟩ := s1 (e1 := some (.ref 0)) (e3 := e3) (e4 := e4) (e5 := e5) (e6 := e6) (e7 := e7) (e8 := e8) (e9 := e9) (e10 := e10) (e11 := e11) (e12 := e12) (e13 := e13) (L := L) ns i hi
  obtain ⟨P, o', t2, p, b2'⟩ := s2 (e0 := some (.rol (ns.map .int))) (e1 := some (.ref 0)) (e2 := some (.int i)) (e4 := e4) (e5 := e5) (e6 := e6) (e7 := e7) (e8 := e8) (e9 := e9) (e10 := e10) (e11 := e11) (e12 := e12) (e13 := e13) (L := L ++ [o]) (n := L.length) (o := o) (k := 899999999969) (by simp) b1' (by decide)
  have l2 : ((L ++ [o]).set L.length o').length = L.length + 1 := by simp
  have g2 : ((L ++ [o]).set L.length o')[L.length]? = some o' := List.getElem?_set_self (by simp)
  have k2 : ∀ n, n < L.length → ((L ++ [o]).set L.length o')[n]? = L[n]? := fun n h => by rw [List.getElem?_set_ne (by omega), List.getElem?_append_left h]
  generalize (L ++ [o]).set L.length o' = L2 at t2 l2 g2 k2
  have t3 := s3 (e0 := some (.rol (ns.map .int))) (e1 := some (.ref 0)) (e2 := some (.int i)) (e3 := some (.ref L.length)) (e7 := e7) (e8 := e8) (e9 := e9) (e10 := e10) (e11 := e11) (e12 := e12) (e13 := e13) (L := L2) p
  have g3 : (L2 ++ [P.o])[L2.length]? = some P.o := by simp
  have t4 := s4 (e0 := some (.rol (ns.map .int))) (e1 := some (.ref 0)) (e2 := some (.int i)) (e3 := some (.ref L.length)) (e8 := e8) (e9 := e9) (e10 := e10) (e11 := e11) (e12 := e12) (e13 := e13) p g3
  obtain ⟨a, b, t5⟩ := s5 (e0 := some (.rol (ns.map .int))) (e1 := some (.ref 0)) (e2 := some (.int i)) (e3 := some (.ref L.length)) (e8 := e8) (e9 := e9) (e10 := e10) (e11 := e11) (e12 := e12) (e13 := e13) p g3
  obtain ⟨Q, o2, t6, q⟩ := s6 (e0 := some (.rol (ns.map .int))) (e1 := some (.ref 0)) (e2 := some (.int i)) (e7 := some (.ref L2.length)) (e8 := e8) (e9 := e9) (e10 := e10) (e11 := e11) (e12 := e12) (e13 := e13) (L := L2 ++ [P.o] ++ [a, b]) (k := 899999999968) p (ap (ap g2)) b2' (by decide)
  have g4 : ((L2 ++ [P.o] ++ [a, b]).set L.length o2)[L2.length]? = some P.o := by rw [List.getElem?_set_ne (by omega)]; exact ap g3
  have k4 : ∀ n, n < L.length → ((L2 ++ [P.o] ++ [a, b]).set L.length o2)[n]? = L[n]? := fun n h => by rw [List.getElem?_set_ne (by omega), List.getElem?_append_left (by simp; omega), List.getElem?_append_left (by omega), k2 n h]
  have l4 : ((L2 ++ [P.o] ++ [a, b]).set L.length o2).length = L.length + 4 := by simp [l2]
  generalize (L2 ++ [P.o] ++ [a, b]).set L.length o2 = L4 at t6 g4 k4 l4
  have t7 := s7 (e0 := some (.rol (ns.map .int))) (e1 := some (.ref 0)) (e2 := some (.int i)) (e3 := some (.ref L.length)) (e7 := some (.ref L2.length)) (e9 := e9) (e10 := e10) (e11 := e11) (e12 := e12) (e13 := e13) (L := L4) p q
  have g5 : (L4 ++ [Q.o])[L4.length]? = some Q.o := by simp
  obtain ⟨c, d, e, t8⟩ := s8 (e0 := some (.rol (ns.map .int))) (e1 := some (.ref 0)) (e2 := some (.int i)) (e3 := some (.ref L.length)) (e4 := some (.tup P.ps)) (e5 := some (.tup (P.tl.map tkD))) (e6 := some (.int P.h)) (e8 := some Q.d) (e11 := e11) (e12 := e12) (e13 := e13) p q (ap (X := [Q.o]) g4) g5
  have g6 := ap (X := [c, d, e]) (ap (X := [Q.o]) g4)
  have t9 := s9 (e0 := some (.rol (ns.map .int))) (e1 := some (.ref 0)) (e2 := some (.int i)) (e3 := some (.ref L.length)) (e8 := some Q.d) (e9 := some (.ref L4.length)) (e10 := some (.bl (eqB Q.d P.d))) (e11 := e11) (e12 := e12) (e13 := e13) p g6
  have t10 := s10 (e0 := some (.rol (ns.map .int))) (e1 := some (.ref 0)) (e2 := some (.int i)) (e3 := some (.ref L.length)) (e8 := some Q.d) (e9 := some (.ref L4.length)) (e10 := some (.bl (eqB Q.d P.d))) (e11 := e11) (e12 := e12) (e13 := e13) p g6
  have k6 : ∀ n, n < L.length → (L4 ++ [Q.o] ++ [c, d, e] ++ [P.o])[n]? = L[n]? := fun n h => by rw [List.getElem?_append_left (by simp; omega), List.getElem?_append_left (by simp; omega), List.getElem?_append_left (by omega), k4 n h]
  have g7 := ap (X := [P.o]) g6
  have h0 : (L4 ++ [Q.o] ++ [c, d, e] ++ [P.o])[0]? = some (.lst (es.map ent)) := by rw [k6 0 hL0]; exact S.li
  generalize L4 ++ [Q.o] ++ [c, d, e] ++ [P.o] = L6 at t10 k6 g7 h0
  have t11 := s11 (P := P) (e0 := some (.rol (ns.map .int))) (e2 := some (.int i)) (e3 := some (.ref L.length)) (n := L2.length) (e8 := some Q.d) (e9 := some (.ref L4.length)) (e10 := some (.bl (eqB Q.d P.d))) (e11 := e11) (e12 := e12) (e13 := e13) h0 (by simpa using hl)
  refine ⟨some (.ref L.length), some (.tup P.ps), some (.tup (P.tl.map tkD)), some (.int P.h), some (.ref L2.length), some Q.d, some (.ref L4.length), some (.bl (eqB Q.d P.d)), L6.set 0 (.lst (es.map ent ++ [.tup [.ref L2.length, P.d]])), (L2.length, P), ?_, ?_, ?_⟩
  · unfold bBody
    rw [seq_nx t1, seq_nx t2, seq_nx t3, seq_nx t4, seq_nx t5, seq_nx t6, seq_nx t7, seq_nx t8, seq_nx t9, seq_nx t10]
    exact t11
  · rw [List.getElem?_set_self (lt_of h0)]
    simp [ent]
  · intro x hx
    rcases List.mem_append.mp hx with hx | hx
    · obtain ⟨y1, y2, y3⟩ := S.ok x hx
      refine ⟨y1, ?_, y3⟩
      rw [List.getElem?_set_ne (by omega), k6 _ (lt_of y2)]
      exact y2
    · rw [List.mem_singleton] at hx
      subst hx
      refine ⟨by show L2.length ≠ 0; omega, ?_, p⟩
      rw [List.getElem?_set_ne (by show 0 ≠ L2.length; omega)]
      exact g7
/-- the ways seen, pair by pair -/
theorem pair {e0 e1 e2 e3 e4 e5 e6 e7 e10 e13 : Option D} {L : List O} {P Q : Pt} {n m : Nat} (p : P.Ok) (q : Q.Ok) (hn : L[n]? = some P.o) (hm : L[m]? = some Q.o) :
    cIn [e0, e1, e2, e3, e4, e5, e6, e7, some P.d, some (.ref m), e10, some (.ref n), some Q.d, e13] L = .nx [e0, e1, e2, e3, e4, e5, e6, e7, some P.d, some (.ref m), e10, some (.ref n), some Q.d, e13] L := by
  have x1 := oEqI_o p q hn hm
  have x2 : oEqI 2 G_Wayu_equ P.d Q.d L = some (.bl (eqB P.d Q.d), L) := by
    rw [eqT rfl]
    exact oEq_nice p.n q.n (by decide) _
  have x3 := ne_self ⟨_, nice_bl (eqB P.d Q.d)⟩ (by decide) (fun _ => rfl) L
  simp [cIn, mIf, mTst, mOp2, mVar, Rs.bind, Rs.bindS, ofO, x1, x2, x3, mNext]
def bIn : MS := mFor (mIter (mVar 1)) (gTupM 2 (gsCons (gNm 9) (gsCons (gNm 12) gsNil))) cIn
def bOut : MS := mFor (mIter (mVar 1)) (gTupM 2 (gsCons (gNm 11) (gsCons (gNm 8) gsNil))) bIn
theorem iter_seen {e0 e2 e3 e4 e5 e6 e7 e8 e9 e10 e11 e12 e13 : Option D} {L : List O} {ds : List D} (h : L[0]? = some (.lst ds)) : mIter (mVar 1) [e0, some (.ref 0), e2, e3, e4, e5, e6, e7, e8, e9, e10, e11, e12, e13] L = .ok ⟨ds, some (0, .lst ds)⟩ L := by
  simp [mIter, mVar, Rs.bind, h]
theorem inner {e0 e2 e3 e4 e5 e6 e7 e9 e10 e12 e13 : Option D} {L : List O} {es : List (Nat × Pt)} {P : Pt} {n : Nat} (S : SeenOk L es) (p : P.Ok) (hn : L[n]? = some P.o) :
    ∃ y9 y12, bIn [e0, some (.ref 0), e2, e3, e4, e5, e6, e7, some P.d, e9, e10, some (.ref n), e12, e13] L = .nx [e0, some (.ref 0), e2, e3, e4, e5, e6, e7, some P.d, y9, e10, some (.ref n), y12, e13] L := by
  obtain ⟨ε2, L2, hlp, y9, y12, rfl, rfl⟩ := loop_all (src := ⟨es.map ent, some (0, .lst (es.map ent))⟩) (t := gTupM 2 (gsCons (gNm 9) (gsCons (gNm 12) gsNil))) (body := cIn)
    (fun i ε L' => ∃ y9 y12, ε = [e0, some (.ref 0), e2, e3, e4, e5, e6, e7, some P.d, y9, e10, some (.ref n), y12, e13] ∧ L' = L) (ds := es.map ent) (ε := [e0, some (.ref 0), e2, e3, e4, e5, e6, e7, some P.d, e9, e10, some (.ref n), e12, e13]) (L := L)
    (by rintro i ε L' ⟨_, _, _, rfl⟩; simp [Src.ok, S.li]) ⟨e9, e12, rfl, rfl⟩ (by
      rintro i d ε L' hd ⟨y9, y12, rfl, rfl⟩
      obtain ⟨⟨m, Q⟩, hq, rfl⟩ := List.mem_map.mp (List.mem_of_getElem? hd)
      obtain ⟨_, g1, g2⟩ := S.ok _ hq
      exact ⟨[e0, some (.ref 0), e2, e3, e4, e5, e6, e7, some P.d, some (.ref m), e10, some (.ref n), some Q.d, e13], _, L', rfl, .inl (pair p g2 hn g1), _, _, rfl, rfl⟩)
  refine ⟨y9, y12, ?_⟩
  unfold bIn mFor
  rw [iter_seen S.li]
  exact hlp
theorem outer {e0 e2 e3 e4 e5 e6 e7 e8 e9 e10 e11 e12 e13 : Option D} {L : List O} {es : List (Nat × Pt)} (S : SeenOk L es) :
    ∃ y8 y9 y11 y12, bOut [e0, some (.ref 0), e2, e3, e4, e5, e6, e7, e8, e9, e10, e11, e12, e13] L = .nx [e0, some (.ref 0), e2, e3, e4, e5, e6, e7, y8, y9, e10, y11, y12, e13] L := by
  obtain ⟨ε2, L2, hlp, y8, y9, y11, y12, rfl, rfl⟩ := loop_all (src := ⟨es.map ent, some (0, .lst (es.map ent))⟩) (t := gTupM 2 (gsCons (gNm 11) (gsCons (gNm 8) gsNil))) (body := bIn)
    (fun i ε L' => ∃ y8 y9 y11 y12, ε = [e0, some (.ref 0), e2, e3, e4, e5, e6, e7, y8, y9, e10, y11, y12, e13] ∧ L' = L) (ds := es.map ent) (ε := [e0, some (.ref 0), e2, e3, e4, e5, e6, e7, e8, e9, e10, e11, e12, e13]) (L := L)
    (by rintro i ε L' ⟨_, _, _, _, _, rfl⟩; simp [Src.ok, S.li]) ⟨e8, e9, e11, e12, rfl, rfl⟩ (by
      rintro i d ε L' hd ⟨y8, y9, y11, y12, rfl, rfl⟩
      obtain ⟨⟨m, Q⟩, hq, rfl⟩ := List.mem_map.mp (List.mem_of_getElem? hd)
      obtain ⟨_, g1, g2⟩ := S.ok _ hq
      obtain ⟨z9, z12, h⟩ := inner (e0 := e0) (e2 := e2) (e3 := e3) (e4 := e4) (e5 := e5) (e6 := e6) (e7 := e7) (e9 := y9) (e10 := e10) (e12 := y12) (e13 := e13) S g2 g1
      exact ⟨[e0, some (.ref 0), e2, e3, e4, e5, e6, e7, some Q.d, y9, e10, some (.ref m), y12, e13], _, L', rfl, .inl h, _, _, _, _, rfl, rfl⟩)
  refine ⟨y8, y9, y11, y12, ?_⟩
  unfold bOut mFor
  rw [iter_seen S.li]
  exact hlp
/-! the end -/
def P0 : Pt := ⟨[], [(("take" : Str), 0, ("shared" : Str))], 0⟩
theorem P0_ok : P0.Ok := by
  refine ⟨⟨by decide, fun i p e => by simp [P0] at e⟩, ⟨by decide, by decide, by decide, by decide, fun i t e => ?_⟩⟩
  have : i = 0 := by
    have := (List.getElem?_eq_some_iff.mp e).1
    simp [P0] at this
    exact this
  subst this
  simp [P0] at e
  subst e
  exact ⟨.inl rfl, .inl rfl, by decide, by decide, ⟨by decide +kernel, by simp, .inl (by decide +kernel)⟩⟩
def cS : MS := (mSet 13 (mMakeD 2 G_Wayu_initu [(.int 0)] (mCons (mTup mNil) (mCons (mTup (mCons (mTup (mCons (mC (.str "take")) (mCons (mC (.int 0)) (mCons (mC (.str "shared")) mNil)))) mNil)) mNil))))
def cI : MS := (mIf (mOrB (mTst (mOp2 (oNeI 2 G_Wayu_equ) (mProp 2 G_Way_hops (mVar 13)) (mC (.int 0)))) (mTst (mOp2 (oNeI 2 G_Wayu_equ) (mVar 13) (mMakeK 2 G_Wayu_initu gd_Way_K0_takes_points_hops mNil (mCons (mTup (mCons (mTup (mCons (mC (.str "take")) (mCons (mC (.int 0)) (mCons (mC (.str "shared")) mNil)))) mNil)) (mCons (mTup mNil) (mCons (mC (.int 0)) mNil))))))) (mRet (mC (.bl false))) mNext)
def cR : MS := (mRet (mAndV (mOp2 (oEqI 2 G_Wayu_equ) (mC (.tup [(.str "shared"), (.str "alone"), (.str "rising")])) (mTup (mCons (mC (.str "shared")) (mCons (mC (.str "alone")) (mCons (mC (.str "rising")) mNil))))) (mOp2 (oEqI 2 G_Wayu_equ) (mCon 2 "MODES" (.tup [(.str "shared"), (.str "alone"), (.str "rising")]) (mVar 13)) (mC (.tup [(.str "shared"), (.str "alone"), (.str "rising")])))))
theorem made0 (L : List O) : mMadeG 2 G_Wayu_initu (fun x => [x, .tup [], .tup [.tup [.str "take", .int 0, .str "shared"]], .int 0]) L = .ok (.ref L.length) (L ++ [P0.o]) := by
  have e := init_ok P0_ok.pl P0_ok.v (L := L ++ [.ins 2 []]) (n := L.length) (by simp)
  have e' : G_Wayu_initu [.ref L.length, .tup [], .tup [.tup [.str "take", .int 0, .str "shared"]], .int 0] (L ++ [O.ins 2 []]) = .ok .non ((L ++ [O.ins 2 []]).set L.length P0.o) := e
  unfold mMadeG
  simp only [e', Rs.bind]
  simp
theorem made1 (L : List O) : mMadeG 2 G_Wayu_initu (fun x => gd_Way_K0_takes_points_hops [x] [.tup [.tup [.str "take", .int 0, .str "shared"]], .tup [], .int 0]) L = .ok (.ref L.length) (L ++ [P0.o]) := made0 L
theorem end_ok {e0 e1 e2 e3 e4 e5 e6 e7 e8 e9 e10 e11 e12 e13 : Option D} {L : List O} : ∃ L', mSeq cS (mSeq cI cR) [e0, e1, e2, e3, e4, e5, e6, e7, e8, e9, e10, e11, e12, e13] L = .rt (.bl true) L' := by
  have m0 := made0 L
  have m1 := made1 (L ++ [P0.o])
  have hn : (L ++ [P0.o])[L.length]? = some P0.o := by simp
  have q1 : cS [e0, e1, e2, e3, e4, e5, e6, e7, e8, e9, e10, e11, e12, e13] L = .nx [e0, e1, e2, e3, e4, e5, e6, e7, e8, e9, e10, e11, e12, some (.ref L.length)] (L ++ [P0.o]) := by
    simp [cS, mSet, mMakeD, mTup, mCons, mNil, mC, Rs.bind, Rs.bindS, most, m0]
  have x1 := hops_get P0_ok.pl hn
  have x1' : G_Way_hops [.ref L.length] (L ++ [P0.o]) = .ok (.int 0) (L ++ [P0.o]) := x1
  have x2 := ne_self ⟨_, nice_int 0⟩ (by decide) (fun _ => rfl) (L ++ [P0.o])
  have x3 := ins_o hn
  have x4 := oNeI_o P0_ok P0_ok (L := L ++ [P0.o] ++ [P0.o]) (n := L.length) (m := (L ++ [P0.o]).length) (ap hn) (by simp)
  rw [eqB_rfl P0_ok.n (by decide)] at x4
  have q2 : cI [e0, e1, e2, e3, e4, e5, e6, e7, e8, e9, e10, e11, e12, some (.ref L.length)] (L ++ [P0.o]) = .nx [e0, e1, e2, e3, e4, e5, e6, e7, e8, e9, e10, e11, e12, some (.ref L.length)] (L ++ [P0.o] ++ [P0.o]) := by
    generalize L ++ [P0.o] = M at m1 hn x1' x2 x3 x4 ⊢
    simp [cI, mIf, mOrB, mTst, mOp2, mProp, mVar, mC, Rs.bind, Rs.bindS, x3, x1', Rs.nox, ofO, x2, mMakeK, mNil, mCons, mTup, most, m1, x4, mNext]
  have nm : Nice 1 (.tup [(.str "shared"), (.str "alone"), (.str "rising")]) := nice_tup fun d hd => by
    simp at hd
    rcases hd with rfl | rfl | rfl <;> exact ⟨_, nice_str (by decide +kernel)⟩
  have x5 : ∀ L, oEqI 2 G_Wayu_equ (.tup [(.str "shared"), (.str "alone"), (.str "rising")]) (.tup [(.str "shared"), (.str "alone"), (.str "rising")]) L = some (.bl true, L) := fun L => by
    rw [eqT rfl, oEq_nice nm nm (by decide), eqB_rfl nm (by decide)]
  have x6 : isIns 2 "MODES" (L ++ [P0.o] ++ [P0.o]) (.ref L.length) = true := by
    have k1 : (("MODES" : Str) == ("places" : Str)) = false := by decide +kernel
    have k2 : (("MODES" : Str) == ("locks" : Str)) = false := by decide +kernel
    have k3 : (("MODES" : Str) == ("walked" : Str)) = false := by decide +kernel
    have h2 := ap (X := [P0.o]) hn
    simp [isIns, h2, Pt.o, wayO, List.lookup_cons, k1, k2, k3]
  refine ⟨L ++ [P0.o] ++ [P0.o], ?_⟩
  rw [seq_nx q1, seq_nx q2]
  generalize L ++ [P0.o] ++ [P0.o] = M at x6 ⊢
  simp [cR, mRet, mAndV, mOp2, mC, mTup, mCons, mNil, Rs.bind, Rs.bindS, most, ofO, x5, truth, mCon, mVar, x6]
theorem plain : PlainLaw 63 F_law := by
  intro ns hns
  have hr : ∃ r : Nat, 2 ≤ r ∧ r ≤ 5 ∧ ∀ (e1 e2 e3 e4 e5 e6 e7 e8 e9 e10 e11 e12 e13 : Option D) (L : List O), mRng1 (mFn cMax (mCons (mC (.int 2)) (mCons (mFn cMin (mCons (mC (.int 5)) (mCons (mFn (cLenI 2 G_Wayu_lenu) (mCons (mVar 0) mNil)) mNil))) mNil))) [some (.rol (ns.map .int)), e1, e2, e3, e4, e5, e6, e7, e8, e9, e10, e11, e12, e13] L = .ok ⟨rngD 0 r, none⟩ L := by
    have hl : (ns.map D.int).length = ns.length := by simp
    refine ⟨((if (if (ns.length : Int) < 5 then (ns.length : Int) else 5) > 2 then (if (ns.length : Int) < 5 then (ns.length : Int) else 5) else 2) : Int).toNat, by omega, by omega, fun e1 e2 e3 e4 e5 e6 e7 e8 e9 e10 e11 e12 e13 L => ?_⟩
    have hz : -1000000 ≤ ((if (if (ns.length : Int) < 5 then (ns.length : Int) else 5) > 2 then (if (ns.length : Int) < 5 then (ns.length : Int) else 5) else 2) : Int) ∧ ((if (if (ns.length : Int) < 5 then (ns.length : Int) else 5) > 2 then (if (ns.length : Int) < 5 then (ns.length : Int) else 5) else 2) : Int) ≤ 1000000 := by constructor <;> omega
    generalize ns.map D.int = T at hl ⊢
    simp only [mRng1, mFn, mCons, mNil, mC, mVar, Rs.bind, ofO, List.getElem?_cons_zero, cLenI, isCls, cLen, hl, cMin, cMax, Bool.false_eq_true, if_false]
    rw [if_pos hz]
  obtain ⟨r, r2, r5, hr⟩ := hr
  obtain ⟨ε2, L2, hlp, es, x2, x3, x4, x5, x6, x7, x8, x9, x10, x11, x12, x13, rfl, hl, S⟩ := loop_all (src := ⟨rngD 0 r, none⟩) (t := gNm 2) (body := bBody)
    (fun i ε L => ∃ (es : List (Nat × Pt)) (x2 x3 x4 x5 x6 x7 x8 x9 x10 x11 x12 x13 : Option D), ε = [some (.rol (ns.map .int)), some (.ref 0), x2, x3, x4, x5, x6, x7, x8, x9, x10, x11, x12, x13] ∧ es.length = i ∧ SeenOk L es)
    (ds := rngD 0 r) (ε := [some (.rol (ns.map .int)), some (.ref 0), none, none, none, none, none, none, none, none, none, none, none, none]) (L := [.lst []]) (fun _ _ _ _ => rfl)
    ⟨[], none, none, none, none, none, none, none, none, none, none, none, none, rfl, rfl, ⟨rfl, fun e he => by cases he⟩⟩ (by
      rintro i d ε L hd ⟨es, x2, x3, x4, x5, x6, x7, x8, x9, x10, x11, x12, x13, rfl, hl, S⟩
      obtain ⟨rfl, hi⟩ := rngD_get hd
      obtain ⟨y3, y4, y5, y6, y7, y8, y9, y10, L', e, t, S'⟩ := turn (e3 := x3) (e4 := x4) (e5 := x5) (e6 := x6) (e7 := x7) (e8 := x8) (e9 := x9) (e10 := x10) (e11 := x11) (e12 := x12) (e13 := x13) ns i (by omega) S (by omega)
      refine ⟨[some (.rol (ns.map .int)), some (.ref 0), some (.int i), x3, x4, x5, x6, x7, x8, x9, x10, x11, x12, x13], _, L', ?_, .inl t, es ++ [e], _, _, _, _, _, _, _, _, _, _, _, _, rfl, by simp [hl], S'⟩
      show some _ = some _
      rw [Int.zero_add]
      rfl)
  obtain ⟨y8, y9, y11, y12, ho⟩ := outer (e0 := some (.rol (ns.map .int))) (e2 := x2) (e3 := x3) (e4 := x4) (e5 := x5) (e6 := x6) (e7 := x7) (e8 := x8) (e9 := x9) (e10 := x10) (e11 := x11) (e12 := x12) (e13 := x13) S
  obtain ⟨L', he⟩ := end_ok (e0 := some (.rol (ns.map .int))) (e1 := some (.ref 0)) (e2 := x2) (e3 := x3) (e4 := x4) (e5 := x5) (e6 := x6) (e7 := x7) (e8 := y8) (e9 := y9) (e10 := x10) (e11 := y11) (e12 := y12) (e13 := x13) (L := L2)
  have hdef : m_law = mSeq (mSet 1 (mLst mNil)) (mSeq (mFor (mRng1 (mFn cMax (mCons (mC (.int 2)) (mCons (mFn cMin (mCons (mC (.int 5)) (mCons (mFn (cLenI 2 G_Wayu_lenu) (mCons (mVar 0) mNil)) mNil))) mNil)))) (gNm 2) bBody) (mSeq bOut (mSeq cS (mSeq cI cR)))) := rfl
  refine ⟨L', ?_⟩
  have q1 : mSet 1 (mLst mNil) [some (.rol (ns.map .int)), none, none, none, none, none, none, none, none, none, none, none, none, none] [] = .nx [some (.rol (ns.map .int)), some (.ref 0), none, none, none, none, none, none, none, none, none, none, none, none] [.lst []] := by
    generalize ns.map D.int = T
    simp [mSet, mLst, mNil, Rs.bind, Rs.bindS, most]
  have q2 : mFor (mRng1 (mFn cMax (mCons (mC (.int 2)) (mCons (mFn cMin (mCons (mC (.int 5)) (mCons (mFn (cLenI 2 G_Wayu_lenu) (mCons (mVar 0) mNil)) mNil))) mNil)))) (gNm 2) bBody [some (.rol (ns.map .int)), some (.ref 0), none, none, none, none, none, none, none, none, none, none, none, none] [.lst []] = .nx [some (.rol (ns.map .int)), some (.ref 0), x2, x3, x4, x5, x6, x7, x8, x9, x10, x11, x12, x13] L2 := by
    unfold mFor
    rw [hr]
    exact hlp
  have q : m_law [some (.rol (ns.map .int)), none, none, none, none, none, none, none, none, none, none, none, none, none] [] = .rt (.bl true) L' := by
    rw [hdef, seq_nx q1, seq_nx q2, seq_nx ho]
    exact he
  have hf : F_law [.rol (ns.map .int)] [] = (if ([D.rol (ns.map .int)] : List D).length = 1 then (match m_law [some (.rol (ns.map .int)), none, none, none, none, none, none, none, none, none, none, none, none, none] [] with
    | .nx _ L' => .ok .non L'
    | .rt d L' => .ok d L'
    | .ex c fs _ L' => .ex c fs L'
    | _ => .bad) else .bad) := rfl
  rw [hf, q]
  rfl
structure Txt (K : PySem.W.Frag) (mg : Str → Option Value) (cm : Nat → Addr) : Prop where
  c_Way : Cls K (cm 2)
  g_MODES : GC K mg cm "MODES" d_MODES
  g_MOST_POINTS : GC K mg cm "MOST_POINTS" d_MOST_POINTS
  g_MOST_TAKES : GC K mg cm "MOST_TAKES" d_MOST_TAKES
  g_WORDS : GC K mg cm "WORDS" d_WORDS
  g_Way : mg "Way" = some (.ref (cm 2))
  i_Way : IsiC K (cm 2)
  k_Way_MODES : ConI K cm 2 "MODES" (.tup [(.str "shared"), (.str "alone"), (.str "rising")])
  n_Way_locks : NoAttr K (cm 2) "locks"
  n_Way_places : NoAttr K (cm 2) "places"
  n_Way_walked : NoAttr K (cm 2) "walked"
  ne_Way : PySem.W.findIn K (.ref (cm 2)) "__ne__" = some (some (.builtin "object.__ne__"))
  v_Way_MODES : CvI K mg cm "Way" 2 "MODES" (.tup [(.str "shared"), (.str "alone"), (.str "rising")])
  y_Way : InsTy K (cm 2)
  z_abs : mg "abs" = none
  z_bool : mg "bool" = none
  z_enumerate : mg "enumerate" = none
  z_int : mg "int" = none
  z_isinstance : mg "isinstance" = none
  z_len : mg "len" = none
  z_list : mg "list" = none
  z_max : mg "max" = none
  z_min : mg "min" = none
  z_range : mg "range" = none
  z_repr : mg "repr" = none
  z_str : mg "str" = none
  z_tuple : mg "tuple" = none
section
variable {P : Program} {w : World} {K : PySem.W.Frag} {mg : Str → Option Value} {base : Heap} {cm : Nat → Addr}
abbrev s_is_integer : Stmt := (top 5)
abbrev N_is_integer : List Str := ["value"]
theorem sc_is_integer : FnScope N_is_integer ["value"] (defScope s_is_integer) := ⟨rfl, rfl, rfl, by decide +kernel, rfl, by decide +kernel, by decide +kernel⟩
theorem b_is_integer {f : Addr} (T : Txt K mg cm) : BodyOk P w K mg base cm N_is_integer "is_integer" (defScope s_is_integer) f (defBody s_is_integer) 0 m_is_integer := by
  intro fx cdv A outer s H E hr tk hp
  exact (sb_one (ss_ret (se_andV (se_isiB .int [] T.z_isinstance T.z_int (se_var (pv 0)) (fun _ h => nomatch h) (fun _ h => nomatch h) (fun h => nomatch h)) (se_one (se_notV (se_isiB .bl [] T.z_isinstance T.z_bool (se_var (pv 0)) (fun _ h => nomatch h) (fun _ h => nomatch h) (fun h => nomatch h)))))))
abbrev s_is_place : Stmt := (top 11)
abbrev N_is_place : List Str := ["place", "index"]
theorem sc_is_place : FnScope N_is_place ["place", "index"] (defScope s_is_place) := ⟨rfl, rfl, rfl, by decide +kernel, rfl, by decide +kernel, by decide +kernel⟩
theorem b_is_place {f : Addr} (T : Txt K mg cm) (I_is_integer : FI P w K mg base cm "is_integer" 1 1 G_is_integer) : BodyOk P w K mg base cm N_is_place "is_place" (defScope s_is_place) f (defBody s_is_place) 1 m_is_place := by
  intro fx cdv A outer s H E hr tk hp
  exact (sb_cons (ss_if (PW.pt (sw_or (st_not (st_tru (se_isiB .tup [] T.z_isinstance T.z_tuple (se_var (pv 0)) (fun _ h => nomatch h) (fun _ h => nomatch h) (fun h => nomatch h)))) (sw_or (st_cmp (op_oNotIn (u65 hr)) (se_fnB c_len T.z_len (sa_cons (se_var (pv 0)) sa_nil)) (se_tup (sa_cons se_int (sa_cons se_int sa_nil)))) (pw_or1 (st_not (st_tru (se_isiB .str [] T.z_isinstance T.z_str (se_idx (u65 hr) (se_var (pv 0)) se_int) (fun _ h => nomatch h) (fun _ h => nomatch h) (fun h => nomatch h)))))))) (sb_one (ss_ret se_bl)) sb_nil)
    (sb_cons (ss_if (st_cmp (op_oEq (u64 hr)) (se_fnB c_len T.z_len (sa_cons (se_var (pv 0)) sa_nil)) se_int) (sb_one (ss_ret (se_cmp (op_oEq (u64 hr)) (se_idx (u65 hr) (se_var (pv 0)) se_int) se_str))) sb_nil)
    (sb_one (ss_ret (se_andV (se_cmp (op_oEq (u64 hr)) (se_idx (u65 hr) (se_var (pv 0)) se_int) se_str) (se_andV (se_call I_is_integer (hr.mono (by decide)) tk (sa_cons (se_idx (u65 hr) (se_var (pv 0)) se_int) sa_nil) (len_cons len_nil)) (se_one (se_chain op_oLe op_oLe se_int (se_idx (u65 hr) (se_var (pv 0)) se_int) (se_var (pv 1))))))))))
abbrev s_checked_points : Stmt := (top 14)
abbrev N_checked_points : List Str := ["points", "index", "place"]
theorem sc_checked_points : FnScope N_checked_points ["points"] (defScope s_checked_points) := ⟨rfl, rfl, rfl, by decide +kernel, rfl, by decide +kernel, by decide +kernel⟩
theorem b_checked_points {f : Addr} (T : Txt K mg cm) (I_is_place : FI P w K mg base cm "is_place" 2 2 G_is_place) : BodyOk P w K mg base cm N_checked_points "checked_points" (defScope s_checked_points) f (defBody s_checked_points) 2 m_checked_points := by
  intro fx cdv A outer s H E hr tk hp
  exact (sb_cons (ss_if (PW.pt (sw_or (st_not (st_tru (se_isiB .tup [] T.z_isinstance T.z_tuple (se_var (pv 0)) (fun _ h => nomatch h) (fun _ h => nomatch h) (fun h => nomatch h)))) (pw_or1 (st_cmp op_oGt (se_fnB c_len T.z_len (sa_cons (se_var (pv 0)) sa_nil)) (se_g T.g_MOST_POINTS))))) (sb_one ss_never) sb_nil)
    (sb_one (ss_for hp rfl (si_enum rfl T.z_enumerate (pa_cons (se_var (pv 0)) pa_nil)) (sg_tup rfl (sgs_cons (sg_name sc_checked_points.nd rfl) (sgs_cons (sg_name sc_checked_points.nd rfl) sgs_nil))) (sb_one (ss_if (st_not (st_tru (se_call I_is_place (hr.mono (by decide)) tk (sa_cons (se_var (pv 2)) (sa_cons (se_var (pv 1)) sa_nil)) (len_cons (len_cons len_nil))))) (sb_one ss_never) sb_nil)))))
abbrev s_is_take : Stmt := (top 12)
abbrev N_is_take : List Str := ["take", "points", "word", "point", "mode"]
theorem sc_is_take : FnScope N_is_take ["take", "points"] (defScope s_is_take) := ⟨rfl, rfl, rfl, by decide +kernel, rfl, by decide +kernel, by decide +kernel⟩
theorem b_is_take {f : Addr} (T : Txt K mg cm) (I_is_integer : FI P w K mg base cm "is_integer" 1 1 G_is_integer) : BodyOk P w K mg base cm N_is_take "is_take" (defScope s_is_take) f (defBody s_is_take) 1 m_is_take := by
  intro fx cdv A outer s H E hr tk hp
  exact (sb_cons (ss_if (PW.pt (sw_or (st_not (st_tru (se_isiB .tup [] T.z_isinstance T.z_tuple (se_var (pv 0)) (fun _ h => nomatch h) (fun _ h => nomatch h) (fun h => nomatch h)))) (pw_or1 (st_cmp (op_oNe (u64 hr)) (se_fnB c_len T.z_len (sa_cons (se_var (pv 0)) sa_nil)) se_int)))) (sb_one (ss_ret se_bl)) sb_nil)
    (sb_cons (ss_asg (se_var (pv 0)) (sg_tup rfl (sgs_cons (sg_name sc_is_take.nd rfl) (sgs_cons (sg_name sc_is_take.nd rfl) (sgs_cons (sg_name sc_is_take.nd rfl) sgs_nil)))))
    (sb_cons (ss_if (PW.pt (sw_or (st_not (st_tru (se_isiB .str [] T.z_isinstance T.z_str (se_var (pv 2)) (fun _ h => nomatch h) (fun _ h => nomatch h) (fun h => nomatch h)))) (sw_or (st_not (st_tru (se_isiB .str [] T.z_isinstance T.z_str (se_var (pv 4)) (fun _ h => nomatch h) (fun _ h => nomatch h) (fun h => nomatch h)))) (pw_or1 (st_not (st_tru (se_call I_is_integer (hr.mono (by decide)) tk (sa_cons (se_var (pv 3)) sa_nil) (len_cons len_nil)))))))) (sb_one (ss_ret se_bl)) sb_nil)
    (sb_one (ss_ret (se_andV (se_cmp (op_oIn (u65 hr)) (se_var (pv 2)) (se_g T.g_WORDS)) (se_andV (se_cmp (op_oIn (u65 hr)) (se_var (pv 4)) (se_g T.g_MODES)) (se_one (se_chain op_oLe op_oLt se_int (se_var (pv 3)) (se_var (pv 1)))))))))))
abbrev s_is_allowed : Stmt := (top 13)
abbrev N_is_allowed : List Str := ["takes", "index", "hops", "word", "point", "mode", "is_hop", "take"]
theorem sc_is_allowed : FnScope N_is_allowed ["takes", "index", "hops"] (defScope s_is_allowed) := ⟨rfl, rfl, rfl, by decide +kernel, rfl, by decide +kernel, by decide +kernel⟩
theorem b_is_allowed {f : Addr} (T : Txt K mg cm) : BodyOk P w K mg base cm N_is_allowed "is_allowed" (defScope s_is_allowed) f (defBody s_is_allowed) 0 m_is_allowed := by
  intro fx cdv A outer s H E hr tk hp
  exact (sb_cons (ss_asg (se_idx (u65 hr) (se_var (pv 0)) (se_var (pv 1))) (sg_tup rfl (sgs_cons (sg_name sc_is_allowed.nd rfl) (sgs_cons (sg_name sc_is_allowed.nd rfl) (sgs_cons (sg_name sc_is_allowed.nd rfl) sgs_nil)))))
    (sb_cons (ss_if (st_cmp (op_oIn (u65 hr)) (se_var (pv 4)) (se_lc (own := [("take", 7)]) rfl sc_is_allowed.nd (si_iter (se_slice (se_var (pv 0)) so_none (so_some (se_var (pv 1))))) (blkOk_by (own := [("take", 7)]) (N := N_is_allowed) (sc := defScope s_is_allowed) (by decide +kernel)) (fun _ _ _ _ _ => (sg_name sc_is_allowed.nd rfl)) (fun _ _ _ _ _ => sts_nil) (fun _ _ _ _ _ => (se_idx (u65 hr) (se_var (pv 7)) se_int)))) (sb_one (ss_ret se_bl)) sb_nil)
    (sb_cons (ss_set sc_is_allowed.nd rfl (se_chain op_oLe op_oLe se_int (se_var (pv 1)) (se_var (pv 2))))
    (sb_cons (ss_if (st_cmp (op_oEq (u64 hr)) (se_var (pv 3)) (se_ifE (st_tru (se_var (pv 6))) se_str se_str)) (sb_one (ss_ret se_bl)) sb_nil)
    (sb_one (ss_ret (se_orV (se_cmp (op_oNe (u64 hr)) (se_var (pv 5)) se_str) (se_one (se_andV (se_notV (se_var (pv 6))) (se_andV (se_cmp op_oGt (se_var (pv 1)) se_int) (se_one (se_cmp (op_oNe (u64 hr)) (se_idx (u65 hr) (se_idx (u65 hr) (se_var (pv 0)) (se_op op_oSub (se_var (pv 1)) se_int)) se_int) se_str))))))))))))
abbrev s_checked_takes : Stmt := (top 15)
abbrev N_checked_takes : List Str := ["points", "takes", "hops", "index", "take"]
theorem sc_checked_takes : FnScope N_checked_takes ["points", "takes", "hops"] (defScope s_checked_takes) := ⟨rfl, rfl, rfl, by decide +kernel, rfl, by decide +kernel, by decide +kernel⟩
theorem b_checked_takes {f : Addr} (T : Txt K mg cm) (I_is_integer : FI P w K mg base cm "is_integer" 1 1 G_is_integer) (I_is_take : FI P w K mg base cm "is_take" 2 2 G_is_take) (I_is_allowed : FI P w K mg base cm "is_allowed" 1 3 G_is_allowed) : BodyOk P w K mg base cm N_checked_takes "checked_takes" (defScope s_checked_takes) f (defBody s_checked_takes) 2 m_checked_takes := by
  intro fx cdv A outer s H E hr tk hp
  exact (sb_cons (ss_if (PW.pt (sw_or (st_not (st_tru (se_call I_is_integer (hr.mono (by decide)) tk (sa_cons (se_var (pv 2)) sa_nil) (len_cons len_nil)))) (pw_or1 (st_cmp op_oLt (se_var (pv 2)) se_int)))) (sb_one ss_never) sb_nil)
    (sb_cons (ss_if (PW.pt (sw_or (st_not (st_tru (se_isiB .tup [] T.z_isinstance T.z_tuple (se_var (pv 1)) (fun _ h => nomatch h) (fun _ h => nomatch h) (fun h => nomatch h)))) (pw_or1 (st_not (st_chain op_oLe op_oLe se_int (se_fnB c_len T.z_len (sa_cons (se_var (pv 1)) sa_nil)) (se_g T.g_MOST_TAKES)))))) (sb_one ss_never) sb_nil)
    (sb_cons (ss_if (st_cmp op_oGe (se_var (pv 2)) (se_fnB c_len T.z_len (sa_cons (se_var (pv 1)) sa_nil))) (sb_one ss_never) sb_nil)
    (sb_one (ss_for hp rfl (si_enum rfl T.z_enumerate (pa_cons (se_var (pv 1)) pa_nil)) (sg_tup rfl (sgs_cons (sg_name sc_checked_takes.nd rfl) (sgs_cons (sg_name sc_checked_takes.nd rfl) sgs_nil))) (sb_one (ss_if (PW.pt (sw_or (st_not (st_tru (se_call I_is_take (hr.mono (by decide)) tk (sa_cons (se_var (pv 4)) (sa_cons (se_op op_oAdd (se_fnB c_len T.z_len (sa_cons (se_var (pv 0)) sa_nil)) se_int) sa_nil)) (len_cons (len_cons len_nil))))) (pw_or1 (st_not (st_tru (se_call I_is_allowed (hr.mono (by decide)) tk (sa_cons (se_var (pv 1)) (sa_cons (se_var (pv 3)) (sa_cons (se_var (pv 2)) sa_nil))) (len_cons (len_cons (len_cons len_nil))))))))) (sb_one ss_never) sb_nil)))))))
abbrev s_Wayu_initu : Stmt := (inClass (top 16) 1)
abbrev N_Wayu_initu : List Str := ["self", "points", "takes", "hops"]
theorem sc_Wayu_initu : FnScope N_Wayu_initu ["self", "points", "takes", "hops"] (defScope s_Wayu_initu) := ⟨rfl, rfl, rfl, by decide +kernel, rfl, by decide +kernel, by decide +kernel⟩
theorem b_Wayu_initu {f : Addr} (T : Txt K mg cm) (I_checked_points : FI P w K mg base cm "checked_points" 3 1 G_checked_points) (I_checked_takes : FI P w K mg base cm "checked_takes" 3 3 G_checked_takes) : BodyOk P w K mg base cm N_Wayu_initu "Way.__init__" (defScope s_Wayu_initu) f (defBody s_Wayu_initu) 3 m_Wayu_initu := by
  intro fx cdv A outer s H E hr tk hp
  exact (sb_cons (ss_expr (se_call I_checked_points (hr.mono (by decide)) tk (sa_cons (se_var (pv 1)) sa_nil) (len_cons len_nil)))
    (sb_cons (ss_expr (se_call I_checked_takes (hr.mono (by decide)) tk (sa_cons (se_var (pv 1)) (sa_cons (se_var (pv 2)) (sa_cons (se_var (pv 3)) sa_nil))) (len_cons (len_cons (len_cons len_nil)))))
    (sb_cons (ss_fld (se_var (pv 0)) (se_var (pv 1)) T.c_Way T.n_Way_places)
    (sb_cons (ss_fld (se_var (pv 0)) (se_var (pv 2)) T.c_Way T.n_Way_locks)
    (sb_one (ss_fld (se_var (pv 0)) (se_var (pv 3)) T.c_Way T.n_Way_walked))))))
abbrev s_Way_points : Stmt := (inClass (top 16) 2)
abbrev N_Way_points : List Str := ["self"]
theorem sc_Way_points : FnScope N_Way_points ["self"] (defScope s_Way_points) := ⟨rfl, rfl, rfl, by decide +kernel, rfl, by decide +kernel, by decide +kernel⟩
theorem b_Way_points {f : Addr} (T : Txt K mg cm) : BodyOk P w K mg base cm N_Way_points "Way.points" (defScope s_Way_points) f (defBody s_Way_points) 0 m_Way_points := by
  intro fx cdv A outer s H E hr tk hp
  exact (sb_one (ss_ret (se_fld (se_var (pv 0)) T.c_Way T.n_Way_places)))
abbrev s_Way_takes : Stmt := (inClass (top 16) 3)
abbrev N_Way_takes : List Str := ["self"]
theorem sc_Way_takes : FnScope N_Way_takes ["self"] (defScope s_Way_takes) := ⟨rfl, rfl, rfl, by decide +kernel, rfl, by decide +kernel, by decide +kernel⟩
theorem b_Way_takes {f : Addr} (T : Txt K mg cm) : BodyOk P w K mg base cm N_Way_takes "Way.takes" (defScope s_Way_takes) f (defBody s_Way_takes) 0 m_Way_takes := by
  intro fx cdv A outer s H E hr tk hp
  exact (sb_one (ss_ret (se_fld (se_var (pv 0)) T.c_Way T.n_Way_locks)))
abbrev s_Way_hops : Stmt := (inClass (top 16) 4)
abbrev N_Way_hops : List Str := ["self"]
theorem sc_Way_hops : FnScope N_Way_hops ["self"] (defScope s_Way_hops) := ⟨rfl, rfl, rfl, by decide +kernel, rfl, by decide +kernel, by decide +kernel⟩
theorem b_Way_hops {f : Addr} (T : Txt K mg cm) : BodyOk P w K mg base cm N_Way_hops "Way.hops" (defScope s_Way_hops) f (defBody s_Way_hops) 0 m_Way_hops := by
  intro fx cdv A outer s H E hr tk hp
  exact (sb_one (ss_ret (se_fld (se_var (pv 0)) T.c_Way T.n_Way_walked)))
abbrev s_Wayu_equ : Stmt := (inClass (top 16) 5)
abbrev N_Wayu_equ : List Str := ["self", "other"]
theorem sc_Wayu_equ : FnScope N_Wayu_equ ["self", "other"] (defScope s_Wayu_equ) := ⟨rfl, rfl, rfl, by decide +kernel, rfl, by decide +kernel, by decide +kernel⟩
theorem b_Wayu_equ {f : Addr} (T : Txt K mg cm) : BodyOk P w K mg base cm N_Wayu_equ "Way.__eq__" (defScope s_Wayu_equ) f (defBody s_Wayu_equ) 0 m_Wayu_equ := by
  intro fx cdv A outer s H E hr tk hp
  exact (sb_cons (ss_if (st_not (st_tru (se_isiC 2 [] T.z_isinstance T.g_Way (se_var (pv 1)) T.i_Way T.y_Way (fun _ h => nomatch h)))) (sb_one (ss_ret se_bl)) sb_nil)
    (sb_one (ss_ret (se_cmp (op_oEq (u64 hr)) (se_tup (sa_cons (se_fld (se_var (pv 0)) T.c_Way T.n_Way_places) (sa_cons (se_fld (se_var (pv 0)) T.c_Way T.n_Way_locks) (sa_cons (se_fld (se_var (pv 0)) T.c_Way T.n_Way_walked) sa_nil)))) (se_tup (sa_cons (se_fld (se_var (pv 1)) T.c_Way T.n_Way_places) (sa_cons (se_fld (se_var (pv 1)) T.c_Way T.n_Way_locks) (sa_cons (se_fld (se_var (pv 1)) T.c_Way T.n_Way_walked) sa_nil))))))))
abbrev s_Wayu_lenu : Stmt := (inClass (top 16) 6)
abbrev N_Wayu_lenu : List Str := ["self"]
theorem sc_Wayu_lenu : FnScope N_Wayu_lenu ["self"] (defScope s_Wayu_lenu) := ⟨rfl, rfl, rfl, by decide +kernel, rfl, by decide +kernel, by decide +kernel⟩
theorem b_Wayu_lenu {f : Addr} (T : Txt K mg cm) : BodyOk P w K mg base cm N_Wayu_lenu "Way.__len__" (defScope s_Wayu_lenu) f (defBody s_Wayu_lenu) 0 m_Wayu_lenu := by
  intro fx cdv A outer s H E hr tk hp
  exact (sb_one (ss_ret (se_fnB c_len T.z_len (sa_cons (se_fld (se_var (pv 0)) T.c_Way T.n_Way_locks) sa_nil))))
abbrev s_law_bag : Stmt := (top 18)
abbrev N_law_bag : List Str := ["_law_script", "_law_at", "_law_number", "_law_large"]
theorem sc_law_bag : FnScope N_law_bag ["_law_script", "_law_at"] (defScope s_law_bag) := ⟨rfl, rfl, rfl, by decide +kernel, rfl, by decide +kernel, by decide +kernel⟩
theorem b_law_bag {f : Addr} (T : Txt K mg cm) : BodyOk P w K mg base cm N_law_bag "_law_bag" (defScope s_law_bag) f (defBody s_law_bag) 0 m_law_bag := by
  intro fx cdv A outer s H E hr tk hp
  exact (sb_cons (ss_set sc_law_bag.nd rfl (se_ifE (st_cmp op_oLt (se_var (pv 1)) (se_fnB c_len T.z_len (sa_cons (se_var (pv 0)) sa_nil))) (se_idx (u65 hr) (se_var (pv 0)) (se_var (pv 1))) se_int))
    (sb_cons (ss_set sc_law_bag.nd rfl (se_ifE (st_cmp op_oGe (se_fnB c_abs T.z_abs (sa_cons (se_var (pv 2)) sa_nil)) (se_op op_oPow se_int se_int)) (se_fnB c_abs T.z_abs (sa_cons (se_var (pv 2)) sa_nil)) se_int))
    (sb_one (ss_ret (se_lst (sa_cons (se_var (pv 3)) (sa_cons (se_op op_oAdd (se_op op_oAdd (se_op op_oMul (se_op op_oMod (se_fnT c_int T.z_int (sa_cons (se_var (pv 2)) sa_nil)) (se_op op_oAdd (se_op op_oPow se_int se_int) se_int)) se_int) (se_op op_oMul se_int (se_var (pv 1)))) se_int) (sa_cons se_int sa_nil))))))))
abbrev s_law_take : Stmt := (top 19)
abbrev N_law_take : List Str := ["_law_bag_here", "_law_many", "_law_digit", "_law_mixed"]
theorem sc_law_take : FnScope N_law_take ["_law_bag_here", "_law_many"] (defScope s_law_take) := ⟨rfl, rfl, rfl, by decide +kernel, rfl, by decide +kernel, by decide +kernel⟩
theorem b_law_take {f : Addr} (T : Txt K mg cm) : BodyOk P w K mg base cm N_law_take "_law_take" (defScope s_law_take) f (defBody s_law_take) 0 m_law_take := by
  intro fx cdv A outer s H E hr tk hp
  exact (sb_cons (ss_if (st_cmp op_oGt (se_idx (u65 hr) (se_var (pv 0)) se_int) se_int) (sb_cons (ss_set sc_law_take.nd rfl (se_op op_oMod (se_fnT c_int T.z_int (sa_cons (se_idx (u65 hr) (se_var (pv 0)) se_int) sa_nil)) (se_var (pv 1))))
    (sb_cons (ss_put (u65 hr) (se_var (pv 0)) se_int (se_op op_oFdiv (se_idx (u65 hr) (se_var (pv 0)) se_int) (se_var (pv 1))))
    (sb_one (ss_ret (se_var (pv 2)))))) sb_nil)
    (sb_cons (ss_put (u65 hr) (se_var (pv 0)) se_int (se_op op_oAdd (se_idx (u65 hr) (se_var (pv 0)) se_int) se_int))
    (sb_cons (ss_set sc_law_take.nd rfl (se_op op_oMod (se_op op_oPow (se_fnT c_int T.z_int (sa_cons (se_op op_oAdd (se_idx (u65 hr) (se_var (pv 0)) se_int) (se_op op_oMul se_int (se_idx (u65 hr) (se_var (pv 0)) se_int))) sa_nil)) se_int) se_int))
    (sb_one (ss_ret (se_op op_oMod (se_op op_oFdiv (se_fnT c_int T.z_int (sa_cons (se_op op_oMul (se_op op_oFdiv (se_var (pv 3)) se_int) (se_op op_oAdd (se_op op_oMod (se_op op_oFdiv (se_var (pv 3)) se_int) se_int) (se_op op_oMul se_int (se_idx (u65 hr) (se_var (pv 0)) se_int)))) sa_nil)) se_int) (se_var (pv 1))))))))
abbrev s_law_points : Stmt := (top 21)
abbrev N_law_points : List Str := ["_law_bag_here", "_law_most", "_law_found", "_law_k"]
theorem sc_law_points : FnScope N_law_points ["_law_bag_here", "_law_most"] (defScope s_law_points) := ⟨rfl, rfl, rfl, by decide +kernel, rfl, by decide +kernel, by decide +kernel⟩
theorem b_law_points {f : Addr} (T : Txt K mg cm) (I_law_take : FI P w K mg base cm "_law_take" 1 2 Gulaw_take) : BodyOk P w K mg base cm N_law_points "_law_points" (defScope s_law_points) f (defBody s_law_points) 1 m_law_points := by
  intro fx cdv A outer s H E hr tk hp
  exact (sb_cons (ss_set sc_law_points.nd rfl (se_lst sa_nil))
    (sb_cons (ss_for hp rfl (si_rng1 rfl T.z_range (pa_cons (se_call I_law_take (hr.mono (by decide)) tk (sa_cons (se_var (pv 0)) (sa_cons (se_op op_oAdd (se_var (pv 1)) se_int) sa_nil)) (len_cons (len_cons len_nil))) pa_nil)) (sg_name sc_law_points.nd rfl) (sb_one (ss_expr (se_bmL PySem.F.slot_list_append PySem.F.type_list_append mt_oAppend (se_var (pv 2)) (sa_cons (se_ifE (st_cmp op_oLt (se_call I_law_take (hr.mono (by decide)) tk (sa_cons (se_var (pv 0)) (sa_cons se_int sa_nil)) (len_cons (len_cons len_nil))) se_int) (se_tup (sa_cons se_str sa_nil)) (se_tup (sa_cons se_str (sa_cons (se_call I_law_take (hr.mono (by decide)) tk (sa_cons (se_var (pv 0)) (sa_cons (se_op op_oAdd (se_var (pv 3)) se_int) sa_nil)) (len_cons (len_cons len_nil))) sa_nil)))) sa_nil)))))
    (sb_one (ss_ret (se_fnT c_tuple T.z_tuple (sa_cons (se_var (pv 2)) sa_nil))))))
abbrev s_law_of : Stmt := (top 20)
abbrev N_law_of : List Str := ["_law_bag_here", "_law_some"]
theorem sc_law_of : FnScope N_law_of ["_law_bag_here", "_law_some"] (defScope s_law_of) := ⟨rfl, rfl, rfl, by decide +kernel, rfl, by decide +kernel, by decide +kernel⟩
theorem b_law_of {f : Addr} (T : Txt K mg cm) (I_law_take : FI P w K mg base cm "_law_take" 1 2 Gulaw_take) : BodyOk P w K mg base cm N_law_of "_law_of" (defScope s_law_of) f (defBody s_law_of) 1 m_law_of := by
  intro fx cdv A outer s H E hr tk hp
  exact (sb_one (ss_ret (se_idx (u65 hr) (se_var (pv 1)) (se_call I_law_take (hr.mono (by decide)) tk (sa_cons (se_var (pv 0)) (sa_cons (se_fnB c_len T.z_len (sa_cons (se_var (pv 1)) sa_nil)) sa_nil)) (len_cons (len_cons len_nil))))))
abbrev s_law_takes : Stmt := (top 22)
abbrev N_law_takes : List Str := ["_law_bag_here", "_law_many", "_law_left", "_law_found", "_law_size", "_law_paces", "_law_k", "_law_point", "_law_is_hop", "_law_word", "_law_modes"]
theorem sc_law_takes : FnScope N_law_takes ["_law_bag_here", "_law_many"] (defScope s_law_takes) := ⟨rfl, rfl, rfl, by decide +kernel, rfl, by decide +kernel, by decide +kernel⟩
theorem b_law_takes {f : Addr} (T : Txt K mg cm) (I_law_take : FI P w K mg base cm "_law_take" 1 2 Gulaw_take) (I_law_of : FI P w K mg base cm "_law_of" 2 2 Gulaw_of) : BodyOk P w K mg base cm N_law_takes "_law_takes" (defScope s_law_takes) f (defBody s_law_takes) 2 m_law_takes := by
  intro fx cdv A outer s H E hr tk hp
  exact (sb_cons (ss_par rfl sc_law_takes.nd rfl rfl (by decide) (sa_cons (se_listRg1 rfl T.z_list T.z_range (se_var (pv 1))) (sa_cons (se_lst sa_nil) sa_nil)))
    (sb_cons (ss_set sc_law_takes.nd rfl (se_op op_oAdd se_int (se_call I_law_take (hr.mono (by decide)) tk (sa_cons (se_var (pv 0)) (sa_cons (se_fnB (c_min rfl) T.z_min (sa_cons se_int (sa_cons (se_var (pv 1)) sa_nil))) sa_nil)) (len_cons (len_cons len_nil)))))
    (sb_cons (ss_set sc_law_takes.nd rfl (se_call I_law_of (hr.mono (by decide)) tk (sa_cons (se_var (pv 0)) (sa_cons (se_lst (sa_cons se_int (sa_cons se_int (sa_cons (se_call I_law_take (hr.mono (by decide)) tk (sa_cons (se_var (pv 0)) (sa_cons (se_var (pv 4)) sa_nil)) (len_cons (len_cons len_nil))) sa_nil)))) sa_nil)) (len_cons (len_cons len_nil))))
    (sb_cons (ss_for hp rfl (si_rng1 rfl T.z_range (pa_cons (se_var (pv 4)) pa_nil)) (sg_name sc_law_takes.nd rfl) (sb_cons (ss_set sc_law_takes.nd rfl (se_bmL PySem.F.slot_list_pop PySem.F.type_list_pop mt_oPop (se_var (pv 2)) (sa_cons (se_call I_law_take (hr.mono (by decide)) tk (sa_cons (se_var (pv 0)) (sa_cons (se_fnB c_len T.z_len (sa_cons (se_var (pv 2)) sa_nil)) sa_nil)) (len_cons (len_cons len_nil))) sa_nil)))
    (sb_cons (ss_set sc_law_takes.nd rfl (se_chain op_oLe op_oLe se_int (se_var (pv 6)) (se_var (pv 5))))
    (sb_cons (ss_set sc_law_takes.nd rfl (se_call I_law_of (hr.mono (by decide)) tk (sa_cons (se_var (pv 0)) (sa_cons (se_lst (sa_cons se_str (sa_cons se_str (sa_cons se_str (sa_cons se_str (sa_cons (se_ifE (st_tru (se_var (pv 8))) se_str se_str) sa_nil)))))) sa_nil)) (len_cons (len_cons len_nil))))
    (sb_cons (ss_set sc_law_takes.nd rfl (se_lst (sa_cons se_str (sa_cons se_str (sa_cons se_str sa_nil)))))
    (sb_cons (ss_if (PW.pt (sw_and (st_cmp op_oGt (se_var (pv 6)) se_int) (sw_and (st_not (st_tru (se_var (pv 8)))) (pw_and1 (st_cmp (op_oNe (u64 hr)) (se_idx (u65 hr) (se_idx (u65 hr) (se_var (pv 3)) (se_neg se_int)) se_int) se_str))))) (sb_one (ss_expr (se_bmL PySem.F.slot_list_append PySem.F.type_list_append mt_oAppend (se_var (pv 10)) (sa_cons se_str sa_nil)))) sb_nil)
    (sb_one (ss_expr (se_bmL PySem.F.slot_list_append PySem.F.type_list_append mt_oAppend (se_var (pv 3)) (sa_cons (se_tup (sa_cons (se_var (pv 9)) (sa_cons (se_var (pv 7)) (sa_cons (se_call I_law_of (hr.mono (by decide)) tk (sa_cons (se_var (pv 0)) (sa_cons (se_var (pv 10)) sa_nil)) (len_cons (len_cons len_nil))) sa_nil)))) sa_nil))))))))))
    (sb_one (ss_ret (se_tup (sa_cons (se_fnT c_tuple T.z_tuple (sa_cons (se_var (pv 3)) sa_nil)) (sa_cons (se_var (pv 5)) sa_nil)))))))))
abbrev s_law_parts : Stmt := (top 23)
abbrev N_law_parts : List Str := ["_law_bag_here", "_law_places", "_law_locks", "_law_paces"]
theorem sc_law_parts : FnScope N_law_parts ["_law_bag_here"] (defScope s_law_parts) := ⟨rfl, rfl, rfl, by decide +kernel, rfl, by decide +kernel, by decide +kernel⟩
theorem b_law_parts {f : Addr} (T : Txt K mg cm) (I_law_points : FI P w K mg base cm "_law_points" 2 2 Gulaw_points) (I_law_takes : FI P w K mg base cm "_law_takes" 3 2 Gulaw_takes) : BodyOk P w K mg base cm N_law_parts "_law_parts" (defScope s_law_parts) f (defBody s_law_parts) 3 m_law_parts := by
  intro fx cdv A outer s H E hr tk hp
  exact (sb_cons (ss_set sc_law_parts.nd rfl (se_call I_law_points (hr.mono (by decide)) tk (sa_cons (se_var (pv 0)) (sa_cons se_int sa_nil)) (len_cons (len_cons len_nil))))
    (sb_cons (ss_asg (se_call I_law_takes (hr.mono (by decide)) tk (sa_cons (se_var (pv 0)) (sa_cons (se_op op_oAdd (se_fnB c_len T.z_len (sa_cons (se_var (pv 1)) sa_nil)) se_int) sa_nil)) (len_cons (len_cons len_nil))) (sg_tup rfl (sgs_cons (sg_name sc_law_parts.nd rfl) (sgs_cons (sg_name sc_law_parts.nd rfl) sgs_nil))))
    (sb_one (ss_ret (se_tup (sa_cons (se_var (pv 1)) (sa_cons (se_var (pv 2)) (sa_cons (se_var (pv 3)) sa_nil))))))))
abbrev s_law_bent : Stmt := (top 24)
abbrev N_law_bent : List Str := ["_law_bag_here", "_law_places", "_law_locks", "_law_paces", "_law_way", "_law_word", "_law_point", "_law_mode", "_law_take_here"]
theorem sc_law_bent : FnScope N_law_bent ["_law_bag_here", "_law_places", "_law_locks", "_law_paces"] (defScope s_law_bent) := ⟨rfl, rfl, rfl, by decide +kernel, rfl, by decide +kernel, by decide +kernel⟩
theorem b_law_bent {f : Addr} (T : Txt K mg cm) (I_law_take : FI P w K mg base cm "_law_take" 1 2 Gulaw_take) : BodyOk P w K mg base cm N_law_bent "_law_bent" (defScope s_law_bent) f (defBody s_law_bent) 1 m_law_bent := by
  intro fx cdv A outer s H E hr tk hp
  exact (sb_cons (ss_set sc_law_bent.nd rfl (se_call I_law_take (hr.mono (by decide)) tk (sa_cons (se_var (pv 0)) (sa_cons se_int sa_nil)) (len_cons (len_cons len_nil))))
    (sb_cons (ss_asg (se_idx (u65 hr) (se_var (pv 2)) (se_neg se_int)) (sg_tup rfl (sgs_cons (sg_name sc_law_bent.nd rfl) (sgs_cons (sg_name sc_law_bent.nd rfl) (sgs_cons (sg_name sc_law_bent.nd rfl) sgs_nil)))))
    (sb_cons (ss_if (st_cmp (op_oEq (u64 hr)) (se_var (pv 4)) se_int) (sb_one (ss_ret (se_tup (sa_cons (se_var (pv 1)) (sa_cons (se_op op_oAdd (se_slice (se_var (pv 2)) so_none (so_some (se_neg se_int))) (se_tup (sa_cons (se_tup (sa_cons (se_var (pv 5)) (sa_cons (se_var (pv 6)) (sa_cons se_str sa_nil)))) sa_nil))) (sa_cons (se_var (pv 3)) sa_nil)))))) sb_nil)
    (sb_cons (ss_if (PW.pt (sw_and (st_cmp (op_oEq (u64 hr)) (se_var (pv 4)) se_int) (pw_and1 (st_cmp op_oLt (se_fnB c_len T.z_len (sa_cons (se_var (pv 1)) sa_nil)) se_int)))) (sb_one (ss_ret (se_tup (sa_cons (se_op op_oAdd (se_var (pv 1)) (se_tup (sa_cons (se_tup (sa_cons se_str sa_nil)) sa_nil))) (sa_cons (se_var (pv 2)) (sa_cons (se_var (pv 3)) sa_nil)))))) sb_nil)
    (sb_cons (ss_if (PW.pt (sw_and (st_cmp (op_oEq (u64 hr)) (se_var (pv 4)) se_int) (sw_and (st_cmp op_oGt (se_var (pv 3)) se_int) (pw_and1 (st_not (st_tru (se_lc (own := [("_law_take_here", 8)]) rfl sc_law_bent.nd (si_iter (se_var (pv 2))) (blkOk_by (own := [("_law_take_here", 8)]) (N := N_law_bent) (sc := defScope s_law_bent) (by decide +kernel)) (fun _ _ _ _ _ => (sg_name sc_law_bent.nd rfl)) (fun _ _ _ _ _ => (sts_one (st_cmp (op_oEq (u64 hr)) (se_idx (u65 hr) (se_var (pv 8)) se_int) se_str))) (fun _ _ _ _ _ => (se_var (pv 8)))))))))) (sb_one (ss_ret (se_tup (sa_cons (se_var (pv 1)) (sa_cons (se_var (pv 2)) (sa_cons (se_op op_oSub (se_var (pv 3)) se_int) sa_nil)))))) sb_nil)
    (sb_one (ss_ret (se_tup (sa_cons (se_var (pv 1)) (sa_cons (se_var (pv 2)) (sa_cons (se_var (pv 3)) sa_nil)))))))))))
abbrev s_law : Stmt := (top 25)
abbrev N_law : List Str := ["_law_script", "_law_seen", "_law_k", "_law_bag_here", "_law_places", "_law_locks", "_law_paces", "_law_made", "_law_parts_here", "_law_other", "_law_same", "_law_one", "_law_others", "_law_plain"]
theorem sc_law : FnScope N_law ["_law_script"] (defScope s_law) := ⟨rfl, rfl, rfl, by decide +kernel, rfl, by decide +kernel, by decide +kernel⟩
theorem b_law {f : Addr} (T : Txt K mg cm) (I_Wayu_initu_D2 : CdI P w K mg base cm "Way" 2 4 4 [(.int 0)] G_Wayu_initu) (I_Wayu_initu_K0_takes_points_hops : CkI P w K mg base cm "Way" 2 4 0 ["takes", "points", "hops"] gd_Way_K0_takes_points_hops 4 G_Wayu_initu) (I_Wayu_initu_K2_hops : CkI P w K mg base cm "Way" 2 4 2 ["hops"] gd_Way_K2_hops 4 G_Wayu_initu) (I_Way_points : PrI P w K mg base cm 2 "points" 1 G_Way_points) (I_Way_takes : PrI P w K mg base cm 2 "takes" 1 G_Way_takes) (I_Way_hops : PrI P w K mg base cm 2 "hops" 1 G_Way_hops) (I_Wayu_equ : MtI P w K mg base cm 2 "__eq__" 1 2 G_Wayu_equ) (I_Wayu_lenu : MtI P w K mg base cm 2 "__len__" 1 1 G_Wayu_lenu) (I_law_bag : FI P w K mg base cm "_law_bag" 1 2 Gulaw_bag) (I_law_parts : FI P w K mg base cm "_law_parts" 4 1 Gulaw_parts) (I_law_bent : FI P w K mg base cm "_law_bent" 2 4 Gulaw_bent) : BodyOkG P w K mg base cm N_law "law" (defScope s_law) f (defBody s_law) 5 m_law := by
  intro fx cdv A outer s H E hgd hr tk hp
  exact (sb_cons (ss_set sc_law.nd rfl (se_lst sa_nil))
    (sb_cons (ss_for hp rfl (si_rng1 rfl T.z_range (pa_cons (se_fnB (c_max rfl) T.z_max (sa_cons se_int (sa_cons (se_fnB (c_min rfl) T.z_min (sa_cons se_int (sa_cons (se_fnB (c_lenI I_Wayu_lenu (hr.mono (by decide))) T.z_len (sa_cons (se_var (pv 0)) sa_nil)) sa_nil))) sa_nil))) pa_nil)) (sg_name sc_law.nd rfl) (sb_cons (ss_set sc_law.nd rfl (se_call I_law_bag (hr.mono (by decide)) tk (sa_cons (se_var (pv 0)) (sa_cons (se_var (pv 2)) sa_nil)) (len_cons (len_cons len_nil))))
    (sb_cons (ss_asg (se_call I_law_parts (hr.mono (by decide)) tk (sa_cons (se_var (pv 3)) sa_nil) (len_cons len_nil)) (sg_tup rfl (sgs_cons (sg_name sc_law.nd rfl) (sgs_cons (sg_name sc_law.nd rfl) (sgs_cons (sg_name sc_law.nd rfl) sgs_nil)))))
    (sb_cons (ss_set sc_law.nd rfl (se_makeK I_Wayu_initu_K2_hops (hr.mono (by decide)) tk (sa_cons (se_var (pv 4)) (sa_cons (se_var (pv 5)) sa_nil)) (sk_cons (se_var (pv 6)) sk_nil) (len_cons (len_cons len_nil)) (len_cons len_nil) (fun _ as bs h h2 => match as, bs, h, h2 with | [_, _], [_], _, _ => rfl)))
    (sb_cons (ss_if (PW.pt (sw_or (st_cmp (op_oNeI (u64 hr) I_Wayu_equ T.y_Way T.ne_Way (hr.mono (by decide))) (se_prop I_Way_points (hr.mono (by decide)) (se_var (pv 7))) (se_var (pv 4))) (sw_or (st_cmp (op_oNeI (u64 hr) I_Wayu_equ T.y_Way T.ne_Way (hr.mono (by decide))) (se_prop I_Way_takes (hr.mono (by decide)) (se_var (pv 7))) (se_var (pv 5))) (sw_or (st_cmp (op_oNeI (u64 hr) I_Wayu_equ T.y_Way T.ne_Way (hr.mono (by decide))) (se_prop I_Way_hops (hr.mono (by decide)) (se_var (pv 7))) (se_var (pv 6))) (pw_or1 (st_cmp (op_oNeI (u64 hr) I_Wayu_equ T.y_Way T.ne_Way (hr.mono (by decide))) (se_fnB (c_lenI I_Wayu_lenu (hr.mono (by decide))) T.z_len (sa_cons (se_var (pv 7)) sa_nil)) (se_fnB (c_lenI I_Wayu_lenu (hr.mono (by decide))) T.z_len (sa_cons (se_var (pv 5)) sa_nil)))))))) (sb_one (ss_ret se_bl)) sb_nil)
    (sb_cons (ss_if (st_cmp (op_oNeI (u64 hr) I_Wayu_equ T.y_Way T.ne_Way (hr.mono (by decide))) (se_fnB (c_repr hgd (u65 hr)) T.z_repr (sa_cons (se_lst (sa_cons (se_prop I_Way_points (hr.mono (by decide)) (se_var (pv 7))) (sa_cons (se_prop I_Way_takes (hr.mono (by decide)) (se_var (pv 7))) (sa_cons (se_prop I_Way_hops (hr.mono (by decide)) (se_var (pv 7))) sa_nil)))) sa_nil)) (se_fnB (c_repr hgd (u65 hr)) T.z_repr (sa_cons (se_lst (sa_cons (se_var (pv 4)) (sa_cons (se_var (pv 5)) (sa_cons (se_var (pv 6)) sa_nil)))) sa_nil))) (sb_one (ss_ret se_bl)) sb_nil)
    (sb_cons (ss_set sc_law.nd rfl (se_call I_law_bent (hr.mono (by decide)) tk (sa_cons (se_var (pv 3)) (sa_cons (se_var (pv 4)) (sa_cons (se_var (pv 5)) (sa_cons (se_var (pv 6)) sa_nil)))) (len_cons (len_cons (len_cons (len_cons len_nil))))))
    (sb_cons (ss_par rfl sc_law.nd rfl rfl (by decide) (sa_cons (se_makeK I_Wayu_initu_K2_hops (hr.mono (by decide)) tk (sa_cons (se_idx (u65 hr) (se_var (pv 8)) se_int) (sa_cons (se_idx (u65 hr) (se_var (pv 8)) se_int) sa_nil)) (sk_cons (se_idx (u65 hr) (se_var (pv 8)) se_int) sk_nil) (len_cons (len_cons len_nil)) (len_cons len_nil) (fun _ as bs h h2 => match as, bs, h, h2 with | [_, _], [_], _, _ => rfl)) (sa_cons (se_cmp (op_oEqI (u64 hr) I_Wayu_equ T.y_Way (hr.mono (by decide))) (se_var (pv 8)) (se_tup (sa_cons (se_var (pv 4)) (sa_cons (se_var (pv 5)) (sa_cons (se_var (pv 6)) sa_nil))))) sa_nil)))
    (sb_cons (ss_if (st_cmp (op_oNeI (u64 hr) I_Wayu_equ T.y_Way T.ne_Way (hr.mono (by decide))) (se_lst (sa_cons (se_cmp (op_oEqI (u64 hr) I_Wayu_equ T.y_Way (hr.mono (by decide))) (se_var (pv 7)) (se_var (pv 9))) (sa_cons (se_cmp (op_oEqI (u64 hr) I_Wayu_equ T.y_Way (hr.mono (by decide))) (se_var (pv 9)) (se_var (pv 7))) (sa_cons (se_notV (se_cmp (op_oNeI (u64 hr) I_Wayu_equ T.y_Way T.ne_Way (hr.mono (by decide))) (se_var (pv 7)) (se_var (pv 9)))) sa_nil)))) (se_op op_oMul (se_lst (sa_cons (se_var (pv 10)) sa_nil)) se_int)) (sb_one (ss_ret se_bl)) sb_nil)
    (sb_cons (ss_if (PW.pt (sw_or (st_cmp (op_oEqI (u64 hr) I_Wayu_equ T.y_Way (hr.mono (by decide))) (se_var (pv 7)) (se_tup (sa_cons (se_var (pv 4)) (sa_cons (se_var (pv 5)) (sa_cons (se_var (pv 6)) sa_nil))))) (sw_or (st_cmp (op_oEqI (u64 hr) I_Wayu_equ T.y_Way (hr.mono (by decide))) (se_var (pv 7)) (se_var (pv 5))) (pw_or1 (st_cmp (op_oEqI (u64 hr) I_Wayu_equ T.y_Way (hr.mono (by decide))) (se_var (pv 7)) (se_fnB (c_lenI I_Wayu_lenu (hr.mono (by decide))) T.z_len (sa_cons (se_var (pv 5)) sa_nil))))))) (sb_one (ss_ret se_bl)) sb_nil)
    (sb_cons (ss_if (st_not (st_cmp (op_oEqI (u64 hr) I_Wayu_equ T.y_Way (hr.mono (by decide))) (se_var (pv 7)) (se_makeK I_Wayu_initu_K2_hops (hr.mono (by decide)) tk (sa_cons (se_var (pv 4)) (sa_cons (se_var (pv 5)) sa_nil)) (sk_cons (se_var (pv 6)) sk_nil) (len_cons (len_cons len_nil)) (len_cons len_nil) (fun _ as bs h h2 => match as, bs, h, h2 with | [_, _], [_], _, _ => rfl)))) (sb_one (ss_ret se_bl)) sb_nil)
    (sb_one (ss_expr (se_bmL PySem.F.slot_list_append PySem.F.type_list_append mt_oAppend (se_var (pv 1)) (sa_cons (se_tup (sa_cons (se_var (pv 7)) (sa_cons (se_tup (sa_cons (se_var (pv 4)) (sa_cons (se_var (pv 5)) (sa_cons (se_var (pv 6)) sa_nil)))) sa_nil))) sa_nil)))))))))))))))
    (sb_cons (ss_for hp rfl (si_iter (se_var (pv 1))) (sg_tup rfl (sgs_cons (sg_name sc_law.nd rfl) (sgs_cons (sg_name sc_law.nd rfl) sgs_nil))) (sb_one (ss_for hp rfl (si_iter (se_var (pv 1))) (sg_tup rfl (sgs_cons (sg_name sc_law.nd rfl) (sgs_cons (sg_name sc_law.nd rfl) sgs_nil))) (sb_one (ss_if (st_cmp (op_oNeI (u64 hr) I_Wayu_equ T.y_Way T.ne_Way (hr.mono (by decide))) (se_cmp (op_oEqI (u64 hr) I_Wayu_equ T.y_Way (hr.mono (by decide))) (se_var (pv 11)) (se_var (pv 9))) (se_cmp (op_oEqI (u64 hr) I_Wayu_equ T.y_Way (hr.mono (by decide))) (se_var (pv 8)) (se_var (pv 12)))) (sb_one (ss_ret se_bl)) sb_nil)))))
    (sb_cons (ss_set sc_law.nd rfl (se_makeD I_Wayu_initu_D2 (hr.mono (by decide)) tk (sa_cons (se_tup sa_nil) (sa_cons (se_tup (sa_cons (se_tup (sa_cons se_str (sa_cons se_int (sa_cons se_str sa_nil)))) sa_nil)) sa_nil)) (len_cons (len_cons len_nil))))
    (sb_cons (ss_if (PW.pt (sw_or (st_cmp (op_oNeI (u64 hr) I_Wayu_equ T.y_Way T.ne_Way (hr.mono (by decide))) (se_prop I_Way_hops (hr.mono (by decide)) (se_var (pv 13))) se_int) (pw_or1 (st_cmp (op_oNeI (u64 hr) I_Wayu_equ T.y_Way T.ne_Way (hr.mono (by decide))) (se_var (pv 13)) (se_makeK0 I_Wayu_initu_K0_takes_points_hops (hr.mono (by decide)) tk (sk_cons (se_tup (sa_cons (se_tup (sa_cons se_str (sa_cons se_int (sa_cons se_str sa_nil)))) sa_nil)) (sk_cons (se_tup sa_nil) (sk_cons se_int sk_nil))) (len_cons (len_cons (len_cons len_nil))) (fun _ bs h => match bs, h with | [_, _, _], _ => rfl)))))) (sb_one (ss_ret se_bl)) sb_nil)
    (sb_one (ss_ret (se_andV (se_cmp (op_oEqI (u64 hr) I_Wayu_equ T.y_Way (hr.mono (by decide))) (se_cval T.v_Way_MODES) (se_tup (sa_cons se_str (sa_cons se_str (sa_cons se_str sa_nil))))) (se_one (se_cmp (op_oEqI (u64 hr) I_Wayu_equ T.y_Way (hr.mono (by decide))) (se_con T.k_Way_MODES (se_var (pv 13))) (se_cval T.v_Way_MODES)))))))))))
end
theorem all_mk {P : Program} {w : World} {K : PySem.W.Frag} {h : Heap} {mg : Str → Option Value} {fa : Addr} (X : K.In h) (G : h.Ns mainGlobals mg) (hfa : mg "law" = some (.ref fa))
    {C0 C1 C2 Ag_MODES Ag_WORDS Ac2_MODES f0 f1 f2 f3 f4 f5 f6 D6 f7 p7 f8 p8 f9 p9 f10 f11 f12 f13 f14 f15 f16 f17 f18 f19 : Addr} {tg_MODES_0 tg_MODES_1 tg_MODES_2 tg_MOST_POINTS tg_MOST_TAKES tg_WORDS_0 tg_WORDS_1 tg_WORDS_2 tc2_MODES_0 tc2_MODES_1 tc2_MODES_2 tk6_hops : Tok} {Dg_MODES Dg_WORDS Dc2_MODES od0 an0 od1 an1 od2 an2 od3 an3 od4 an4 od5 an5 od6 an6 od7 an7 od8 an8 od9 an9 od10 an10 od11 an11 od12 an12 od13 an13 od14 an14 od15 an15 od16 an16 od17 an17 od18 an18 od19 an19 : Option Addr} {ng_MODES ng_WORDS nc2_MODES : Nat} {sg_MODES sg_WORDS sc2_MODES sl0 sl1 sl2 sl3 sl4 sl5 sl6 sl7 sl8 sl9 sl10 sl11 sl12 sl13 sl14 sl15 sl16 sl17 sl18 sl19 : Array (Option Value)} {oc0 dc0 pm0 cd0 ct0 kV0 oc1 dc1 pm1 cd1 ct1 kV1 oc2 dc2 pm2 cd2 ct2 kV2 oc3 dc3 pm3 cd3 ct3 kV3 oc4 dc4 pm4 cd4 ct4 kV4 oc5 dc5 pm5 cd5 ct5 kV5 oc6 dc6 pm6 cd6 ct6 oc7 dc7 pm7 cd7 ct7 kV7 oc8 dc8 pm8 cd8 ct8 kV8 oc9 dc9 pm9 cd9 ct9 kV9 oc10 dc10 pm10 cd10 ct10 kV10 oc11 dc11 pm11 cd11 ct11 kV11 oc12 dc12 pm12 cd12 ct12 kV12 oc13 dc13 pm13 cd13 ct13 kV13 oc14 dc14 pm14 cd14 ct14 kV14 oc15 dc15 pm15 cd15 ct15 kV15 oc16 dc16 pm16 cd16 ct16 kV16 oc17 dc17 pm17 cd17 ct17 kV17 oc18 dc18 pm18 cd18 ct18 kV18 oc19 dc19 pm19 cd19 ct19 kV19 : Value} {rs7 rs8 rs9 : List Value}
    (aC0 : PySem.W.nsIn K mainGlobals "WaitError" = some (some (.ref C0)))
    (aC1 : PySem.W.nsIn K mainGlobals "BadWay" = some (some (.ref C1)))
    (aC2 : PySem.W.nsIn K mainGlobals "Way" = some (some (.ref C2)))
    (pg2 : PySem.W.plainGet K C2 Str.empty = true)
    (hd2 : PySem.W.hasDictIn K C2 = true)
    (po2 : PySem.W.plainOver K C2 = true)
    (sa2 : PySem.W.findIn K (.ref C2) "__setattr__" = some (some (.builtin "object.__setattr__")))
    (gg_MODES : PySem.W.nsIn K mainGlobals "MODES" = some (some (.ref Ag_MODES)))
    (lkg_MODES : K.lookup Ag_MODES = some ⟨.type "tuple", Dg_MODES, .seq #[(.str "shared" tg_MODES_0), (.str "alone" tg_MODES_1), (.str "rising" tg_MODES_2)] ng_MODES, sg_MODES⟩)
    (gg_MOST_POINTS : PySem.W.nsIn K mainGlobals "MOST_POINTS" = some (some (.int (4) tg_MOST_POINTS)))
    (gg_MOST_TAKES : PySem.W.nsIn K mainGlobals "MOST_TAKES" = some (some (.int (5) tg_MOST_TAKES)))
    (gg_WORDS : PySem.W.nsIn K mainGlobals "WORDS" = some (some (.ref Ag_WORDS)))
    (lkg_WORDS : K.lookup Ag_WORDS = some ⟨.type "tuple", Dg_WORDS, .seq #[(.str "take" tg_WORDS_0), (.str "try" tg_WORDS_1), (.str "leap" tg_WORDS_2)] ng_WORDS, sg_WORDS⟩)
    (i2_NoneType : PySem.W.kitOne K (.type "NoneType") (.ref C2) = some false)
    (i2_bool : PySem.W.kitOne K (.type "bool") (.ref C2) = some false)
    (i2_int : PySem.W.kitOne K (.type "int") (.ref C2) = some false)
    (i2_str : PySem.W.kitOne K (.type "str") (.ref C2) = some false)
    (i2_tuple : PySem.W.kitOne K (.type "tuple") (.ref C2) = some false)
    (i2_list : PySem.W.kitOne K (.type "list") (.ref C2) = some false)
    (i2_dict : PySem.W.kitOne K (.type "dict") (.ref C2) = some false)
    (i2_self : PySem.W.kitOne K (.ref C2) (.ref C2) = some true)
    (cf2_MODES : PySem.W.findIn K (.ref C2) "MODES" = some (some (.ref Ac2_MODES)))
    (lkc2_MODES : K.lookup Ac2_MODES = some ⟨.type "tuple", Dc2_MODES, .seq #[(.str "shared" tc2_MODES_0), (.str "alone" tc2_MODES_1), (.str "rising" tc2_MODES_2)] nc2_MODES, sc2_MODES⟩)
    (cs2_MODES : PySem.W.specialIn K (.ref Ac2_MODES) "__get__" = some none)
    (fn_Way_locks : PySem.W.findIn K (.ref C2) "locks" = some none)
    (fn_Way_places : PySem.W.findIn K (.ref C2) "places" = some none)
    (fn_Way_walked : PySem.W.findIn K (.ref C2) "walked" = some none)
    (ne2 : PySem.W.findIn K (.ref C2) "__ne__" = some (some (.builtin "object.__ne__")))
    (cr2_MODES : PySem.W.readsIn K C2 (.type "type") = true)
    (cg2_MODES : PySem.W.specialIn K (.ref C2) "__getattribute__" = some (some (.builtin "type.__getattribute__")))
    (cc2_MODES : PySem.W.findCls K (.ref C2) (.type "type") "MODES" = some (.val (.ref Ac2_MODES)))
    (ha2 : PySem.W.findIn K (.ref C2) "__class__" = some (some (.builtin "object.__class__")))
    (hn2 : PySem.W.specialIn K (.builtin "object.__class__") "__get__" = some (some (.builtin "getset_descriptor.__get__")))
    (ht2 : PySem.W.takesIn K (.builtin "object.__class__") = some true)
    (hm2 : PySem.W.mroIn K C2 (.type "object") = some true)
    (z_abs : PySem.W.nsIn K mainGlobals "abs" = some none)
    (z_bool : PySem.W.nsIn K mainGlobals "bool" = some none)
    (z_enumerate : PySem.W.nsIn K mainGlobals "enumerate" = some none)
    (z_int : PySem.W.nsIn K mainGlobals "int" = some none)
    (z_isinstance : PySem.W.nsIn K mainGlobals "isinstance" = some none)
    (z_len : PySem.W.nsIn K mainGlobals "len" = some none)
    (z_list : PySem.W.nsIn K mainGlobals "list" = some none)
    (z_max : PySem.W.nsIn K mainGlobals "max" = some none)
    (z_min : PySem.W.nsIn K mainGlobals "min" = some none)
    (z_range : PySem.W.nsIn K mainGlobals "range" = some none)
    (z_repr : PySem.W.nsIn K mainGlobals "repr" = some none)
    (z_str : PySem.W.nsIn K mainGlobals "str" = some none)
    (z_tuple : PySem.W.nsIn K mainGlobals "tuple" = some none)
    (a0 : PySem.W.nsIn K mainGlobals "is_integer" = some (some (.ref f0)))
    (l0 : K.lookup f0 = some ⟨oc0, od0, .func (PySem.W.fnOf "is_integer" "is_integer" (defArgs s_is_integer) (defBody s_is_integer) (defScope s_is_integer) .none kV0 dc0 pm0 an0 cd0 ct0), sl0⟩)
    (c0 : PySem.W.codeIn K cd0 "is_integer" = true)
    (k0 : PySem.W.keepIn K (.ref f0) = true)
    (a1 : PySem.W.nsIn K mainGlobals "is_place" = some (some (.ref f1)))
    (l1 : K.lookup f1 = some ⟨oc1, od1, .func (PySem.W.fnOf "is_place" "is_place" (defArgs s_is_place) (defBody s_is_place) (defScope s_is_place) .none kV1 dc1 pm1 an1 cd1 ct1), sl1⟩)
    (c1 : PySem.W.codeIn K cd1 "is_place" = true)
    (k1 : PySem.W.keepIn K (.ref f1) = true)
    (a2 : PySem.W.nsIn K mainGlobals "checked_points" = some (some (.ref f2)))
    (l2 : K.lookup f2 = some ⟨oc2, od2, .func (PySem.W.fnOf "checked_points" "checked_points" (defArgs s_checked_points) (defBody s_checked_points) (defScope s_checked_points) .none kV2 dc2 pm2 an2 cd2 ct2), sl2⟩)
    (c2 : PySem.W.codeIn K cd2 "checked_points" = true)
    (k2 : PySem.W.keepIn K (.ref f2) = true)
    (a3 : PySem.W.nsIn K mainGlobals "is_take" = some (some (.ref f3)))
    (l3 : K.lookup f3 = some ⟨oc3, od3, .func (PySem.W.fnOf "is_take" "is_take" (defArgs s_is_take) (defBody s_is_take) (defScope s_is_take) .none kV3 dc3 pm3 an3 cd3 ct3), sl3⟩)
    (c3 : PySem.W.codeIn K cd3 "is_take" = true)
    (k3 : PySem.W.keepIn K (.ref f3) = true)
    (a4 : PySem.W.nsIn K mainGlobals "is_allowed" = some (some (.ref f4)))
    (l4 : K.lookup f4 = some ⟨oc4, od4, .func (PySem.W.fnOf "is_allowed" "is_allowed" (defArgs s_is_allowed) (defBody s_is_allowed) (defScope s_is_allowed) .none kV4 dc4 pm4 an4 cd4 ct4), sl4⟩)
    (c4 : PySem.W.codeIn K cd4 "is_allowed" = true)
    (k4 : PySem.W.keepIn K (.ref f4) = true)
    (a5 : PySem.W.nsIn K mainGlobals "checked_takes" = some (some (.ref f5)))
    (l5 : K.lookup f5 = some ⟨oc5, od5, .func (PySem.W.fnOf "checked_takes" "checked_takes" (defArgs s_checked_takes) (defBody s_checked_takes) (defScope s_checked_takes) .none kV5 dc5 pm5 an5 cd5 ct5), sl5⟩)
    (c5 : PySem.W.codeIn K cd5 "checked_takes" = true)
    (k5 : PySem.W.keepIn K (.ref f5) = true)
    (a6 : PySem.W.findIn K (.ref C2) "__init__" = some (some (.ref f6)))
    (i6 : PySem.W.isFn K (.ref f6) = true)
    (l6 : K.lookup f6 = some ⟨oc6, od6, .func (PySem.W.fnOf "__init__" "Way.__init__" (defArgs s_Wayu_initu) (defBody s_Wayu_initu) (defScope s_Wayu_initu) .none (.ref D6) dc6 pm6 an6 cd6 ct6), sl6⟩)
    (c6 : PySem.W.codeIn K cd6 "Way.__init__" = true)
    (k6 : PySem.W.keepIn K (.ref f6) = true)
    (kw6_hops : PySem.W.nsIn K D6 "hops" = some (some (.int (0) tk6_hops)))
    (mk2 : PySem.W.makesIn K C2 = true)
    (kc2 : PySem.W.keepIn K (.ref C2) = true)
    (a7 : PySem.W.findIn K (.ref C2) "points" = some (some (.ref p7)))
    (g7 : PySem.W.specialIn K (.ref p7) "__get__" = some (some (.builtin "property.__get__")))
    (t7 : PySem.W.takesIn K (.ref p7) = some true)
    (r7 : PySem.W.recIn K p7 "property" = some (.ref f7 :: rs7))
    (l7 : K.lookup f7 = some ⟨oc7, od7, .func (PySem.W.fnOf "points" "Way.points" (defArgs s_Way_points) (defBody s_Way_points) (defScope s_Way_points) .none kV7 dc7 pm7 an7 cd7 ct7), sl7⟩)
    (c7 : PySem.W.codeIn K cd7 "Way.points" = true)
    (k7 : PySem.W.keepIn K (.ref f7) = true)
    (a8 : PySem.W.findIn K (.ref C2) "takes" = some (some (.ref p8)))
    (g8 : PySem.W.specialIn K (.ref p8) "__get__" = some (some (.builtin "property.__get__")))
    (t8 : PySem.W.takesIn K (.ref p8) = some true)
    (r8 : PySem.W.recIn K p8 "property" = some (.ref f8 :: rs8))
    (l8 : K.lookup f8 = some ⟨oc8, od8, .func (PySem.W.fnOf "takes" "Way.takes" (defArgs s_Way_takes) (defBody s_Way_takes) (defScope s_Way_takes) .none kV8 dc8 pm8 an8 cd8 ct8), sl8⟩)
    (c8 : PySem.W.codeIn K cd8 "Way.takes" = true)
    (k8 : PySem.W.keepIn K (.ref f8) = true)
    (a9 : PySem.W.findIn K (.ref C2) "hops" = some (some (.ref p9)))
    (g9 : PySem.W.specialIn K (.ref p9) "__get__" = some (some (.builtin "property.__get__")))
    (t9 : PySem.W.takesIn K (.ref p9) = some true)
    (r9 : PySem.W.recIn K p9 "property" = some (.ref f9 :: rs9))
    (l9 : K.lookup f9 = some ⟨oc9, od9, .func (PySem.W.fnOf "hops" "Way.hops" (defArgs s_Way_hops) (defBody s_Way_hops) (defScope s_Way_hops) .none kV9 dc9 pm9 an9 cd9 ct9), sl9⟩)
    (c9 : PySem.W.codeIn K cd9 "Way.hops" = true)
    (k9 : PySem.W.keepIn K (.ref f9) = true)
    (a10 : PySem.W.findIn K (.ref C2) "__eq__" = some (some (.ref f10)))
    (i10 : PySem.W.isFn K (.ref f10) = true)
    (l10 : K.lookup f10 = some ⟨oc10, od10, .func (PySem.W.fnOf "__eq__" "Way.__eq__" (defArgs s_Wayu_equ) (defBody s_Wayu_equ) (defScope s_Wayu_equ) .none kV10 dc10 pm10 an10 cd10 ct10), sl10⟩)
    (c10 : PySem.W.codeIn K cd10 "Way.__eq__" = true)
    (k10 : PySem.W.keepIn K (.ref f10) = true)
    (a11 : PySem.W.findIn K (.ref C2) "__len__" = some (some (.ref f11)))
    (i11 : PySem.W.isFn K (.ref f11) = true)
    (l11 : K.lookup f11 = some ⟨oc11, od11, .func (PySem.W.fnOf "__len__" "Way.__len__" (defArgs s_Wayu_lenu) (defBody s_Wayu_lenu) (defScope s_Wayu_lenu) .none kV11 dc11 pm11 an11 cd11 ct11), sl11⟩)
    (c11 : PySem.W.codeIn K cd11 "Way.__len__" = true)
    (k11 : PySem.W.keepIn K (.ref f11) = true)
    (a12 : PySem.W.nsIn K mainGlobals "_law_bag" = some (some (.ref f12)))
    (l12 : K.lookup f12 = some ⟨oc12, od12, .func (PySem.W.fnOf "_law_bag" "_law_bag" (defArgs s_law_bag) (defBody s_law_bag) (defScope s_law_bag) .none kV12 dc12 pm12 an12 cd12 ct12), sl12⟩)
    (c12 : PySem.W.codeIn K cd12 "_law_bag" = true)
    (k12 : PySem.W.keepIn K (.ref f12) = true)
    (a13 : PySem.W.nsIn K mainGlobals "_law_take" = some (some (.ref f13)))
    (l13 : K.lookup f13 = some ⟨oc13, od13, .func (PySem.W.fnOf "_law_take" "_law_take" (defArgs s_law_take) (defBody s_law_take) (defScope s_law_take) .none kV13 dc13 pm13 an13 cd13 ct13), sl13⟩)
    (c13 : PySem.W.codeIn K cd13 "_law_take" = true)
    (k13 : PySem.W.keepIn K (.ref f13) = true)
    (a14 : PySem.W.nsIn K mainGlobals "_law_points" = some (some (.ref f14)))
    (l14 : K.lookup f14 = some ⟨oc14, od14, .func (PySem.W.fnOf "_law_points" "_law_points" (defArgs s_law_points) (defBody s_law_points) (defScope s_law_points) .none kV14 dc14 pm14 an14 cd14 ct14), sl14⟩)
    (c14 : PySem.W.codeIn K cd14 "_law_points" = true)
    (k14 : PySem.W.keepIn K (.ref f14) = true)
    (a15 : PySem.W.nsIn K mainGlobals "_law_of" = some (some (.ref f15)))
    (l15 : K.lookup f15 = some ⟨oc15, od15, .func (PySem.W.fnOf "_law_of" "_law_of" (defArgs s_law_of) (defBody s_law_of) (defScope s_law_of) .none kV15 dc15 pm15 an15 cd15 ct15), sl15⟩)
    (c15 : PySem.W.codeIn K cd15 "_law_of" = true)
    (k15 : PySem.W.keepIn K (.ref f15) = true)
    (a16 : PySem.W.nsIn K mainGlobals "_law_takes" = some (some (.ref f16)))
    (l16 : K.lookup f16 = some ⟨oc16, od16, .func (PySem.W.fnOf "_law_takes" "_law_takes" (defArgs s_law_takes) (defBody s_law_takes) (defScope s_law_takes) .none kV16 dc16 pm16 an16 cd16 ct16), sl16⟩)
    (c16 : PySem.W.codeIn K cd16 "_law_takes" = true)
    (k16 : PySem.W.keepIn K (.ref f16) = true)
    (a17 : PySem.W.nsIn K mainGlobals "_law_parts" = some (some (.ref f17)))
    (l17 : K.lookup f17 = some ⟨oc17, od17, .func (PySem.W.fnOf "_law_parts" "_law_parts" (defArgs s_law_parts) (defBody s_law_parts) (defScope s_law_parts) .none kV17 dc17 pm17 an17 cd17 ct17), sl17⟩)
    (c17 : PySem.W.codeIn K cd17 "_law_parts" = true)
    (k17 : PySem.W.keepIn K (.ref f17) = true)
    (a18 : PySem.W.nsIn K mainGlobals "_law_bent" = some (some (.ref f18)))
    (l18 : K.lookup f18 = some ⟨oc18, od18, .func (PySem.W.fnOf "_law_bent" "_law_bent" (defArgs s_law_bent) (defBody s_law_bent) (defScope s_law_bent) .none kV18 dc18 pm18 an18 cd18 ct18), sl18⟩)
    (c18 : PySem.W.codeIn K cd18 "_law_bent" = true)
    (k18 : PySem.W.keepIn K (.ref f18) = true)
    (a19 : PySem.W.nsIn K mainGlobals "law" = some (some (.ref f19)))
    (l19 : K.lookup f19 = some ⟨oc19, od19, .func (PySem.W.fnOf "law" "law" (defArgs s_law) (defBody s_law) (defScope s_law) .none kV19 dc19 pm19 an19 cd19 ct19), sl19⟩)
    (c19 : PySem.W.codeIn K cd19 "law" = true)
    (k19 : PySem.W.keepIn K (.ref f19) = true) :
    ∃ (K : PySem.W.Frag) (cm : Nat → Addr) (fd : FuncData), K.In h ∧ (∀ (s : Shared) (u : Value), BindsTo s fd ⟨[u], []⟩ [("_law_script", u)]) ∧ ∀ base : Heap, K.In base → base.Ns mainGlobals mg → FnG P w K mg base 6 fa fd ["_law_script"] (spF K cm 1 F_law) := by
  have e := hfa.symm.trans (PySem.W.mg_of X G a19)
  cases e
  refine ⟨K, (fun c => match c with | 0 => C0 | 1 => C1 | 2 => C2 | _ => 0), PySem.W.fnOf "law" "law" (defArgs s_law) (defBody s_law) (defScope s_law) .none kV19 dc19 pm19 an19 cd19 ct19, X, fun s v => .of_eq rfl, fun base _ _ => ?_⟩
  generalize hcm : (fun c => match c with | 0 => C0 | 1 => C1 | 2 => C2 | _ => 0 : Nat → Addr) = cm
  have hC0 : C0 = cm 0 := by subst hcm; rfl
  have hC1 : C1 = cm 1 := by subst hcm; rfl
  have hC2 : C2 = cm 2 := by subst hcm; rfl
  clear hcm
  subst hC0
  subst hC1
  subst hC2
  have T : Txt K mg cm := ⟨⟨pg2, hd2, po2, sa2⟩, ⟨⟨(.ref Ag_MODES), (V.ref Ag_MODES), PySem.W.mg_of X G gg_MODES, rfl, (tup_k lkg_MODES (show 3 ≤ sizeLine from by decide) (vs := [(V.str "shared"), (V.str "alone"), (V.str "rising")]) (.cons ⟨_, rfl⟩ (.cons ⟨_, rfl⟩ (.cons ⟨_, rfl⟩ .nil))) (fun fx ρ H => (VRs.cons ((fun _ _ _ => .str _) fx ρ H) (VRs.cons ((fun _ _ _ => .str _) fx ρ H) (VRs.cons ((fun _ _ _ => .str _) fx ρ H) VRs.nil)))))⟩⟩, ⟨⟨(.int (4) tg_MOST_POINTS), (V.int (4)), PySem.W.mg_of X G gg_MOST_POINTS, ⟨_, rfl⟩, (fun _ _ _ => .int _)⟩⟩, ⟨⟨(.int (5) tg_MOST_TAKES), (V.int (5)), PySem.W.mg_of X G gg_MOST_TAKES, ⟨_, rfl⟩, (fun _ _ _ => .int _)⟩⟩, ⟨⟨(.ref Ag_WORDS), (V.ref Ag_WORDS), PySem.W.mg_of X G gg_WORDS, rfl, (tup_k lkg_WORDS (show 3 ≤ sizeLine from by decide) (vs := [(V.str "take"), (V.str "try"), (V.str "leap")]) (.cons ⟨_, rfl⟩ (.cons ⟨_, rfl⟩ (.cons ⟨_, rfl⟩ .nil))) (fun fx ρ H => (VRs.cons ((fun _ _ _ => .str _) fx ρ H) (VRs.cons ((fun _ _ _ => .str _) fx ρ H) (VRs.cons ((fun _ _ _ => .str _) fx ρ H) VRs.nil)))))⟩⟩, PySem.W.mg_of X G aC2, ⟨i2_NoneType, i2_bool, i2_int, i2_str, i2_tuple, i2_list, i2_dict, i2_self⟩, ⟨⟨(V.ref Ac2_MODES), (.ref Ac2_MODES), ⟨pg2, hd2, po2, sa2⟩, ⟨cf2_MODES, rfl, cs2_MODES, by decide +kernel⟩, (tup_k lkc2_MODES (show 3 ≤ sizeLine from by decide) (vs := [(V.str "shared"), (V.str "alone"), (V.str "rising")]) (.cons ⟨_, rfl⟩ (.cons ⟨_, rfl⟩ (.cons ⟨_, rfl⟩ .nil))) (fun fx ρ H => (VRs.cons ((fun _ _ _ => .str _) fx ρ H) (VRs.cons ((fun _ _ _ => .str _) fx ρ H) (VRs.cons ((fun _ _ _ => .str _) fx ρ H) VRs.nil)))))⟩⟩, fn_Way_locks, fn_Way_places, fn_Way_walked, ne2, ⟨⟨.type "type", (V.ref Ac2_MODES), (.ref Ac2_MODES), PySem.W.mg_of X G aC2, ⟨cr2_MODES, cg2_MODES⟩, ⟨cc2_MODES, rfl⟩, (tup_k lkc2_MODES (show 3 ≤ sizeLine from by decide) (vs := [(V.str "shared"), (V.str "alone"), (V.str "rising")]) (.cons ⟨_, rfl⟩ (.cons ⟨_, rfl⟩ (.cons ⟨_, rfl⟩ .nil))) (fun fx ρ H => (VRs.cons ((fun _ _ _ => .str _) fx ρ H) (VRs.cons ((fun _ _ _ => .str _) fx ρ H) (VRs.cons ((fun _ _ _ => .str _) fx ρ H) VRs.nil)))))⟩⟩, ⟨⟨pg2, hd2, po2, sa2⟩, ha2, hn2, ht2, hm2⟩, PySem.W.mg_none_of X G z_abs, PySem.W.mg_none_of X G z_bool, PySem.W.mg_none_of X G z_enumerate, PySem.W.mg_none_of X G z_int, PySem.W.mg_none_of X G z_isinstance, PySem.W.mg_none_of X G z_len, PySem.W.mg_none_of X G z_list, PySem.W.mg_none_of X G z_max, PySem.W.mg_none_of X G z_min, PySem.W.mg_none_of X G z_range, PySem.W.mg_none_of X G z_repr, PySem.W.mg_none_of X G z_str, PySem.W.mg_none_of X G z_tuple⟩
  have F0 := fun_mk (st := s_is_integer) l0 c0 k0
  have B0 := F0.binds (ps := ["value"]) fun _ _ _ _ _ _ us hl => match us, hl with | [_], _ => rfl
  have Q0 : FnF P w K mg base cm 1 f0 _ ["value"] G_is_integer := fnF_lrun (fn_ok F0 sc_is_integer (b_is_integer (P := P) (w := w) (K := K) (mg := mg) (base := base) (cm := cm) (f := f0) T))
  have I_is_integer : FI P w K mg base cm "is_integer" 1 1 G_is_integer := ⟨⟨f0, _, _, PySem.W.mg_of X G a0, k0, B0, rfl, Q0⟩⟩
  have F1 := fun_mk (st := s_is_place) l1 c1 k1
  have B1 := F1.binds (ps := ["place", "index"]) fun _ _ _ _ _ _ us hl => match us, hl with | [_, _], _ => rfl
  have Q1 : FnF P w K mg base cm 2 f1 _ ["place", "index"] G_is_place := fnF_lrun (fn_ok F1 sc_is_place (b_is_place (P := P) (w := w) (K := K) (mg := mg) (base := base) (cm := cm) (f := f1) T I_is_integer))
  have I_is_place : FI P w K mg base cm "is_place" 2 2 G_is_place := ⟨⟨f1, _, _, PySem.W.mg_of X G a1, k1, B1, rfl, Q1⟩⟩
  have F2 := fun_mk (st := s_checked_points) l2 c2 k2
  have B2 := F2.binds (ps := ["points"]) fun _ _ _ _ _ _ us hl => match us, hl with | [_], _ => rfl
  have Q2 : FnF P w K mg base cm 3 f2 _ ["points"] G_checked_points := fnF_lrun (fn_ok F2 sc_checked_points (b_checked_points (P := P) (w := w) (K := K) (mg := mg) (base := base) (cm := cm) (f := f2) T I_is_place))
  have I_checked_points : FI P w K mg base cm "checked_points" 3 1 G_checked_points := ⟨⟨f2, _, _, PySem.W.mg_of X G a2, k2, B2, rfl, Q2⟩⟩
  have F3 := fun_mk (st := s_is_take) l3 c3 k3
  have B3 := F3.binds (ps := ["take", "points"]) fun _ _ _ _ _ _ us hl => match us, hl with | [_, _], _ => rfl
  have Q3 : FnF P w K mg base cm 2 f3 _ ["take", "points"] G_is_take := fnF_lrun (fn_ok F3 sc_is_take (b_is_take (P := P) (w := w) (K := K) (mg := mg) (base := base) (cm := cm) (f := f3) T I_is_integer))
  have I_is_take : FI P w K mg base cm "is_take" 2 2 G_is_take := ⟨⟨f3, _, _, PySem.W.mg_of X G a3, k3, B3, rfl, Q3⟩⟩
  have F4 := fun_mk (st := s_is_allowed) l4 c4 k4
  have B4 := F4.binds (ps := ["takes", "index", "hops"]) fun _ _ _ _ _ _ us hl => match us, hl with | [_, _, _], _ => rfl
  have Q4 : FnF P w K mg base cm 1 f4 _ ["takes", "index", "hops"] G_is_allowed := fnF_lrun (fn_ok F4 sc_is_allowed (b_is_allowed (P := P) (w := w) (K := K) (mg := mg) (base := base) (cm := cm) (f := f4) T))
  have I_is_allowed : FI P w K mg base cm "is_allowed" 1 3 G_is_allowed := ⟨⟨f4, _, _, PySem.W.mg_of X G a4, k4, B4, rfl, Q4⟩⟩
  have F5 := fun_mk (st := s_checked_takes) l5 c5 k5
  have B5 := F5.binds (ps := ["points", "takes", "hops"]) fun _ _ _ _ _ _ us hl => match us, hl with | [_, _, _], _ => rfl
  have Q5 : FnF P w K mg base cm 3 f5 _ ["points", "takes", "hops"] G_checked_takes := fnF_lrun (fn_ok F5 sc_checked_takes (b_checked_takes (P := P) (w := w) (K := K) (mg := mg) (base := base) (cm := cm) (f := f5) T I_is_integer I_is_take I_is_allowed))
  have I_checked_takes : FI P w K mg base cm "checked_takes" 3 3 G_checked_takes := ⟨⟨f5, _, _, PySem.W.mg_of X G a5, k5, B5, rfl, Q5⟩⟩
  have F6 : FunD K "__init__" "Way.__init__" (defArgs s_Wayu_initu) (defBody s_Wayu_initu) (defScope s_Wayu_initu) [] [("hops", (V.int (0)))] f6 _ := ⟨⟨oc6, od6, .none, .ref D6, dc6, pm6, an6, cd6, ct6, sl6, rfl, l6, c6, .inl ⟨rfl, rfl⟩, .inr ⟨D6, rfl, fun q hq => by
    obtain rfl := List.mem_singleton.mp hq
    exact ⟨_, kw6_hops, ⟨_, rfl⟩⟩⟩⟩, k6⟩
  have Q6 : FnF P w K mg base cm 4 f6 _ ["self", "points", "takes", "hops"] G_Wayu_initu := fnF_lrun (fnD_ok F6 sc_Wayu_initu (b_Wayu_initu (P := P) (w := w) (K := K) (mg := mg) (base := base) (cm := cm) (f := f6) T I_checked_points I_checked_takes))
  have I_Wayu_initu_D2 : CdI P w K mg base cm "Way" 2 4 4 [(.int 0)] G_Wayu_initu := by
    obtain ⟨dv, hv, hb⟩ := FunD.binds0 (ps := ["self", "points", "takes", "hops"]) F6 3 (by simp) rfl (fun _ _ _ _ _ _ us ks h1 h2 => match us, ks, h1, h2 with | [_, _, _], [_], _, _ => ⟨_, _, _, _, _, _, rfl, rfl, rfl⟩)
    exact ⟨⟨f6, _, _, dv, _, PySem.W.mg_of X G aC2, ⟨mk2, a6, i6, kc2⟩, hb, hv, (fun _ _ _ => .cons (.int _) .nil), rfl, Q6⟩⟩
  have I_Wayu_initu_K0_takes_points_hops : CkI P w K mg base cm "Way" 2 4 0 ["takes", "points", "hops"] gd_Way_K0_takes_points_hops 4 G_Wayu_initu := by
    obtain ⟨gg, gV, hb, hg⟩ := kb_mk (ps := ["self", "points", "takes", "hops"]) F6 1 ["takes", "points", "hops"] [] gi_Way_K0_takes_points_hops [] (fun _ _ _ => .nil) (by simp) (by simp) (fun _ _ _ _ _ _ us mv ws h1 h2 h3 => match us, mv, ws, h1, h2, h3 with | [_], [], [_, _, _], _, _, _ => rfl)
    exact ⟨⟨f6, _, _, gg, gV, PySem.W.mg_of X G aC2, ⟨mk2, a6, i6, kc2⟩, hb, (fun fx ρ H ds vs es zs r1 r2 => hg _ ρ H ds vs es zs r1 r2), rfl, Q6⟩⟩
  have I_Wayu_initu_K2_hops : CkI P w K mg base cm "Way" 2 4 2 ["hops"] gd_Way_K2_hops 4 G_Wayu_initu := by
    obtain ⟨gg, gV, hb, hg⟩ := kb_mk (ps := ["self", "points", "takes", "hops"]) F6 3 ["hops"] [] gi_Way_K2_hops [] (fun _ _ _ => .nil) (by simp) (by simp) (fun _ _ _ _ _ _ us mv ws h1 h2 h3 => match us, mv, ws, h1, h2, h3 with | [_, _, _], [], [_], _, _, _ => rfl)
    exact ⟨⟨f6, _, _, gg, gV, PySem.W.mg_of X G aC2, ⟨mk2, a6, i6, kc2⟩, hb, (fun fx ρ H ds vs es zs r1 r2 => hg _ ρ H ds vs es zs r1 r2), rfl, Q6⟩⟩
  have F7 := fun_mk (st := s_Way_points) l7 c7 k7
  have B7 := F7.binds (ps := ["self"]) fun _ _ _ _ _ _ us hl => match us, hl with | [_], _ => rfl
  have Q7 : FnF P w K mg base cm 1 f7 _ ["self"] G_Way_points := fnF_lrun (fn_ok F7 sc_Way_points (b_Way_points (P := P) (w := w) (K := K) (mg := mg) (base := base) (cm := cm) (f := f7) T))
  have I_Way_points : PrI P w K mg base cm 2 "points" 1 G_Way_points := ⟨⟨p7, f7, _, _, ⟨a7, g7, t7, _, r7⟩, ⟨pg2, hd2, po2, sa2⟩, B7, rfl, Q7⟩⟩
  have F8 := fun_mk (st := s_Way_takes) l8 c8 k8
  have B8 := F8.binds (ps := ["self"]) fun _ _ _ _ _ _ us hl => match us, hl with | [_], _ => rfl
  have Q8 : FnF P w K mg base cm 1 f8 _ ["self"] G_Way_takes := fnF_lrun (fn_ok F8 sc_Way_takes (b_Way_takes (P := P) (w := w) (K := K) (mg := mg) (base := base) (cm := cm) (f := f8) T))
  have I_Way_takes : PrI P w K mg base cm 2 "takes" 1 G_Way_takes := ⟨⟨p8, f8, _, _, ⟨a8, g8, t8, _, r8⟩, ⟨pg2, hd2, po2, sa2⟩, B8, rfl, Q8⟩⟩
  have F9 := fun_mk (st := s_Way_hops) l9 c9 k9
  have B9 := F9.binds (ps := ["self"]) fun _ _ _ _ _ _ us hl => match us, hl with | [_], _ => rfl
  have Q9 : FnF P w K mg base cm 1 f9 _ ["self"] G_Way_hops := fnF_lrun (fn_ok F9 sc_Way_hops (b_Way_hops (P := P) (w := w) (K := K) (mg := mg) (base := base) (cm := cm) (f := f9) T))
  have I_Way_hops : PrI P w K mg base cm 2 "hops" 1 G_Way_hops := ⟨⟨p9, f9, _, _, ⟨a9, g9, t9, _, r9⟩, ⟨pg2, hd2, po2, sa2⟩, B9, rfl, Q9⟩⟩
  have F10 := fun_mk (st := s_Wayu_equ) l10 c10 k10
  have B10 := F10.binds (ps := ["self", "other"]) fun _ _ _ _ _ _ us hl => match us, hl with | [_, _], _ => rfl
  have Q10 : FnF P w K mg base cm 1 f10 _ ["self", "other"] G_Wayu_equ := fnF_lrun (fn_ok F10 sc_Wayu_equ (b_Wayu_equ (P := P) (w := w) (K := K) (mg := mg) (base := base) (cm := cm) (f := f10) T))
  have I_Wayu_equ : MtI P w K mg base cm 2 "__eq__" 1 2 G_Wayu_equ := ⟨⟨f10, _, _, ⟨a10, i10, k10⟩, ⟨pg2, hd2, po2, sa2⟩, B10, rfl, Q10⟩⟩
  have F11 := fun_mk (st := s_Wayu_lenu) l11 c11 k11
  have B11 := F11.binds (ps := ["self"]) fun _ _ _ _ _ _ us hl => match us, hl with | [_], _ => rfl
  have Q11 : FnF P w K mg base cm 1 f11 _ ["self"] G_Wayu_lenu := fnF_lrun (fn_ok F11 sc_Wayu_lenu (b_Wayu_lenu (P := P) (w := w) (K := K) (mg := mg) (base := base) (cm := cm) (f := f11) T))
  have I_Wayu_lenu : MtI P w K mg base cm 2 "__len__" 1 1 G_Wayu_lenu := ⟨⟨f11, _, _, ⟨a11, i11, k11⟩, ⟨pg2, hd2, po2, sa2⟩, B11, rfl, Q11⟩⟩
  have F12 := fun_mk (st := s_law_bag) l12 c12 k12
  have B12 := F12.binds (ps := ["_law_script", "_law_at"]) fun _ _ _ _ _ _ us hl => match us, hl with | [_, _], _ => rfl
  have Q12 : FnF P w K mg base cm 1 f12 _ ["_law_script", "_law_at"] Gulaw_bag := fnF_lrun (fn_ok F12 sc_law_bag (b_law_bag (P := P) (w := w) (K := K) (mg := mg) (base := base) (cm := cm) (f := f12) T))
  have I_law_bag : FI P w K mg base cm "_law_bag" 1 2 Gulaw_bag := ⟨⟨f12, _, _, PySem.W.mg_of X G a12, k12, B12, rfl, Q12⟩⟩
  have F13 := fun_mk (st := s_law_take) l13 c13 k13
  have B13 := F13.binds (ps := ["_law_bag_here", "_law_many"]) fun _ _ _ _ _ _ us hl => match us, hl with | [_, _], _ => rfl
  have Q13 : FnF P w K mg base cm 1 f13 _ ["_law_bag_here", "_law_many"] Gulaw_take := fnF_lrun (fn_ok F13 sc_law_take (b_law_take (P := P) (w := w) (K := K) (mg := mg) (base := base) (cm := cm) (f := f13) T))
  have I_law_take : FI P w K mg base cm "_law_take" 1 2 Gulaw_take := ⟨⟨f13, _, _, PySem.W.mg_of X G a13, k13, B13, rfl, Q13⟩⟩
  have F14 := fun_mk (st := s_law_points) l14 c14 k14
  have B14 := F14.binds (ps := ["_law_bag_here", "_law_most"]) fun _ _ _ _ _ _ us hl => match us, hl with | [_, _], _ => rfl
  have Q14 : FnF P w K mg base cm 2 f14 _ ["_law_bag_here", "_law_most"] Gulaw_points := fnF_lrun (fn_ok F14 sc_law_points (b_law_points (P := P) (w := w) (K := K) (mg := mg) (base := base) (cm := cm) (f := f14) T I_law_take))
  have I_law_points : FI P w K mg base cm "_law_points" 2 2 Gulaw_points := ⟨⟨f14, _, _, PySem.W.mg_of X G a14, k14, B14, rfl, Q14⟩⟩
  have F15 := fun_mk (st := s_law_of) l15 c15 k15
  have B15 := F15.binds (ps := ["_law_bag_here", "_law_some"]) fun _ _ _ _ _ _ us hl => match us, hl with | [_, _], _ => rfl
  have Q15 : FnF P w K mg base cm 2 f15 _ ["_law_bag_here", "_law_some"] Gulaw_of := fnF_lrun (fn_ok F15 sc_law_of (b_law_of (P := P) (w := w) (K := K) (mg := mg) (base := base) (cm := cm) (f := f15) T I_law_take))
  have I_law_of : FI P w K mg base cm "_law_of" 2 2 Gulaw_of := ⟨⟨f15, _, _, PySem.W.mg_of X G a15, k15, B15, rfl, Q15⟩⟩
  have F16 := fun_mk (st := s_law_takes) l16 c16 k16
  have B16 := F16.binds (ps := ["_law_bag_here", "_law_many"]) fun _ _ _ _ _ _ us hl => match us, hl with | [_, _], _ => rfl
  have Q16 : FnF P w K mg base cm 3 f16 _ ["_law_bag_here", "_law_many"] Gulaw_takes := fnF_lrun (fn_ok F16 sc_law_takes (b_law_takes (P := P) (w := w) (K := K) (mg := mg) (base := base) (cm := cm) (f := f16) T I_law_take I_law_of))
  have I_law_takes : FI P w K mg base cm "_law_takes" 3 2 Gulaw_takes := ⟨⟨f16, _, _, PySem.W.mg_of X G a16, k16, B16, rfl, Q16⟩⟩
  have F17 := fun_mk (st := s_law_parts) l17 c17 k17
  have B17 := F17.binds (ps := ["_law_bag_here"]) fun _ _ _ _ _ _ us hl => match us, hl with | [_], _ => rfl
  have Q17 : FnF P w K mg base cm 4 f17 _ ["_law_bag_here"] Gulaw_parts := fnF_lrun (fn_ok F17 sc_law_parts (b_law_parts (P := P) (w := w) (K := K) (mg := mg) (base := base) (cm := cm) (f := f17) T I_law_points I_law_takes))
  have I_law_parts : FI P w K mg base cm "_law_parts" 4 1 Gulaw_parts := ⟨⟨f17, _, _, PySem.W.mg_of X G a17, k17, B17, rfl, Q17⟩⟩
  have F18 := fun_mk (st := s_law_bent) l18 c18 k18
  have B18 := F18.binds (ps := ["_law_bag_here", "_law_places", "_law_locks", "_law_paces"]) fun _ _ _ _ _ _ us hl => match us, hl with | [_, _, _, _], _ => rfl
  have Q18 : FnF P w K mg base cm 2 f18 _ ["_law_bag_here", "_law_places", "_law_locks", "_law_paces"] Gulaw_bent := fnF_lrun (fn_ok F18 sc_law_bent (b_law_bent (P := P) (w := w) (K := K) (mg := mg) (base := base) (cm := cm) (f := f18) T I_law_take))
  have I_law_bent : FI P w K mg base cm "_law_bent" 2 4 Gulaw_bent := ⟨⟨f18, _, _, PySem.W.mg_of X G a18, k18, B18, rfl, Q18⟩⟩
  have F19 := fun_mk (st := s_law) l19 c19 k19
  exact fnG_of l19 c19 sc_law (by decide) (b_law (P := P) (w := w) (K := K) (mg := mg) (base := base) (cm := cm) (f := fa) T I_Wayu_initu_D2 I_Wayu_initu_K0_takes_points_hops I_Wayu_initu_K2_hops I_Way_points I_Way_takes I_Way_hops I_Wayu_equ I_Wayu_lenu I_law_bag I_law_parts I_law_bent)
end K05
open PySem PySem.W PyProof.Rows
set_option maxRecDepth 100000 in
set_option maxHeartbeats 0 in
theorem PySem.Challenge.cw_treewaits_k05_ways_made_holds : PySem.Challenge.rw_treewaits_k05_ways_made.Holds := by
  w_on; o_law; k_head; (case hw => w_witness2)
  k_fill
  refine Tw.end_ok (l := PySem.Challenge.rw_treewaits_k05_ways_made) (n := 63) (k := 6) (x := "_law_script") (Fl := K05.F_law) rfl (by decide) rfl ⟨rfl, by decide, by decide⟩ ?F K05.plain
  case F =>
    intro w mg fa h Y G hmg
    have KX := PySem.W.kIn_of Y
    refine' K05.all_mk KX G hmg ?aC0 ?aC1 ?aC2 ?pg2 ?hd2 ?po2 ?sa2 ?gg_MODES ?lkg_MODES ?gg_MOST_POINTS ?gg_MOST_TAKES ?gg_WORDS ?lkg_WORDS ?i2_NoneType ?i2_bool ?i2_int ?i2_str ?i2_tuple ?i2_list ?i2_dict ?i2_self ?cf2_MODES ?lkc2_MODES ?cs2_MODES ?fn_Way_locks ?fn_Way_places ?fn_Way_walked ?ne2 ?cr2_MODES ?cg2_MODES ?cc2_MODES ?ha2 ?hn2 ?ht2 ?hm2 ?z_abs ?z_bool ?z_enumerate ?z_int ?z_isinstance ?z_len ?z_list ?z_max ?z_min ?z_range ?z_repr ?z_str ?z_tuple ?a0 ?l0 ?c0 ?k0 ?a1 ?l1 ?c1 ?k1 ?a2 ?l2 ?c2 ?k2 ?a3 ?l3 ?c3 ?k3 ?a4 ?l4 ?c4 ?k4 ?a5 ?l5 ?c5 ?k5 ?a6 ?i6 ?l6 ?c6 ?k6 ?kw6_hops ?mk2 ?kc2 ?a7 ?g7 ?t7 ?r7 ?l7 ?c7 ?k7 ?a8 ?g8 ?t8 ?r8 ?l8 ?c8 ?k8 ?a9 ?g9 ?t9 ?r9 ?l9 ?c9 ?k9 ?a10 ?i10 ?l10 ?c10 ?k10 ?a11 ?i11 ?l11 ?c11 ?k11 ?a12 ?l12 ?c12 ?k12 ?a13 ?l13 ?c13 ?k13 ?a14 ?l14 ?c14 ?k14 ?a15 ?l15 ?c15 ?k15 ?a16 ?l16 ?c16 ?k16 ?a17 ?l17 ?c17 ?k17 ?a18 ?l18 ?c18 ?k18 ?a19 ?l19 ?c19 ?k19
    (case aC0 => first | k_is | kit_is)
    (case aC1 => first | k_is | kit_is)
    (case aC2 => first | k_is | kit_is)
    (case pg2 => first | k_is | kit_is)
    (case hd2 => first | k_is | kit_is)
    (case po2 => first | k_is | kit_is)
    (case sa2 => first | k_is | kit_is)
    (case gg_MODES => first | k_is | kit_is)
    (case lkg_MODES => first | k_is | kit_is)
    (case gg_MOST_POINTS => first | k_is | kit_is)
    (case gg_MOST_TAKES => first | k_is | kit_is)
    (case gg_WORDS => first | k_is | kit_is)
    (case lkg_WORDS => first | k_is | kit_is)
    (case i2_NoneType => first | k_is | kit_is)
    (case i2_bool => first | k_is | kit_is)
    (case i2_int => first | k_is | kit_is)
    (case i2_str => first | k_is | kit_is)
    (case i2_tuple => first | k_is | kit_is)
    (case i2_list => first | k_is | kit_is)
    (case i2_dict => first | k_is | kit_is)
    (case i2_self => first | k_is | kit_is)
    (case cf2_MODES => first | k_is | kit_is)
    (case lkc2_MODES => first | k_is | kit_is)
    (case cs2_MODES => first | k_is | kit_is)
    (case fn_Way_locks => first | k_is | kit_is)
    (case fn_Way_places => first | k_is | kit_is)
    (case fn_Way_walked => first | k_is | kit_is)
    (case ne2 => first | k_is | kit_is)
    (case cr2_MODES => first | k_is | kit_is)
    (case cg2_MODES => first | k_is | kit_is)
    (case cc2_MODES => first | k_is | kit_is)
    (case ha2 => first | k_is | kit_is)
    (case hn2 => first | k_is | kit_is)
    (case ht2 => first | k_is | kit_is)
    (case hm2 => first | k_is | kit_is)
    (case z_abs => first | k_is | kit_is)
    (case z_bool => first | k_is | kit_is)
    (case z_enumerate => first | k_is | kit_is)
    (case z_int => first | k_is | kit_is)
    (case z_isinstance => first | k_is | kit_is)
    (case z_len => first | k_is | kit_is)
    (case z_list => first | k_is | kit_is)
    (case z_max => first | k_is | kit_is)
    (case z_min => first | k_is | kit_is)
    (case z_range => first | k_is | kit_is)
    (case z_repr => first | k_is | kit_is)
    (case z_str => first | k_is | kit_is)
    (case z_tuple => first | k_is | kit_is)
    (case a0 => first | k_is | kit_is)
    (case l0 => first | k_is | kit_is)
    (case c0 => first | k_is | kit_is)
    (case k0 => first | k_is | kit_is)
    (case a1 => first | k_is | kit_is)
    (case l1 => first | k_is | kit_is)
    (case c1 => first | k_is | kit_is)
    (case k1 => first | k_is | kit_is)
    (case a2 => first | k_is | kit_is)
    (case l2 => first | k_is | kit_is)
    (case c2 => first | k_is | kit_is)
    (case k2 => first | k_is | kit_is)
    (case a3 => first | k_is | kit_is)
    (case l3 => first | k_is | kit_is)
    (case c3 => first | k_is | kit_is)
    (case k3 => first | k_is | kit_is)
    (case a4 => first | k_is | kit_is)
    (case l4 => first | k_is | kit_is)
    (case c4 => first | k_is | kit_is)
    (case k4 => first | k_is | kit_is)
    (case a5 => first | k_is | kit_is)
    (case l5 => first | k_is | kit_is)
    (case c5 => first | k_is | kit_is)
    (case k5 => first | k_is | kit_is)
    (case a6 => first | k_is | kit_is)
    (case i6 => first | k_is | kit_is)
    (case l6 => first | k_is | kit_is)
    (case c6 => first | k_is | kit_is)
    (case k6 => first | k_is | kit_is)
    (case kw6_hops => first | k_is | kit_is)
    (case mk2 => first | k_is | kit_is)
    (case kc2 => first | k_is | kit_is)
    (case a7 => first | k_is | kit_is)
    (case g7 => first | k_is | kit_is)
    (case t7 => first | k_is | kit_is)
    (case r7 => first | k_is | kit_is)
    (case l7 => first | k_is | kit_is)
    (case c7 => first | k_is | kit_is)
    (case k7 => first | k_is | kit_is)
    (case a8 => first | k_is | kit_is)
    (case g8 => first | k_is | kit_is)
    (case t8 => first | k_is | kit_is)
    (case r8 => first | k_is | kit_is)
    (case l8 => first | k_is | kit_is)
    (case c8 => first | k_is | kit_is)
    (case k8 => first | k_is | kit_is)
    (case a9 => first | k_is | kit_is)
    (case g9 => first | k_is | kit_is)
    (case t9 => first | k_is | kit_is)
    (case r9 => first | k_is | kit_is)
    (case l9 => first | k_is | kit_is)
    (case c9 => first | k_is | kit_is)
    (case k9 => first | k_is | kit_is)
    (case a10 => first | k_is | kit_is)
    (case i10 => first | k_is | kit_is)
    (case l10 => first | k_is | kit_is)
    (case c10 => first | k_is | kit_is)
    (case k10 => first | k_is | kit_is)
    (case a11 => first | k_is | kit_is)
    (case i11 => first | k_is | kit_is)
    (case l11 => first | k_is | kit_is)
    (case c11 => first | k_is | kit_is)
    (case k11 => first | k_is | kit_is)
    (case a12 => first | k_is | kit_is)
    (case l12 => first | k_is | kit_is)
    (case c12 => first | k_is | kit_is)
    (case k12 => first | k_is | kit_is)
    (case a13 => first | k_is | kit_is)
    (case l13 => first | k_is | kit_is)
    (case c13 => first | k_is | kit_is)
    (case k13 => first | k_is | kit_is)
    (case a14 => first | k_is | kit_is)
    (case l14 => first | k_is | kit_is)
    (case c14 => first | k_is | kit_is)
    (case k14 => first | k_is | kit_is)
    (case a15 => first | k_is | kit_is)
    (case l15 => first | k_is | kit_is)
    (case c15 => first | k_is | kit_is)
    (case k15 => first | k_is | kit_is)
    (case a16 => first | k_is | kit_is)
    (case l16 => first | k_is | kit_is)
    (case c16 => first | k_is | kit_is)
    (case k16 => first | k_is | kit_is)
    (case a17 => first | k_is | kit_is)
    (case l17 => first | k_is | kit_is)
    (case c17 => first | k_is | kit_is)
    (case k17 => first | k_is | kit_is)
    (case a18 => first | k_is | kit_is)
    (case l18 => first | k_is | kit_is)
    (case c18 => first | k_is | kit_is)
    (case k18 => first | k_is | kit_is)
    (case a19 => first | k_is | kit_is)
    (case l19 => first | k_is | kit_is)
    (case c19 => first | k_is | kit_is)
    (case k19 => first | k_is | kit_is)
end
