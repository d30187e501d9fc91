import PyProof.Rows.All
import Wide.All
import OpenK.AllK
import Wide.FinOn
import HandS.ForMost
import HandS.Exc
import HandS.TryOnly
import HandS.TryMany
import HandS.ExcOwn
import HandS.WordsExc
import HandS.CallSlots
import HandS.Wide
import HandS.WideMore
import HandS.TupAny
import HandS.TupMul
import HandS.Deep
import HandS.Lambda
import HandS.Dict
import PyProof.NeKinds
import HandS.IsInst
import HandS.TupLe
import KE.DataCmp
import HandS.Text
import HandS.Flow
import HandS.More
import HandS.Star
import PyProof.SeqIndex
import HandS.NoneIn
import HandS.Iter
import HandS.Comp
import HandS.ExcIs
import HandS.RaiseMore
import HandS.HeadHook4
import HandS.HeadWalk
import HandS.EndTab
import PyProof.ExcBaseAll.ValueError
import PyProof.ExcBaseAll.IndexError
import PyProof.ExcBaseAll.OverflowError
import PyProof.ExcBaseAll.ArithmeticError
import PyProof.ExcBaseAll.LookupError
import PyProof.ExcBaseAll.RuntimeError
import PyProof.ExcBaseAll.TypeError
import PyProof.ExcBaseAll.Exception
import PySem.Challenge.RW_openlimit_k17_choice_and_sequence
import Lean
import KE.KNestM
section
set_option Elab.async false
set_option linter.all false
set_option maxRecDepth 100000
set_option maxHeartbeats 4000000
/-! Values as plain data (Z), what they stand for over the abstract heap, results (R). -/
namespace Zy
open PySem PySem.Spec PyProof.Rows L2

inductive Z where
  | non | bl (b : Bool) | int (i : Int) | str (x : List Nat) | tup (xs : List Z) | rol (xs : List Z)
  | ref (n : Nat) | fn (k : Nat) | cl (k : Nat) | ty (n : String)
  /-- in a slot: the caught exception -/
  | ex
inductive ZO where
  | lst (xs : List Z) | xd (fs : List (Str × Z)) | dK (ks : List Key) (xs : List Z)
abbrev GH := List ZO
/-- exceptions: own class k, or a built-in one; the place of its own dict -/
inductive XC where
  | own (k : Nat) | blt (n : String)
  deriving DecidableEq
structure XR where
  cls : XC
  pay : Option Nat := none
inductive R (α : Type) where
  | ok (a : α) (G : GH) | exc (x : XR) (G : GH) | bad
def R.bind {α β : Type} : R α → (α → GH → R β) → R β
  | .ok a G, f => f a G
  | .exc x G, _ => .exc x G
  | .bad, _ => .bad
@[simp] theorem R.bind_ok {α β : Type} (a : α) (G : GH) (f : α → GH → R β) : (R.ok a G).bind f = f a G := rfl
@[simp] theorem R.bind_exc {α β : Type} (x : XR) (G : GH) (f : α → GH → R β) : (R.exc x G).bind f = .exc x G := rfl
@[simp] theorem R.bind_bad {α β : Type} (f : α → GH → R β) : R.bind .bad f = .bad := rfl

/-- the tuples and the locked things stay -/
structure Stay (H H' : Hp) : Prop where
  tup : ∀ a xs, Rd H a (.tup xs) → Rd H' a (.tup xs)
  frz : ∀ a o u, H a = some (.frz o u) → H' a = some (.frz o u)
  code : ∀ a b q, H a = some (LamX.CodeO b q) → H' a = some (LamX.CodeO b q)
theorem Stay.refl (H : Hp) : Stay H H := ⟨fun _ _ h => h, fun _ _ _ h => h, fun _ _ _ h => h⟩
theorem Stay.trans {H H1 H2 : Hp} (a : Stay H H1) (b : Stay H1 H2) : Stay H H2 := ⟨fun x xs h => b.tup x xs (a.tup x xs h), fun x o u h => b.frz x o u (a.frz x o u h), fun x o u h => b.code x o u (a.code x o u h)⟩
theorem Stay.seq {K : PySem.W.Frag} {H H' : Hp} (s : Stay H H') {a : Addr} {xs : List V} (h : SqT K H a xs) : SqT K H' a xs := by
  rcases h with h | h
  · exact .inl (s.tup _ _ h)
  · exact .inr h
theorem Stay.upd {H : Hp} {a : Addr} {o : HO} (h : ∀ u, H a = some u → (∀ xs, u ≠ .tup xs) ∧ (∀ ob w, u ≠ .frz ob w) ∧ ∀ b q, u ≠ LamX.CodeO b q) : Stay H (upd H a o) := by
  have ne : ∀ b u, H b = some u → ((∃ xs, u = .tup xs) ∨ (∃ ob w, u = .frz ob w) ∨ ∃ b q, u = LamX.CodeO b q) → b ≠ a := by
    rintro b u hb hu rfl
    obtain ⟨h1, h2, h3⟩ := h u hb
    rcases hu with ⟨xs, e⟩ | ⟨ob, w, e⟩ | ⟨ob, w, e⟩
    · exact h1 _ e
    · exact h2 _ _ e
    · exact h3 _ _ e
  refine ⟨fun b xs hb => ?_, fun b ob u hb => ?_, fun b ob u hb => ?_⟩
  · rcases hb with hb | ⟨ob, hb⟩
    · exact .inl (by rw [upd_ne (ne b _ hb (.inl ⟨_, rfl⟩))]; exact hb)
    · exact .inr ⟨ob, by rw [upd_ne (ne b _ hb (.inr (.inl ⟨_, _, rfl⟩)))]; exact hb⟩
  · rw [upd_ne (ne b _ hb (.inr (.inl ⟨_, _, rfl⟩)))]; exact hb
  · rw [upd_ne (ne b _ hb (.inr (.inr ⟨_, _, rfl⟩)))]; exact hb
theorem Stay.new {H : Hp} {a : Addr} {o : HO} (h : H a = none) : Stay H (L2.upd H a o) := Stay.upd fun u e => by rw [h] at e; cases e

structure Ext (ρ : List Addr) (H : Hp) (ρ' : List Addr) (H' : Hp) : Prop where
  pre : ρ <+: ρ'
  st : Stay H H'
theorem Ext.refl (ρ : List Addr) (H : Hp) : Ext ρ H ρ H := ⟨List.prefix_refl _, Stay.refl _⟩
theorem Ext.trans {ρ ρ1 ρ2 : List Addr} {H H1 H2 : Hp} (a : Ext ρ H ρ1 H1) (b : Ext ρ1 H1 ρ2 H2) : Ext ρ H ρ2 H2 := ⟨a.pre.trans b.pre, a.st.trans b.st⟩
theorem pre_get {ρ ρ' : List Addr} (h : ρ <+: ρ') {n : Nat} {a : Addr} (e : ρ[n]? = some a) : ρ'[n]? = some a := by
  obtain ⟨t, rfl⟩ := h
  have hn : n < ρ.length := (List.getElem?_eq_some_iff.mp e).1
  rw [List.getElem?_append_left hn]; exact e

/-- what changes from place to place: the caught exception (or the lambda handed in), its dict, the dict's place; what holds there and goes on to hold -/
structure Dy where
  xa : Addr := 0
  xd : Option Addr := none
  xp : Option Nat := none
  inv : List Addr → Hp → Prop := fun _ _ => True
  mono : ∀ {ρ H ρ' H'}, Ext ρ H ρ' H' → inv ρ H → inv ρ' H' := by intros; trivial
/-- the text's names for functions and classes -/
structure C where
  K : PySem.W.Frag
  fa : Nat → Addr
  ca : Nat → Addr
  /-- the tables of code objects, with the name that each one's code objects bear -/
  T : List (Addr × Str) := []
  dy : Dy := {}
def C.at_ (c : C) (D : Dy) : C := { c with dy := D }
def clsV (c : C) : XC → Value
  | .own k => .ref (c.ca k)
  | .blt n => .type n

section
variable (c : C) (ρ : List Addr) (H : Hp)
/-- a list that is read, never written -/
def RoL (H : Hp) (a : Addr) (vs : List V) : Prop := (∃ o, H a = some (.frz o (.lst vs))) ∨
    ∃ (o : Obj) (its : Array Value) (n : Nat), c.K.lookup a = some o ∧ o.cls = .type "list" ∧ o.dict = none ∧ o.data = .seq its n ∧ its.size ≤ sizeLine ∧ Vals vs its.toList
mutual
def RZ : Z → V → Prop
  | .non, v => v = .non
  | .bl b, v => v = .bl b
  | .int i, v => v = .int i
  | .str x, v => x.length ≤ sizeLine ∧ v = .str ⟨x.toArray⟩
  | .tup xs, v => ∃ a vs, v = .ref a ∧ SqT c.K H a vs ∧ RZs xs vs
  | .rol xs, v => ∃ a vs, v = .ref a ∧ RoL c H a vs ∧ RZs xs vs
  | .ref n, v => ∃ a, ρ[n]? = some a ∧ v = .ref a
  | .fn k, v => v = .ref (c.fa k)
  | .cl k, v => v = .ref (c.ca k)
  | .ty n, v => v = .ty n
  | .ex, _ => False
def RZs : List Z → List V → Prop
  | [], vs => vs = []
  | z :: zs, vs => ∃ v r, vs = v :: r ∧ RZ z v ∧ RZs zs r
end
end

theorem Stay.ro {c : C} {H H' : Hp} (s : Stay H H') {a : Addr} {xs : List V} (h : RoL c H a xs) : RoL c H' a xs := by
  rcases h with ⟨o, h⟩ | h
  · exact .inl ⟨o, s.frz _ _ _ h⟩
  · exact .inr h
section
variable {c : C} {ρ ρ' : List Addr} {H H' : Hp}
mutual
theorem RZ.mono (e : Ext ρ H ρ' H') : ∀ {z : Z} {v : V}, RZ c ρ H z v → RZ c ρ' H' z v
  | .non, v, h => by unfold RZ at h ⊢; exact h
  | .bl b, v, h => by unfold RZ at h ⊢; exact h
  | .int i, v, h => by unfold RZ at h ⊢; exact h
  | .str x, v, h => by unfold RZ at h ⊢; exact h
  | .tup xs, v, h => by
    unfold RZ at h ⊢
    obtain ⟨a, vs, h1, h2, h3⟩ := h
    exact ⟨a, vs, h1, e.st.seq h2, RZs.mono e h3⟩
  | .rol xs, v, h => by
    unfold RZ at h ⊢
    obtain ⟨a, vs, h1, h2, h3⟩ := h
    exact ⟨a, vs, h1, e.st.ro h2, RZs.mono e h3⟩
  | .ref n, v, h => by
    unfold RZ at h ⊢
    obtain ⟨a, h1, h2⟩ := h
    exact ⟨a, pre_get e.pre h1, h2⟩
  | .fn k, v, h => by unfold RZ at h ⊢; exact h
  | .cl k, v, h => by unfold RZ at h ⊢; exact h
  | .ty n, v, h => by unfold RZ at h ⊢; exact h
  | .ex, v, h => by unfold RZ at h; exact h.elim
theorem RZs.mono (e : Ext ρ H ρ' H') : ∀ {zs : List Z} {vs : List V}, RZs c ρ H zs vs → RZs c ρ' H' zs vs
  | [], vs, h => by unfold RZs at h ⊢; exact h
  | z :: zs, vs, h => by
    unfold RZs at h ⊢
    obtain ⟨v, r, h1, h2, h3⟩ := h
    exact ⟨v, r, h1, RZ.mono e h2, RZs.mono e h3⟩
end
mutual
theorem RZ.xa {D : Dy} : ∀ {z : Z} {v : V}, RZ c ρ H z v → RZ (c.at_ D) ρ H z v
  | .non, v, h => by unfold RZ at h ⊢; exact h
  | .bl b, v, h => by unfold RZ at h ⊢; exact h
  | .int i, v, h => by unfold RZ at h ⊢; exact h
  | .str x, v, h => by unfold RZ at h ⊢; exact h
  | .tup xs, v, h => by
    unfold RZ at h ⊢
    obtain ⟨a, vs, h1, h2, h3⟩ := h
    exact ⟨a, vs, h1, h2, RZs.xa h3⟩
  | .rol xs, v, h => by
    unfold RZ at h ⊢
    obtain ⟨a, vs, h1, h2, h3⟩ := h
    exact ⟨a, vs, h1, h2, RZs.xa h3⟩
  | .ref n, v, h => by unfold RZ at h ⊢; exact h
  | .fn k, v, h => by unfold RZ at h ⊢; exact h
  | .cl k, v, h => by unfold RZ at h ⊢; exact h
  | .ty n, v, h => by unfold RZ at h ⊢; exact h
  | .ex, v, h => by unfold RZ at h; exact h.elim
theorem RZs.xa {D : Dy} : ∀ {zs : List Z} {vs : List V}, RZs c ρ H zs vs → RZs (c.at_ D) ρ H zs vs
  | [], vs, h => by unfold RZs at h ⊢; exact h
  | z :: zs, vs, h => by
    unfold RZs at h ⊢
    obtain ⟨v, r, h1, h2, h3⟩ := h
    exact ⟨v, r, h1, RZ.xa h2, RZs.xa h3⟩
end
theorem RZs.nil : RZs c ρ H [] [] := by unfold RZs; rfl
theorem RZs.cons {z : Z} {v : V} {zs : List Z} {vs : List V} (h : RZ c ρ H z v) (t : RZs c ρ H zs vs) : RZs c ρ H (z :: zs) (v :: vs) := by unfold RZs; exact ⟨v, vs, rfl, h, t⟩
theorem RZs.length : ∀ {zs : List Z} {vs : List V}, RZs c ρ H zs vs → zs.length = vs.length
  | [], vs, h => by unfold RZs at h; rw [h]; rfl
  | z :: zs, vs, h => by
    unfold RZs at h
    obtain ⟨v, r, rfl, h2, h3⟩ := h
    simp [RZs.length h3]
theorem RZs.get : ∀ {zs : List Z} {vs : List V} {i : Nat} {z : Z}, RZs c ρ H zs vs → zs[i]? = some z → ∃ v, vs[i]? = some v ∧ RZ c ρ H z v
  | [], vs, i, z, h, e => by simp at e
  | z0 :: zs, vs, 0, z, h, e => by
    unfold RZs at h
    obtain ⟨v, r, rfl, h2, h3⟩ := h
    simp at e; subst e
    exact ⟨v, rfl, h2⟩
  | z0 :: zs, vs, i + 1, z, h, e => by
    unfold RZs at h
    obtain ⟨v, r, rfl, h2, h3⟩ := h
    obtain ⟨w, h4, h5⟩ := RZs.get (i := i) h3 (by simpa using e)
    exact ⟨w, by simpa using h4, h5⟩
theorem RZs.append : ∀ {zs : List Z} {vs : List V} {zs' : List Z} {vs' : List V}, RZs c ρ H zs vs → RZs c ρ H zs' vs' → RZs c ρ H (zs ++ zs') (vs ++ vs')
  | [], vs, zs', vs', h, h' => by unfold RZs at h; subst h; exact h'
  | z :: zs, vs, zs', vs', h, h' => by
    unfold RZs at h
    obtain ⟨v, r, rfl, h2, h3⟩ := h
    exact .cons h2 (RZs.append h3 h')
theorem RZs.take : ∀ {zs : List Z} {vs : List V} (n : Nat), RZs c ρ H zs vs → RZs c ρ H (zs.take n) (vs.take n)
  | zs, vs, 0, h => by simpa using RZs.nil
  | [], vs, n + 1, h => by unfold RZs at h; subst h; simpa using RZs.nil
  | z :: zs, vs, n + 1, h => by
    unfold RZs at h
    obtain ⟨v, r, rfl, h2, h3⟩ := h
    exact .cons h2 (RZs.take n h3)
theorem RZs.drop : ∀ {zs : List Z} {vs : List V} (n : Nat), RZs c ρ H zs vs → RZs c ρ H (zs.drop n) (vs.drop n)
  | zs, vs, 0, h => h
  | [], vs, n + 1, h => by unfold RZs at h; subst h; simpa using RZs.nil
  | z :: zs, vs, n + 1, h => by
    unfold RZs at h
    obtain ⟨v, r, rfl, h2, h3⟩ := h
    exact RZs.drop n h3
theorem RZs.set : ∀ {zs : List Z} {vs : List V} {z : Z} {v : V} (i : Nat), RZs c ρ H zs vs → RZ c ρ H z v → RZs c ρ H (zs.set i z) (vs.set i v)
  | [], vs, z, v, i, h, r => by unfold RZs at h; subst h; exact RZs.nil
  | z0 :: zs, vs, z, v, 0, h, r => by
    unfold RZs at h
    obtain ⟨v, r', rfl, h2, h3⟩ := h
    exact .cons r h3
  | z0 :: zs, vs, z, v, i + 1, h, r => by
    unfold RZs at h
    obtain ⟨v, r', rfl, h2, h3⟩ := h
    exact .cons h2 (RZs.set i h3 r)
theorem RZs.reverse : ∀ {zs : List Z} {vs : List V}, RZs c ρ H zs vs → RZs c ρ H zs.reverse vs.reverse
  | [], vs, h => by unfold RZs at h; subst h; exact RZs.nil
  | z :: zs, vs, h => by
    unfold RZs at h
    obtain ⟨v, r, rfl, h2, h3⟩ := h
    rw [List.reverse_cons, List.reverse_cons]
    exact (RZs.reverse h3).append (.cons h2 .nil)
theorem RZs.eraseIdx : ∀ {zs : List Z} {vs : List V} (i : Nat), RZs c ρ H zs vs → RZs c ρ H (zs.eraseIdx i) (vs.eraseIdx i)
  | [], vs, i, h => by unfold RZs at h; subst h; exact RZs.nil
  | z :: zs, vs, 0, h => by
    unfold RZs at h
    obtain ⟨v, r, rfl, h2, h3⟩ := h
    exact h3
  | z :: zs, vs, i + 1, h => by
    unfold RZs at h
    obtain ⟨v, r, rfl, h2, h3⟩ := h
    exact .cons h2 (RZs.eraseIdx i h3)
theorem RZs.dropLast : ∀ {zs : List Z} {vs : List V}, RZs c ρ H zs vs → RZs c ρ H zs.dropLast vs.dropLast := fun {zs vs} h => by
  rw [List.dropLast_eq_take, List.dropLast_eq_take, h.length]; exact h.take _
theorem RZs.rep {zs : List Z} {vs : List V} (h : RZs c ρ H zs vs) : ∀ k : Nat, RZs c ρ H (List.replicate k zs).flatten (List.replicate k vs).flatten
  | 0 => .nil
  | k + 1 => by
    rw [List.replicate_succ, List.replicate_succ, List.flatten_cons, List.flatten_cons]
    exact h.append (RZs.rep h k)
end

/-- an object of the plain heap -/
def RO (c : C) (ρ : List Addr) (H : Hp) : ZO → Option HO → Prop
  | .lst zs, h => ∃ vs, h = some (.lst vs) ∧ RZs c ρ H zs vs
  | .xd fs, h => ∃ vs, h = some (.xd (fs.map (·.1) |>.zip vs)) ∧ RZs c ρ H (fs.map (·.2)) vs
  | .dK ks zs, h => ∃ vs, h = some (.dK (ks.zip vs)) ∧ RZs c ρ H zs vs ∧ ks.length = zs.length
structure Rel (c : C) (ρ : List Addr) (H : Hp) (G : GH) : Prop where
  nd : ρ.Nodup
  len : ρ.length = G.length
  ob : ∀ (n : Nat) (a : Addr) (o : ZO), ρ[n]? = some a → G[n]? = some o → RO c ρ H o (H a)
  tabs : LamX.Tabs c.T H
  pay : ∀ m, c.dy.xp = some m → ∃ b, ρ[m]? = some b ∧ c.dy.xd = some b
  iv : c.dy.inv ρ H
theorem RO.mono {c : C} {ρ ρ' : List Addr} {H H' : Hp} {o : ZO} {h : Option HO} (e : Ext ρ H ρ' H') (r : RO c ρ H o h) : RO c ρ' H' o h := by
  cases o with
  | lst zs => obtain ⟨vs, h1, h2⟩ := r; exact ⟨vs, h1, h2.mono e⟩
  | xd fs => obtain ⟨vs, h1, h2⟩ := r; exact ⟨vs, h1, h2.mono e⟩
  | dK ks zs => obtain ⟨vs, h1, h2, h3⟩ := r; exact ⟨vs, h1, h2.mono e, h3⟩
theorem RO.xa {c : C} {ρ : List Addr} {H : Hp} {o : ZO} {h : Option HO} {D : Dy} (r : RO c ρ H o h) : RO (c.at_ D) ρ H o h := by
  cases o with
  | lst zs => obtain ⟨vs, h1, h2⟩ := r; exact ⟨vs, h1, h2.xa⟩
  | xd fs => obtain ⟨vs, h1, h2⟩ := r; exact ⟨vs, h1, h2.xa⟩
  | dK ks zs => obtain ⟨vs, h1, h2, h3⟩ := r; exact ⟨vs, h1, h2.xa, h3⟩
theorem Rel.xa {c : C} {ρ : List Addr} {H : Hp} {G : GH} {D : Dy} (r : Rel c ρ H G) (h : ∀ m, D.xp = some m → ∃ b, ρ[m]? = some b ∧ D.xd = some b) (hi : D.inv ρ H) : Rel (c.at_ D) ρ H G := ⟨r.nd, r.len, fun n b o h1 h2 => (r.ob n b o h1 h2).xa, r.tabs, h, hi⟩
theorem RO.trk {c : C} {ρ : List Addr} {H : Hp} {o : ZO} {h : Option HO} (r : RO c ρ H o h) : ∃ u, h = some u ∧ (∀ xs, u ≠ .tup xs) ∧ (∀ ob w, u ≠ .frz ob w) ∧ (∀ ps, u ≠ .tbl ps) ∧ ∀ a q, u ≠ LamX.CodeO a q := by
  cases o with
  | lst zs => obtain ⟨vs, h1, h2⟩ := r; exact ⟨_, h1, (fun _ q => nomatch q), (fun _ _ q => nomatch q), (fun _ q => nomatch q), (fun _ _ q => by unfold LamX.CodeO at q; cases q)⟩
  | xd fs => obtain ⟨vs, h1, h2⟩ := r; exact ⟨_, h1, (fun _ q => nomatch q), (fun _ _ q => nomatch q), (fun _ q => nomatch q), (fun _ _ q => by unfold LamX.CodeO at q; cases q)⟩
  | dK ks zs => obtain ⟨vs, h1, h2⟩ := r; exact ⟨_, h1, (fun _ q => nomatch q), (fun _ _ q => nomatch q), (fun _ q => nomatch q), (fun _ _ q => by unfold LamX.CodeO at q; cases q)⟩
theorem tabs_new {T : List (Addr × Str)} {H : Hp} {p : Addr} {o : HO} (t : LamX.Tabs T H) (hp : H p = none) : LamX.Tabs T (L2.upd H p o) :=
  t.ext fun b u e => by rw [upd_ne (fun q => by rw [q, hp] at e; cases e)]; exact e
theorem tabs_put {T : List (Addr × Str)} {H : Hp} {a : Addr} {o u : HO} (t : LamX.Tabs T H) (h : H a = some u) (h1 : ∀ ps, u ≠ .tbl ps) (h2 : ∀ b q, u ≠ LamX.CodeO b q) : LamX.Tabs T (L2.upd H a o) := fun p hp => by
  obtain ⟨ps, k1, k2, k3⟩ := t p hp
  refine ⟨ps, ?_, k2, fun pos cv hc => ?_⟩
  · rw [upd_ne (fun q => by rw [q, h] at k1; exact h1 _ (Option.some.inj k1))]; exact k1
  · obtain ⟨c, e1, e2⟩ := k3 pos cv hc
    exact ⟨c, e1, by rw [upd_ne (fun q => by rw [q, h] at e2; exact h2 _ _ (Option.some.inj e2))]; exact e2⟩
section
variable {c : C} {ρ : List Addr} {H : Hp} {G : GH}
theorem Rel.at (r : Rel c ρ H G) {n : Nat} {o : ZO} (e : G[n]? = some o) : ∃ a, ρ[n]? = some a ∧ RO c ρ H o (H a) := by
  have hn : n < G.length := (List.getElem?_eq_some_iff.mp e).1
  have hn' : n < ρ.length := by rw [r.len]; exact hn
  exact ⟨ρ[n], List.getElem?_eq_getElem hn', r.ob n _ o (List.getElem?_eq_getElem hn') e⟩
theorem Rel.there (r : Rel c ρ H G) {n : Nat} {a : Addr} (e : ρ[n]? = some a) : ∃ o, G[n]? = some o ∧ RO c ρ H o (H a) := by
  have hn : n < ρ.length := (List.getElem?_eq_some_iff.mp e).1
  have hn' : n < G.length := by rw [← r.len]; exact hn
  exact ⟨G[n], List.getElem?_eq_getElem hn', r.ob n a _ e (List.getElem?_eq_getElem hn')⟩
theorem Rel.known (r : Rel c ρ H G) {a : Addr} (h : a ∈ ρ) : ∃ u, H a = some u := by
  obtain ⟨n, hn⟩ := List.getElem?_of_mem h
  obtain ⟨o, _, ro⟩ := r.there hn
  obtain ⟨u, h1, _⟩ := ro.trk
  exact ⟨u, h1⟩
/-- a thing that the plain heap does not tell is laid -/
theorem Rel.aside (r : Rel c ρ H G) {p : Addr} {o : HO} (hp : H p = none) : Rel c ρ (L2.upd H p o) G ∧ Ext ρ H ρ (L2.upd H p o) := by
  have e : Ext ρ H ρ (L2.upd H p o) := ⟨List.prefix_refl _, .new hp⟩
  refine ⟨⟨r.nd, r.len, fun n a z h1 h2 => ?_, tabs_new r.tabs hp, r.pay, c.dy.mono e r.iv⟩, e⟩
  have ro := r.ob n a z h1 h2
  obtain ⟨u, h3, _⟩ := ro.trk
  have ne : a ≠ p := fun q => by rw [q, hp] at h3; cases h3
  rw [upd_ne ne]; exact ro.mono e
/-- a new object -/
theorem Rel.new (r : Rel c ρ H G) {p : Addr} {o : HO} {z : ZO} (hp : H p = none) (ro : RO c ρ H z (Option.some o)) : Rel c (ρ ++ [p]) (L2.upd H p o) (G ++ [z]) ∧ Ext ρ H (ρ ++ [p]) (L2.upd H p o) := by
  have e : Ext ρ H (ρ ++ [p]) (L2.upd H p o) := ⟨List.prefix_append _ _, .new hp⟩
  have np : p ∉ ρ := fun h => by
    obtain ⟨u, h1⟩ := r.known h
    rw [hp] at h1; cases h1
  refine ⟨⟨?_, by simp [r.len], fun n a zo h1 h2 => ?_, tabs_new r.tabs hp, fun m hm => let ⟨b, h1, h2⟩ := r.pay m hm; ⟨b, pre_get e.pre h1, h2⟩, c.dy.mono e r.iv⟩, e⟩
  · rw [List.nodup_append]
    refine ⟨r.nd, by simp, ?_⟩
    intro a ha b hb q
    have : b = p := by simpa using hb
    subst this; subst q; exact np ha
  · by_cases hn : n < ρ.length
    · rw [List.getElem?_append_left hn] at h1
      rw [List.getElem?_append_left (by rw [← r.len]; exact hn)] at h2
      have q := r.ob n a zo h1 h2
      have ne : a ≠ p := fun z => np (z ▸ List.mem_of_getElem? h1)
      rw [upd_ne ne]; exact q.mono e
    · have hn2 : n = ρ.length := by
        have := (List.getElem?_eq_some_iff.mp h1).1
        simp at this; omega
      subst hn2
      rw [List.getElem?_append_right (Nat.le_refl _)] at h1
      rw [List.getElem?_append_right (by rw [r.len]; exact Nat.le_refl _)] at h2
      simp at h1 h2
      subst h1
      rw [r.len] at h2
      simp at h2; subst h2
      rw [upd_same]; exact ro.mono e
theorem get_new (ρ : List Addr) (p : Addr) : (ρ ++ [p])[ρ.length]? = some p := by simp
/-- an object is changed -/
theorem Rel.put (r : Rel c ρ H G) {n : Nat} {a : Addr} {z : ZO} {o : HO} (e : ρ[n]? = some a) (ro : RO c ρ H z (Option.some o)) : Rel c ρ (L2.upd H a o) (G.set n z) ∧ Ext ρ H ρ (L2.upd H a o) := by
  obtain ⟨zo, h1, ro1⟩ := r.there e
  obtain ⟨u, h3, h4, h5, h8, h9⟩ := ro1.trk
  have ex : Ext ρ H ρ (L2.upd H a o) := ⟨List.prefix_refl _, Stay.upd fun w hw => by rw [h3] at hw; cases hw; exact ⟨h4, h5, h9⟩⟩
  refine ⟨⟨r.nd, by simp [r.len], fun m b zo' h6 h7 => ?_, tabs_put r.tabs h3 h8 h9, r.pay, c.dy.mono ex r.iv⟩, ex⟩
  by_cases hm : m = n
  · subst hm
    rw [e] at h6; cases h6
    have hl : m < G.length := (List.getElem?_eq_some_iff.mp h1).1
    rw [List.getElem?_set_self hl] at h7; cases h7
    rw [upd_same]; exact ro.mono ex
  · rw [List.getElem?_set_ne (Ne.symm hm)] at h7
    have q := r.ob m b zo' h6 h7
    have ne : b ≠ a := fun z => hm (by
      subst z
      have l1 := (List.getElem?_eq_some_iff.mp h6)
      have l2 := (List.getElem?_eq_some_iff.mp e)
      obtain ⟨p1, q1⟩ := l1
      obtain ⟨p2, q2⟩ := l2
      exact (List.getElem_inj r.nd).mp (q1.trans q2.symm))
    rw [upd_ne ne]; exact q.mono ex
end

/-- the exception that stands for x -/
def RX (c : C) (ρ : List Addr) (x : XR) (cls : Value) (d : Option Addr) : Prop :=
  cls = clsV c x.cls ∧ (match x.pay with | none => d = none | some n => ∃ a, ρ[n]? = some a ∧ d = some a)
/-- what a result asks of what follows -/
def RQ {α β : Type} (c : C) (rel : List Addr → Hp → α → β → Prop) (ρ : List Addr) (H : Hp) (r : R α) (Q : β → Hp → Prop) (W : Value → Option Addr → Hp → Prop) : Prop :=
  match r with
  | .bad => False
  | .ok z G => ∀ ρ' H' v, Ext ρ H ρ' H' → Rel c ρ' H' G → rel ρ' H' z v → Q v H'
  | .exc x G => ∀ ρ' H' cls d, Ext ρ H ρ' H' → Rel c ρ' H' G → RX c ρ' x cls d → W cls d H'
theorem RQ.bind {α β γ δ : Type} {c : C} {rel : List Addr → Hp → α → β → Prop} {rel' : List Addr → Hp → γ → δ → Prop} {ρ : List Addr} {H : Hp} {r : R α} {f : α → GH → R γ} {Q : δ → Hp → Prop} {W : Value → Option Addr → Hp → Prop}
    (h : RQ c rel' ρ H (r.bind f) Q W) : RQ c rel ρ H r (fun v H1 => ∃ ρ1 G1 z, Ext ρ H ρ1 H1 ∧ Rel c ρ1 H1 G1 ∧ rel ρ1 H1 z v ∧ RQ c rel' ρ1 H1 (f z G1) Q W) W := by
  cases r with
  | bad => exact h
  | exc x G => exact h
  | ok z G =>
    intro ρ1 H1 v e r1 rz
    refine ⟨ρ1, G, z, e, r1, rz, ?_⟩
    have h' : RQ c rel' ρ H (f z G) Q W := h
    cases hf : f z G with
    | bad => rw [hf] at h'; exact h'
    | ok z' G' => rw [hf] at h'; exact fun ρ' H' v' e' => h' ρ' H' v' (e.trans e')
    | exc x' G' => rw [hf] at h'; exact fun ρ' H' v' d e' => h' ρ' H' v' d (e.trans e')
theorem RQ.imp {α β : Type} {c : C} {rel : List Addr → Hp → α → β → Prop} {ρ : List Addr} {H : Hp} {r : R α} {Q Q' : β → Hp → Prop} {W W' : Value → Option Addr → Hp → Prop} (h : RQ c rel ρ H r Q W) (hq : ∀ v H, Q v H → Q' v H) (hw : ∀ a b H, W a b H → W' a b H) :
    RQ c rel ρ H r Q' W' := by
  cases r with
  | bad => exact h
  | ok z G => exact fun ρ' H' v e r1 rz => hq _ _ (h ρ' H' v e r1 rz)
  | exc x G => exact fun ρ' H' cl d e r1 rz => hw _ _ _ (h ρ' H' cl d e r1 rz)
end Zy
end
section
set_option Elab.async false
set_option linter.all false
set_option maxRecDepth 100000
set_option maxHeartbeats 4000000
/-! == of plain data -/
namespace Zy
open PySem PySem.Spec PyProof.Rows L2

inductive Kd where
  | non | bl (b : Bool) | int (i : Int) | str (x : List Nat) | tup (xs : List Z) | lst (xs : List Z)
/-- the list at a place -/
def lstAt (G : GH) (n : Nat) : Option (List Z) := match G[n]? with
  | some (.lst xs) => some xs
  | _ => none
theorem lstAt_eq {G : GH} {n : Nat} {xs : List Z} : lstAt G n = some xs ↔ G[n]? = some (.lst xs) := by
  unfold lstAt
  constructor
  · intro h
    split at h
    · rename_i ys hy; cases h; exact hy
    · cases h
  · intro h; rw [h]
def kd (G : GH) : Z → Option Kd
  | .non => some .non
  | .bl b => some (.bl b)
  | .int i => some (.int i)
  | .str x => some (.str x)
  | .tup xs => some (.tup xs)
  | .rol xs => some (.lst xs)
  | .ref n => (lstAt G n).map .lst
  | _ => none
def zall (f : Z → Z → Option Bool) : List Z → List Z → Option Bool
  | [], [] => some true
  | x :: xs, y :: ys => match f x y, zall f xs ys with
    | some a, some b => some (a && b)
    | _, _ => none
  | [], _ :: _ => some false
  | _ :: _, [] => some false
def keq (f : Z → Z → Option Bool) : Kd → Kd → Option Bool
  | .non, .non => some true
  | .bl a, .bl b => some (a == b)
  | .bl a, .int j => some ((if a then 1 else 0) == j)
  | .int i, .bl b => some (i == (if b then 1 else 0))
  | .int i, .int j => some (i == j)
  | .str x, .str y => some (x == y)
  | .tup xs, .tup ys => zall f xs ys
  | .lst xs, .lst ys => zall f xs ys
  | _, _ => some false
def zeq : Nat → GH → Z → Z → Option Bool
  | 0, _, _, _ => none
  | n + 1, G, x, y => match kd G x, kd G y with
    | some a, some b => keq (zeq n G) a b
    | _, _ => none
theorem range_all_succ (e : Nat → Bool) (n : Nat) : (List.range (n + 1)).all e = (e 0 && (List.range n).all fun j => e (j + 1)) := by
  rw [List.range_succ_eq_map, List.all_cons, List.all_map]; rfl
theorem zall_spec {f : Z → Z → Option Bool} : ∀ {xs ys : List Z} {r : Bool}, zall f xs ys = some r →
    ∃ e : Nat → Bool, (∀ (j : Nat) x y, xs[j]? = some x → ys[j]? = some y → f x y = some (e j)) ∧ r = ((List.range (min xs.length ys.length)).all e && xs.length == ys.length)
  | [], [], r, h => ⟨fun _ => true, fun j x y h1 => by simp at h1, by simpa [zall] using h.symm⟩
  | x :: xs, [], r, h => ⟨fun _ => true, fun j x y h1 h2 => by simp at h2, by simpa [zall] using h.symm⟩
  | [], y :: ys, r, h => ⟨fun _ => true, fun j x y h1 h2 => by simp at h1, by simpa [zall] using h.symm⟩
  | x :: xs, y :: ys, r, h => by
    unfold zall at h
    cases e1 : f x y with
    | none => rw [e1] at h; cases h
    | some a =>
      cases e2 : zall f xs ys with
      | none => rw [e1, e2] at h; cases h
      | some b =>
        rw [e1, e2] at h
        have h' : some (a && b) = some r := h
        cases h'
        obtain ⟨e, h1, h2⟩ := zall_spec e2
        refine ⟨fun j => match j with | 0 => a | j + 1 => e j, fun j x' y' g1 g2 => ?_, ?_⟩
        · cases j with
          | zero => simp at g1 g2; subst g1; subst g2; exact e1
          | succ j => exact h1 j x' y' (by simpa using g1) (by simpa using g2)
        · rw [h2, List.length_cons, List.length_cons, Nat.succ_min_succ, range_all_succ]
          simp [Bool.and_assoc]

/-- the value that is of the kind k -/
def KU (c : C) (ρ : List Addr) (H : Hp) (h : Heap) : Kd → Value → Prop
  | .non, u => u = .none
  | .bl b, u => u = .bool b
  | .int i, u => ∃ t, u = .int i t
  | .str x, u => ∃ t, u = .str ⟨x.toArray⟩ t
  | .tup xs, u => ∃ a vs us, u = .ref a ∧ RZs c ρ H xs vs ∧ Vals vs us ∧ IsTup h a us.toArray
  | .lst xs, u => ∃ a vs us, u = .ref a ∧ RZs c ρ H xs vs ∧ Vals vs us ∧ h.IsList a us.toArray
section
variable {X : Cx} {pins : List (Addr × Obj)} {σ : L2.St} {H : Hp} {s : Shared} {c : C} {ρ : List Addr} {G : GH}
theorem RoL.seq {a : Addr} {vs : List V} (h : RoL c H a vs) : SqL c.K H a vs := by
  rcases h with ⟨o, h⟩ | h
  · exact .inl (.inr ⟨o, h⟩)
  · exact .inr h
/-- a list that is read -/
def rdl (G : GH) : Z → Option (List Z)
  | .ref n => lstAt G n
  | .rol xs => some xs
  | _ => none
theorem rdl_sound (R : Rel c ρ H G) {z : Z} {v : V} (r : RZ c ρ H z v) {xs : List Z} (e : rdl G z = some xs) : ∃ a vs, v = .ref a ∧ SqL c.K H a vs ∧ RZs c ρ H xs vs := by
  cases z with
  | ref n =>
    unfold RZ at r
    obtain ⟨a, h1, h2⟩ := r
    obtain ⟨b, g1, vs, g2, g3⟩ := R.at (lstAt_eq.mp (show lstAt G n = some xs from e))
    rw [h1] at g1; cases g1
    exact ⟨a, vs, h2, SqL.of g2, g3⟩
  | rol ys =>
    unfold rdl at e
    unfold RZ at r
    cases e
    obtain ⟨a, vs, h1, h2, h3⟩ := r
    exact ⟨a, vs, h1, h2.seq, h3⟩
  | _ => unfold rdl at e; cases e
theorem kd_ref {n : Nat} {k : Kd} (e : kd G (.ref n) = some k) : ∃ xs, k = .lst xs ∧ rdl G (.ref n) = some xs := by
  have e' : (lstAt G n).map Kd.lst = some k := e
  cases h : lstAt G n with
  | none => rw [h] at e'; cases e'
  | some ys => rw [h] at e'; cases e'; exact ⟨ys, rfl, h⟩
theorem kd_sound (hK : c.K = X.K) (I : Inv X pins σ H s) (R : Rel c ρ H G) {z : Z} {v : V} {u : Value} {k : Kd} (r : RZ c ρ H z v) (rv : RelV v u) (e : kd G z = some k) : KU c ρ H s.heap k u := by
  cases z with
  | non => cases e; unfold RZ at r; subst r; exact rv
  | bl b => cases e; unfold RZ at r; subst r; exact rv
  | int i => cases e; unfold RZ at r; subst r; exact rv
  | str x => cases e; unfold RZ at r; obtain ⟨_, rfl⟩ := r; exact rv
  | tup xs =>
    cases e
    unfold RZ at r
    obtain ⟨a, vs, rfl, h2, h3⟩ := r
    obtain ⟨us, g1, g2, _⟩ := I.tuple (hK ▸ h2)
    exact ⟨a, vs, us, rv, h3, g1, g2⟩
  | rol xs =>
    cases e
    unfold RZ at r
    obtain ⟨a, vs, rfl, h2, h3⟩ := r
    obtain ⟨us, g1, g2, _⟩ := I.list (hK ▸ h2.seq)
    exact ⟨a, vs, us, rv, h3, g1, g2.isList⟩
  | ref n =>
    obtain ⟨xs, rfl, e'⟩ := kd_ref e
    obtain ⟨a, vs, rfl, h2, h3⟩ := rdl_sound R r e'
    obtain ⟨us, g1, g2, _⟩ := I.list (hK ▸ h2)
    exact ⟨a, vs, us, rv, h3, g1, g2.isList⟩
  | _ => cases e
theorem istup_inj {h : Heap} {a : Addr} {us ws : List Value} (x : IsTup h a us.toArray) (y : IsTup h a ws.toArray) : us = ws := by
  obtain ⟨o, e, _, n, d⟩ := x
  obtain ⟨o', e', _, n', d'⟩ := y
  rw [e] at e'; cases e'
  rw [d] at d'
  injection d' with d1 _
  simpa using congrArg Array.toList d1
theorem islist_inj {h : Heap} {a : Addr} {us ws : List Value} (x : h.IsList a us.toArray) (y : h.IsList a ws.toArray) : us = ws := by
  obtain ⟨o, e, _, n, d⟩ := x
  obtain ⟨o', e', _, n', d'⟩ := y
  rw [e] at e'; cases e'
  rw [d] at d'
  injection d' with d1 _
  simpa using congrArg Array.toList d1
/-- one object, two readings -/
theorem zeq_same (hK : c.K = X.K) (I : Inv X pins σ H s) (R : Rel c ρ H G) : ∀ (n : Nat) {x y : Z} {v w : V} {u : Value} {r : Bool}, zeq n G x y = some r → RZ c ρ H x v → RZ c ρ H y w → RelV v u → RelV w u → r = true
  | 0, _, _, _, _, _, _, h, _, _, _, _ => by cases h
  | n + 1, x, y, v, w, u, r, h, rx, ry, rv, rw_ => by
    unfold zeq at h
    cases ex : kd G x with
    | none => rw [ex] at h; cases h
    | some a =>
      cases ey : kd G y with
      | none => rw [ex, ey] at h; cases h
      | some b =>
        rw [ex, ey] at h
        have h' : keq (zeq n G) a b = some r := h
        have ka := kd_sound hK I R rx rv ex
        have kb := kd_sound hK I R ry rw_ ey
        have items : ∀ {xs ys : List Z} {vs ws : List V} {us : List Value}, zall (zeq n G) xs ys = some r → RZs c ρ H xs vs → RZs c ρ H ys ws → Vals vs us → Vals ws us → r = true := by
          intro xs ys vs ws us hz h1 h2 h3 h4
          have e2 : vs = ws := Vals.inj h3 h4
          subst e2
          obtain ⟨e, g1, g2⟩ := zall_spec hz
          rw [g2]
          have hl : xs.length = ys.length := h1.length.trans h2.length.symm
          simp only [hl, Nat.min_self, beq_self_eq_true, Bool.and_true, List.all_eq_true, List.mem_range]
          intro j hj
          have j1 : j < xs.length := by omega
          have q1 : xs[j]? = some xs[j] := List.getElem?_eq_getElem j1
          have q2 : ys[j]? = some ys[j] := List.getElem?_eq_getElem hj
          obtain ⟨v1, p1, p2⟩ := h1.get q1
          obtain ⟨v2, p3, p4⟩ := h2.get q2
          rw [p1] at p3; cases p3
          obtain ⟨u', _, p6⟩ := h3.get p1
          exact zeq_same hK I R n (g1 j _ _ q1 q2) p2 p4 p6 p6
        cases a with
        | non => cases ka; cases b <;> simp only [KU] at kb <;> (try (cases kb; done)) <;> (try (obtain ⟨t, kb⟩ := kb; cases kb; done)) <;> (try (obtain ⟨_, _, _, kb, _⟩ := kb; cases kb; done)) <;> (cases h'; rfl)
        | bl a => cases ka; cases b <;> simp only [KU] at kb <;> (try (obtain ⟨t, kb⟩ := kb; cases kb; done)) <;> (try (obtain ⟨_, _, _, kb, _⟩ := kb; cases kb; done)) <;> cases kb <;> simpa [keq] using h'.symm
        | int i => obtain ⟨t, rfl⟩ := ka; cases b <;> simp only [KU] at kb <;> (try (cases kb; done)) <;> (try (obtain ⟨_, _, _, kb, _⟩ := kb; cases kb; done)) <;> obtain ⟨t, kb⟩ := kb <;> cases kb <;> simpa [keq] using h'.symm
        | str i =>
          obtain ⟨t, rfl⟩ := ka
          cases b <;> simp only [KU] at kb <;> (try (cases kb; done)) <;> (try (obtain ⟨_, _, _, kb, _⟩ := kb; cases kb; done)) <;> obtain ⟨t, kb⟩ := kb
          · cases kb
          · rename_i y
            have e3 : i = y := by
              have := congrArg (fun z => match z with | Value.str q _ => q.cps.toList | _ => []) kb
              simpa using this
            subst e3
            simpa [keq] using h'.symm
        | tup xs =>
          obtain ⟨a, vs, us, rfl, k1, k2, k3⟩ := ka
          cases b with
          | tup ys =>
            obtain ⟨a', vs', us', e3, k4, k5, k6⟩ := kb
            cases e3
            have := istup_inj k3 k6
            subst this
            exact items h' k1 k4 k2 k5
          | lst ys =>
            obtain ⟨a', vs', us', e3, k4, k5, k6⟩ := kb
            cases e3
            obtain ⟨o, e, hc, _⟩ := k3
            obtain ⟨o', e', hc', _⟩ := k6
            rw [e] at e'; cases e'
            rw [hc] at hc'; exact absurd hc' (by decide)
          | non => cases kb
          | bl _ => cases kb
          | int _ => obtain ⟨t, kb⟩ := kb; cases kb
          | str _ => obtain ⟨t, kb⟩ := kb; cases kb
        | lst xs =>
          obtain ⟨a, vs, us, rfl, k1, k2, k3⟩ := ka
          cases b with
          | lst ys =>
            obtain ⟨a', vs', us', e3, k4, k5, k6⟩ := kb
            cases e3
            have := islist_inj k3 k6
            subst this
            exact items h' k1 k4 k2 k5
          | tup ys =>
            obtain ⟨a', vs', us', e3, k4, k5, k6⟩ := kb
            cases e3
            obtain ⟨o, e, hc, _⟩ := k3
            obtain ⟨o', e', hc', _⟩ := k6
            rw [e] at e'; cases e'
            rw [hc] at hc'; exact absurd hc' (by decide)
          | non => cases kb
          | bl _ => cases kb
          | int _ => obtain ⟨t, kb⟩ := kb; cases kb
          | str _ => obtain ⟨t, kb⟩ := kb; cases kb
theorem tup_isTuple {h : Heap} {a : Addr} {vs : Array Value} (x : IsTup h a vs) : h.IsTuple a vs := x
theorem str_eq_beq (x y : List Nat) : ((⟨x.toArray⟩ : Str) == ⟨y.toArray⟩) = (x == y) := by
  by_cases e : x = y
  · subst e; simp
  · have : ¬ ((⟨x.toArray⟩ : Str) = ⟨y.toArray⟩) := fun q => e (by injection q with q; simpa using q)
    rw [beq_eq_false_iff_ne.mpr this, beq_eq_false_iff_ne.mpr e]
/-- == -/
theorem zeq_at (hK : c.K = X.K) (I : Inv X pins σ H s) (R : Rel c ρ H G) : ∀ (n : Nat) (A : Around) {x y : Z} {v w : V} {u1 u2 : Value} {r : Bool}, A.units + n < cLine → zeq n G x y = some r → RZ c ρ H x v → RZ c ρ H y w → RelV v u1 → RelV w u2 →
    SeqAt.RcAt A s u1 u2 r ∧ SeqAt.EqAt A s u1 u2 r ∧ SeqAt.RcNeAt A s u1 u2 (!r)
  | 0, _, _, _, _, _, _, _, _, _, h, _, _, _, _ => by cases h
  | n + 1, A, x, y, v, w, u1, u2, r, hu, h, rx, ry, rv, rw_ => by
    have hsame := fun {u : Value} => zeq_same (u := u) hK I R (n + 1) h rx ry
    unfold zeq at h
    have hu1 : A.units < cLine := by omega
    have hu2 : A.in1.units + n < cLine := by show A.units + 1 + n < cLine; omega
    cases ex : kd G x with
    | none => rw [ex] at h; cases h
    | some a =>
      cases ey : kd G y with
      | none => rw [ex, ey] at h; cases h
      | some b =>
        rw [ex, ey] at h
        have h' : keq (zeq n G) a b = some r := h
        have ka := kd_sound hK I R rx rv ex
        have kb := kd_sound hK I R ry rw_ ey
        have items : ∀ {xs ys : List Z} {vs ws : List V} {us us' : List Value}, zall (zeq n G) xs ys = some r → RZs c ρ H xs vs → RZs c ρ H ys ws → Vals vs us → Vals ws us' →
            ∃ e : Nat → Bool, (∀ j (h1 : j < us.toArray.size) (h2 : j < us'.toArray.size), SeqAt.EqAt A.in1 s us.toArray[j] us'.toArray[j] (e j)) ∧ r = ((List.range (min us.toArray.size us'.toArray.size)).all e && us.toArray.size == us'.toArray.size) := by
          intro xs ys vs ws us us' hz h1 h2 h3 h4
          obtain ⟨e, g1, g2⟩ := zall_spec hz
          have l1 : xs.length = us.length := h1.length.trans h3.length
          have l2 : ys.length = us'.length := h2.length.trans h4.length
          refine ⟨e, fun j j1 j2 => ?_, by rw [g2]; simp [l1, l2]⟩
          have j1 : j < us.length := by simpa using j1
          have j2 : j < us'.length := by simpa using j2
          have q1 : xs[j]? = some xs[j] := List.getElem?_eq_getElem (by omega)
          have q2 : ys[j]? = some ys[j] := List.getElem?_eq_getElem (by omega)
          obtain ⟨v1, p1, p2⟩ := h1.get q1
          obtain ⟨v2, p3, p4⟩ := h2.get q2
          obtain ⟨u1', p5, p6⟩ := h3.get p1
          obtain ⟨u2', p7, p8⟩ := h4.get p3
          have e1 : us[j] = u1' := by rw [List.getElem?_eq_getElem j1] at p5; exact Option.some.inj p5
          have e2 : us'[j] = u2' := by rw [List.getElem?_eq_getElem j2] at p7; exact Option.some.inj p7
          have := (zeq_at hK I R n A.in1 hu2 (g1 j _ _ q1 q2) p2 p4 p6 p8).2.1
          simpa [e1, e2] using this
        cases a with
        | non =>
          cases ka
          cases b with
          | non => cases kb; cases h'; exact ⟨SeqAt.RcAt.none_none, SeqAt.EqAt.same _, SeqAt.RcNeAt.none_none⟩
          | bl b => cases kb; cases h'; exact ⟨SeqAt.RcAt.none_bool _, SeqAt.EqAt.none_bool _, SeqAt.RcNeAt.none_bool _⟩
          | int j => obtain ⟨t, rfl⟩ := kb; cases h'; exact ⟨SeqAt.RcAt.none_int _ _, SeqAt.EqAt.none_int _ _, SeqAt.RcNeAt.none_int _ _⟩
          | str j => obtain ⟨t, rfl⟩ := kb; cases h'; exact ⟨SeqAt.RcAt.none_str _ _, SeqAt.EqAt.none_str _ _, SeqAt.RcNeAt.none_str _ _⟩
          | tup ys => obtain ⟨a, vs, us, rfl, k1, k2, k3⟩ := kb; cases h'; exact ⟨SeqAt.RcAt.none_tuple k3 hu1, SeqAt.EqAt.none_tuple k3 hu1, SeqAt.RcNeAt.none_tuple k3 hu1⟩
          | lst ys => obtain ⟨a, vs, us, rfl, k1, k2, k3⟩ := kb; cases h'; exact ⟨SeqAt.RcAt.none_list k3 hu1, SeqAt.EqAt.none_list k3 hu1, SeqAt.RcNeAt.none_list k3 hu1⟩
        | bl a =>
          cases ka
          cases b with
          | non => cases kb; cases h'; exact ⟨SeqAt.RcAt.bool_none _, SeqAt.EqAt.bool_none _, SeqAt.RcNeAt.bool_none _⟩
          | bl b => cases kb; cases h'; exact ⟨SeqAt.RcAt.bool_bool _ _, SeqAt.EqAt.bool_bool _ _, SeqAt.RcNeAt.bool_bool _ _⟩
          | int j => obtain ⟨t, rfl⟩ := kb; cases h'; exact ⟨SeqAt.RcAt.bool_int _ _ _, SeqAt.EqAt.bool_int _ _ _, SeqAt.RcNeAt.bool_int _ _ _⟩
          | str j => obtain ⟨t, rfl⟩ := kb; cases h'; exact ⟨SeqAt.RcAt.bool_str _ _ _, SeqAt.EqAt.bool_str _ _ _, SeqAt.RcNeAt.bool_str _ _ _⟩
          | tup ys => obtain ⟨a, vs, us, rfl, k1, k2, k3⟩ := kb; cases h'; exact ⟨SeqAt.RcAt.bool_tuple _ k3 hu1, SeqAt.EqAt.bool_tuple _ k3 hu1, SeqAt.RcNeAt.bool_tuple _ k3 hu1⟩
          | lst ys => obtain ⟨a, vs, us, rfl, k1, k2, k3⟩ := kb; cases h'; exact ⟨SeqAt.RcAt.bool_list _ k3 hu1, SeqAt.EqAt.bool_list _ k3 hu1, SeqAt.RcNeAt.bool_list _ k3 hu1⟩
        | int i =>
          obtain ⟨t0, rfl⟩ := ka
          cases b with
          | non => cases kb; cases h'; exact ⟨SeqAt.RcAt.int_none _ _, SeqAt.EqAt.int_none _ _, SeqAt.RcNeAt.int_none _ _⟩
          | bl b => cases kb; cases h'; exact ⟨SeqAt.RcAt.int_bool _ _ _, SeqAt.EqAt.int_bool _ _ _, SeqAt.RcNeAt.int_bool _ _ _⟩
          | int j => obtain ⟨t, rfl⟩ := kb; cases h'; exact ⟨SeqAt.RcAt.int_int _ _ _ _, SeqAt.EqAt.int_int _ _ _ _, SeqAt.RcNeAt.int_int _ _ _ _⟩
          | str j => obtain ⟨t, rfl⟩ := kb; cases h'; exact ⟨SeqAt.RcAt.int_str _ _ _ _, SeqAt.EqAt.int_str _ _ _ _, SeqAt.RcNeAt.int_str _ _ _ _⟩
          | tup ys => obtain ⟨a, vs, us, rfl, k1, k2, k3⟩ := kb; cases h'; exact ⟨SeqAt.RcAt.int_tuple _ _ k3 hu1, SeqAt.EqAt.int_tuple _ _ k3 hu1, SeqAt.RcNeAt.int_tuple _ _ k3 hu1⟩
          | lst ys => obtain ⟨a, vs, us, rfl, k1, k2, k3⟩ := kb; cases h'; exact ⟨SeqAt.RcAt.int_list _ _ k3 hu1, SeqAt.EqAt.int_list _ _ k3 hu1, SeqAt.RcNeAt.int_list _ _ k3 hu1⟩
        | str i =>
          obtain ⟨t0, rfl⟩ := ka
          cases b with
          | non => cases kb; cases h'; exact ⟨SeqAt.RcAt.str_none _ _, SeqAt.EqAt.str_none _ _, SeqAt.RcNeAt.str_none _ _⟩
          | bl b => cases kb; cases h'; exact ⟨SeqAt.RcAt.str_bool _ _ _, SeqAt.EqAt.str_bool _ _ _, SeqAt.RcNeAt.str_bool _ _ _⟩
          | int j => obtain ⟨t, rfl⟩ := kb; cases h'; exact ⟨SeqAt.RcAt.str_int _ _ _ _, SeqAt.EqAt.str_int _ _ _ _, SeqAt.RcNeAt.str_int _ _ _ _⟩
          | str j => obtain ⟨t, rfl⟩ := kb; cases h'; rw [← str_eq_beq]; exact ⟨SeqAt.RcAt.str_str _ _ _ _, SeqAt.EqAt.str_str _ _ _ _, SeqAt.RcNeAt.str_str _ _ _ _⟩
          | tup ys => obtain ⟨a, vs, us, rfl, k1, k2, k3⟩ := kb; cases h'; exact ⟨SeqAt.RcAt.str_tuple _ _ k3 hu1, SeqAt.EqAt.str_tuple _ _ k3 hu1, SeqAt.RcNeAt.str_tuple _ _ k3 hu1⟩
          | lst ys => obtain ⟨a, vs, us, rfl, k1, k2, k3⟩ := kb; cases h'; exact ⟨SeqAt.RcAt.str_list _ _ k3 hu1, SeqAt.EqAt.str_list _ _ k3 hu1, SeqAt.RcNeAt.str_list _ _ k3 hu1⟩
        | tup xs =>
          obtain ⟨a, vs, us, e0, k1, k2, k3⟩ := ka
          cases b with
          | non => cases e0; cases kb; cases h'; exact ⟨SeqAt.RcAt.tuple_none k3 hu1, SeqAt.EqAt.tuple_none k3 hu1, SeqAt.RcNeAt.tuple_none k3 hu1⟩
          | bl b => cases e0; cases kb; cases h'; exact ⟨SeqAt.RcAt.tuple_bool _ k3 hu1, SeqAt.EqAt.tuple_bool _ k3 hu1, SeqAt.RcNeAt.tuple_bool _ k3 hu1⟩
          | int j => cases e0; obtain ⟨t, rfl⟩ := kb; cases h'; exact ⟨SeqAt.RcAt.tuple_int _ _ k3 hu1, SeqAt.EqAt.tuple_int _ _ k3 hu1, SeqAt.RcNeAt.tuple_int _ _ k3 hu1⟩
          | str j => cases e0; obtain ⟨t, rfl⟩ := kb; cases h'; exact ⟨SeqAt.RcAt.tuple_str _ _ k3 hu1, SeqAt.EqAt.tuple_str _ _ k3 hu1, SeqAt.RcNeAt.tuple_str _ _ k3 hu1⟩
          | lst ys => cases e0; obtain ⟨a, vs, us, rfl, k4, k5, k6⟩ := kb; cases h'; exact ⟨SeqAt.RcAt.tuple_list k3 k6 hu1, SeqAt.EqAt.tuple_list k3 k6 hu1, SeqAt.RcNeAt.tuple_list k3 k6 hu1⟩
          | tup ys =>
            obtain ⟨b, vs', us', e1, k4, k5, k6⟩ := kb
            obtain ⟨e, g1, g2⟩ := items h' k1 k4 k2 k5
            have rc : SeqAt.RcAt A s (.ref a) (.ref b) r := by rw [g2]; exact SeqAt.RcAt.tuples k3 k6 hu1 g1
            have rn : SeqAt.RcNeAt A s (.ref a) (.ref b) (!r) := by rw [g2]; exact SeqAt.RcNeAt.tuples k3 k6 hu1 g1
            by_cases hab : a = b
            · subst hab
              have : r = true := hsame rv (by rw [e0]; rw [e1] at rw_; exact rw_)
              subst this
              rw [e0, e1]
              exact ⟨rc, SeqAt.EqAt.same _, rn⟩
            · rw [e0, e1]
              exact ⟨rc, SeqAt.EqAt.of_refs hab rc, rn⟩
        | lst xs =>
          obtain ⟨a, vs, us, e0, k1, k2, k3⟩ := ka
          cases b with
          | non => cases e0; cases kb; cases h'; exact ⟨SeqAt.RcAt.list_none k3 hu1, SeqAt.EqAt.list_none k3 hu1, SeqAt.RcNeAt.list_none k3 hu1⟩
          | bl b => cases e0; cases kb; cases h'; exact ⟨SeqAt.RcAt.list_bool _ k3 hu1, SeqAt.EqAt.list_bool _ k3 hu1, SeqAt.RcNeAt.list_bool _ k3 hu1⟩
          | int j => cases e0; obtain ⟨t, rfl⟩ := kb; cases h'; exact ⟨SeqAt.RcAt.list_int _ _ k3 hu1, SeqAt.EqAt.list_int _ _ k3 hu1, SeqAt.RcNeAt.list_int _ _ k3 hu1⟩
          | str j => cases e0; obtain ⟨t, rfl⟩ := kb; cases h'; exact ⟨SeqAt.RcAt.list_str _ _ k3 hu1, SeqAt.EqAt.list_str _ _ k3 hu1, SeqAt.RcNeAt.list_str _ _ k3 hu1⟩
          | tup ys => cases e0; obtain ⟨a, vs, us, rfl, k4, k5, k6⟩ := kb; cases h'; exact ⟨SeqAt.RcAt.list_tuple k3 k6 hu1, SeqAt.EqAt.list_tuple k3 k6 hu1, SeqAt.RcNeAt.list_tuple k3 k6 hu1⟩
          | lst ys =>
            obtain ⟨b, vs', us', e1, k4, k5, k6⟩ := kb
            obtain ⟨e, g1, g2⟩ := items h' k1 k4 k2 k5
            have rc : SeqAt.RcAt A s (.ref a) (.ref b) r := by
              by_cases hsz : us.toArray.size = us'.toArray.size
              · rw [g2, hsz, Nat.min_self]
                simp only [beq_self_eq_true, Bool.and_true]
                rw [← hsz]
                exact SeqAt.RcAt.lists k3 k6 hsz hu1 g1
              · have : r = false := by rw [g2, beq_eq_false_iff_ne.mpr hsz, Bool.and_false]
                rw [this]
                exact SeqAt.RcAt.lists_lengths k3 k6 (by simpa [bne] using hsz) hu1
            have rn : SeqAt.RcNeAt A s (.ref a) (.ref b) (!r) := by
              by_cases hsz : us.toArray.size = us'.toArray.size
              · rw [g2, hsz, Nat.min_self]
                simp only [beq_self_eq_true, Bool.and_true]
                rw [← hsz]
                exact SeqAt.RcNeAt.lists k3 k6 hsz hu1 g1
              · have : r = false := by rw [g2, beq_eq_false_iff_ne.mpr hsz, Bool.and_false]
                rw [this]
                exact SeqAt.RcNeAt.lists_lengths k3 k6 (by simpa [bne] using hsz) hu1
            by_cases hab : a = b
            · subst hab
              have : r = true := hsame rv (by rw [e0]; rw [e1] at rw_; exact rw_)
              subst this
              rw [e0, e1]
              exact ⟨rc, SeqAt.EqAt.same _, rn⟩
            · rw [e0, e1]
              exact ⟨rc, SeqAt.EqAt.of_refs hab rc, rn⟩
end
end Zy
end
section
set_option Elab.async false
set_option linter.all false
set_option maxRecDepth 100000
set_option maxHeartbeats 4000000
/-! operations on plain data -/
namespace Zy
open PySem PySem.Spec PyProof.Rows L2

abbrev QW := Value → Option Addr → Hp → Prop
def newO (o : ZO) (G : GH) : R Z := .ok (.ref G.length) (G ++ [o])
def putO (n : Nat) (o : ZO) (z : Z) (G : GH) : R Z := .ok z (G.set n o)
/-- an operation of two values, as a rule of the hand layer -/
def rz2 (c : C) (g : Z → Z → GH → R Z) : R2 := fun x y H Q => ∃ W : QW, ∃ ρ G zx zy, Rel c ρ H G ∧ RZ c ρ H zx x ∧ RZ c ρ H zy y ∧ RQ c (RZ c) ρ H (g zx zy G) Q W
def rz1 (c : C) (g : Z → GH → R Z) : V → Hp → VK → Prop := fun x H Q => ∃ W : QW, ∃ ρ G zx, Rel c ρ H G ∧ RZ c ρ H zx x ∧ RQ c (RZ c) ρ H (g zx G) Q W
def rzs (c : C) (g : List Z → GH → R Z) : List V → Hp → VK → Prop := fun xs H Q => ∃ W : QW, ∃ ρ G zs, Rel c ρ H G ∧ RZs c ρ H zs xs ∧ RQ c (RZ c) ρ H (g zs G) Q W

section
variable {c : C} {ρ : List Addr} {H : Hp} {G : GH} {Q : VK} {W : QW}
theorem RQ.here {z : Z} {v : V} (h : RQ c (RZ c) ρ H (.ok z G) Q W) (R : Rel c ρ H G) (r : RZ c ρ H z v) : Q v H := h ρ H v (Ext.refl _ _) R r
theorem rz_int {i : Int} : RZ c ρ H (.int i) (.int i) := by unfold RZ; rfl
theorem rz_bl {i : Bool} : RZ c ρ H (.bl i) (.bl i) := by unfold RZ; rfl
theorem rz_non : RZ c ρ H .non .non := by unfold RZ; rfl
theorem rz_str {x : List Nat} (h : x.length ≤ sizeLine) : RZ c ρ H (.str x) (.str ⟨x.toArray⟩) := by unfold RZ; exact ⟨h, rfl⟩
theorem rz_tup {xs : List Z} {a : Addr} {vs : List V} (h : SqT c.K H a vs) (r : RZs c ρ H xs vs) : RZ c ρ H (.tup xs) (.ref a) := by unfold RZ; exact ⟨a, vs, rfl, h, r⟩
theorem rz_ref {n : Nat} {a : Addr} (h : ρ[n]? = some a) : RZ c ρ H (.ref n) (.ref a) := by unfold RZ; exact ⟨a, h, rfl⟩
theorem un_int {i : Int} {v : V} (h : RZ c ρ H (.int i) v) : v = .int i := by unfold RZ at h; exact h
theorem un_bl {i : Bool} {v : V} (h : RZ c ρ H (.bl i) v) : v = .bl i := by unfold RZ at h; exact h
theorem un_non {v : V} (h : RZ c ρ H .non v) : v = .non := by unfold RZ at h; exact h
theorem un_str {x : List Nat} {v : V} (h : RZ c ρ H (.str x) v) : x.length ≤ sizeLine ∧ v = .str ⟨x.toArray⟩ := by unfold RZ at h; exact h
theorem un_tup {xs : List Z} {v : V} (h : RZ c ρ H (.tup xs) v) : ∃ a vs, v = .ref a ∧ SqT c.K H a vs ∧ RZs c ρ H xs vs := by unfold RZ at h; exact h
theorem un_ref {n : Nat} {v : V} (h : RZ c ρ H (.ref n) v) : ∃ a, ρ[n]? = some a ∧ v = .ref a := by unfold RZ at h; exact h
/-- a new list, a new tuple -/
theorem RQ.newLst {zs : List Z} {vs : List V} (h : RQ c (RZ c) ρ H (newO (.lst zs) G) Q W) (R : Rel c ρ H G) (r : RZs c ρ H zs vs) : ∀ p, H p = none → Q (.ref p) (upd H p (.lst vs)) := fun p hp => by
  obtain ⟨R', e'⟩ := R.new (z := .lst zs) hp ⟨vs, rfl, r⟩
  exact h _ _ _ e' R' (by rw [← R.len]; exact rz_ref (get_new ρ p))
theorem RQ.newTup {zs : List Z} {vs : List V} (h : RQ c (RZ c) ρ H (.ok (.tup zs) G) Q W) (R : Rel c ρ H G) (r : RZs c ρ H zs vs) : ∀ p, H p = none → Q (.ref p) (upd H p (.tup vs)) := fun p hp => by
  obtain ⟨R', e'⟩ := R.aside (o := .tup vs) hp
  exact h _ _ _ e' R' (rz_tup (.of upd_same) (r.mono e'))
theorem RQ.putLst {n : Nat} {a : Addr} {zs : List Z} {vs : List V} {z : Z} {v : V} (h : RQ c (RZ c) ρ H (putO n (.lst zs) z G) Q W) (R : Rel c ρ H G) (e : ρ[n]? = some a) (r : RZs c ρ H zs vs) (rz : RZ c ρ H z v) : Q v (upd H a (.lst vs)) := by
  obtain ⟨R', e'⟩ := R.put (z := .lst zs) e ⟨vs, rfl, r⟩
  exact h _ _ _ e' R' (rz.mono e')
theorem Rel.lstAt (R : Rel c ρ H G) {n : Nat} {a : Addr} {xs : List Z} (h : lstAt G n = some xs) (e : ρ[n]? = some a) : ∃ vs, H a = some (.lst vs) ∧ RZs c ρ H xs vs := by
  obtain ⟨b, g1, vs, g2, g3⟩ := R.at (lstAt_eq.mp h)
  rw [e] at g1; cases g1
  exact ⟨vs, g2, g3⟩
end

/-! ### arithmetic -/
def b2z (b : Bool) : Int := if b then 1 else 0
def zAdd : Z → Z → GH → R Z
  | .int i, .int j, G => .ok (.int (i + j)) G
  | .int i, .bl b, G => .ok (.int (i + b2z b)) G
  | .str x, .str y, G => if x.length + y.length ≤ sizeLine then .ok (.str (x ++ y)) G else .bad
  | .tup x, .tup y, G => if x.length + y.length ≤ sizeLine then .ok (.tup (x ++ y)) G else .bad
  | .ref m, .ref n, G => match lstAt G m, lstAt G n with
    | some x, some y => if x.length + y.length ≤ sizeLine then newO (.lst (x ++ y)) G else .bad
    | _, _ => .bad
  | _, _, _ => .bad
def zSub : Z → Z → GH → R Z
  | .int i, .int j, G => .ok (.int (i - j)) G
  | _, _, _ => .bad
def mulOk (i j : Int) : Bool := decide (i.natAbs < 2 ^ 64) || decide (j.natAbs < 2 ^ 64) || decide (i.natAbs.log2 + j.natAbs.log2 < 1000000)
def zMul : Z → Z → GH → R Z
  | .int i, .int j, G => if mulOk i j then .ok (.int (i * j)) G else .bad
  | .ref m, .int k, G => match lstAt G m with
    | some x => if decide (-(2 ^ 63) ≤ k) && decide (k < 2 ^ 63) && decide (x.length * k.toNat ≤ sizeLine) then newO (.lst (List.replicate k.toNat x).flatten) G else .bad
    | _ => .bad
  | .tup x, .int k, G => if !x.isEmpty && decide (2 ≤ k) && decide (k ≤ 1000) && decide (x.length ≤ 1000) then .ok (.tup (List.replicate k.toNat x).flatten) G else .bad
  | _, _, _ => .bad
def zMod : Z → Z → GH → R Z
  | .int i, .int j, G => if j ≠ 0 then .ok (.int (i.fmod j)) G else .bad
  | _, _, _ => .bad
def zDiv : Z → Z → GH → R Z
  | .int i, .int j, G => if (decide (j ≠ 0) && decide (j.natAbs < 1073741824)) || (decide (0 < j) && decide (j.natAbs.log2 < 9000)) then .ok (.int (i.fdiv j)) G else .bad
  | _, _, _ => .bad
def zPow : Z → Z → GH → R Z
  | .int i, .int j, G => if decide (0 ≤ j) && decide ((Builtin.Int.intBits i : Int) * j ≤ 2 ^ 27) then .ok (.int (i ^ j.toNat)) G else .bad
  | _, _, _ => .bad
def zShr : Z → Z → GH → R Z
  | .int i, .int j, G => if 0 ≤ j then .ok (.int (i / 2 ^ j.toNat)) G else .bad
  | _, _, _ => .bad
def zAnd : Z → Z → GH → R Z
  | .int i, .int j, G => .ok (.int (Builtin.bitAnd i j)) G
  | _, _, _ => .bad
def zBin : Operator → Z → Z → GH → R Z
  | .Add => zAdd
  | .Sub => zSub
  | .Mult => zMul
  | .Mod => zMod
  | .FloorDiv => zDiv
  | .Pow => zPow
  | .RShift => zShr
  | .BitAnd => zAnd
  | _ => fun _ _ _ => .bad
theorem arr_app (x y : List Nat) : (⟨x.toArray⟩ : Str) ++ ⟨y.toArray⟩ = ⟨(x ++ y).toArray⟩ := by
  show Str.mk (x.toArray ++ y.toArray) = _
  rw [List.append_toArray]
theorem str_len (x : List Nat) : (⟨x.toArray⟩ : Str).length = x.length := by
  show Array.size _ = _
  simp
section
variable {X : Cx} {c : C} {W : QW}
theorem opz_add (hK : c.K = X.K) : OpR X (binaryOp .Add) (rz2 c zAdd) := by
  intro pins s σ H x y v u Q I rx ry h
  obtain ⟨W, ρ, G, zx, zy, R, hx, hy, q⟩ := h
  cases zx <;> cases zy <;> (try exact q.elim)
  · cases un_int hx; cases un_bl hy
    refine op_add_ib pins s σ H _ _ v u Q I rx ry ⟨_, _, rfl, rfl, ?_⟩
    exact q.here R rz_int
  · cases un_int hx; cases un_int hy
    exact op_add pins s σ H _ _ v u Q I rx ry ⟨_, _, rfl, rfl, q.here R rz_int⟩
  · rename_i x y
    obtain ⟨hx1, rfl⟩ := un_str hx
    obtain ⟨hy1, rfl⟩ := un_str hy
    simp only [zAdd] at q
    split at q
    · rename_i hz
      refine op_add_str pins s σ H _ _ v u Q I rx ry ⟨_, _, rfl, rfl, by rw [str_len, str_len]; exact hz, ?_⟩
      rw [arr_app]
      exact q.here R (rz_str (by simpa using hz))
    · exact q.elim
  · rename_i x y
    obtain ⟨a, vs, rfl, h1, h2⟩ := un_tup hx
    obtain ⟨b, ws, rfl, h3, h4⟩ := un_tup hy
    simp only [zAdd] at q
    split at q
    · rename_i hz
      have l1 := h2.length
      have l2 := h4.length
      refine op_catA pins s σ H _ _ v u Q I rx ry ⟨a, b, vs, ws, rfl, rfl, hK ▸ h1, hK ▸ h3, by omega, fun e => ?_, fun _ e => ?_, fun _ _ => q.newTup R (h2.append h4)⟩
      · subst e
        have : x = [] := List.eq_nil_of_length_eq_zero l1
        subst this
        exact q.here R (rz_tup h3 h4)
      · subst e
        have : y = [] := List.eq_nil_of_length_eq_zero l2
        subst this
        rw [List.append_nil] at q
        exact q.here R (rz_tup h1 h2)
    · exact q.elim
  · rename_i m n
    obtain ⟨a, ha, rfl⟩ := un_ref hx
    obtain ⟨b, hb, rfl⟩ := un_ref hy
    simp only [zAdd] at q
    split at q
    · rename_i x y ex ey
      split at q
      · rename_i hz
        obtain ⟨vs, g1, g2⟩ := R.lstAt ex ha
        obtain ⟨ws, g3, g4⟩ := R.lstAt ey hb
        have l1 := g2.length
        have l2 := g4.length
        exact op_cat pins s σ H _ _ v u Q I rx ry ⟨a, b, vs, ws, rfl, rfl, g1, g3, by omega, q.newLst R (g2.append g4)⟩
      · exact q.elim
    · exact q.elim
theorem opz_sub : OpR X (binaryOp .Sub) (rz2 c zSub) := by
  intro pins s σ H x y v u Q I rx ry h
  obtain ⟨W, ρ, G, zx, zy, R, hx, hy, q⟩ := h
  cases zx <;> cases zy <;> (try exact q.elim)
  cases un_int hx; cases un_int hy
  exact op_sub pins s σ H _ _ v u Q I rx ry ⟨_, _, rfl, rfl, q.here R rz_int⟩
theorem mulOk_ok {i j : Int} (h : mulOk i j = true) : IntMulOk i j := by
  unfold mulOk at h
  simp only [Bool.or_eq_true, decide_eq_true_eq] at h
  rcases h with (h | h) | h
  · exact CMul.ok (.inl (by omega))
  · exact CMul.ok (.inr (by omega))
  · exact CMulW.ok h
theorem op_mulA : OpR X (binaryOp .Mult) (rI (fun i j => mulOk i j = true) fun i j => .int (i * j)) := opI fun _ _ _ _ _ _ _ hc q => mul_int q (mulOk_ok hc)
theorem opz_mul (hK : c.K = X.K) : OpR X (binaryOp .Mult) (rz2 c zMul) := by
  intro pins s σ H x y v u Q I rx ry h
  obtain ⟨W, ρ, G, zx, zy, R, hx, hy, q⟩ := h
  cases zx <;> cases zy <;> (try exact q.elim)
  · cases un_int hx; cases un_int hy
    simp only [zMul] at q
    split at q
    · rename_i hz
      exact op_mulA pins s σ H _ _ v u Q I rx ry ⟨_, _, rfl, rfl, hz, q.here R rz_int⟩
    · exact q.elim
  · rename_i x k
    obtain ⟨a, vs, rfl, h1, h2⟩ := un_tup hx
    cases un_int hy
    simp only [zMul] at q
    split at q
    · rename_i hz
      simp only [Bool.and_eq_true, decide_eq_true_eq, Bool.not_eq_true'] at hz
      have l1 := h2.length
      refine op_repT pins s σ H _ _ v u Q I rx ry ⟨a, k, vs, rfl, rfl, hK ▸ h1, ?_, hz.1.1.2, hz.1.2, by omega, q.newTup R (h2.rep _)⟩
      rintro rfl
      have : x = [] := List.eq_nil_of_length_eq_zero l1
      subst this
      exact absurd hz.1.1.1 (by simp)
    · exact q.elim
  · rename_i m k
    obtain ⟨a, ha, rfl⟩ := un_ref hx
    cases un_int hy
    simp only [zMul] at q
    split at q
    · rename_i x ex
      split at q
      · rename_i hz
        simp only [Bool.and_eq_true, decide_eq_true_eq] at hz
        obtain ⟨vs, g1, g2⟩ := R.lstAt ex ha
        have l1 := g2.length
        exact op_rep pins s σ H _ _ v u Q I rx ry ⟨a, k, vs, rfl, rfl, g1, hz.1.1, hz.1.2, by rw [← l1]; exact hz.2, q.newLst R (g2.rep _)⟩
      · exact q.elim
    · exact q.elim
theorem opz_mod : OpR X (binaryOp .Mod) (rz2 c zMod) := by
  intro pins s σ H x y v u Q I rx ry h
  obtain ⟨W, ρ, G, zx, zy, R, hx, hy, q⟩ := h
  cases zx <;> cases zy <;> (try exact q.elim)
  cases un_int hx; cases un_int hy
  simp only [zMod] at q
  split at q
  · rename_i hz
    exact op_modN pins s σ H _ _ v u Q I rx ry ⟨_, _, rfl, rfl, hz, q.here R rz_int⟩
  · exact q.elim
theorem opz_div : OpR X (binaryOp .FloorDiv) (rz2 c zDiv) := by
  intro pins s σ H x y v u Q I rx ry h
  obtain ⟨W, ρ, G, zx, zy, R, hx, hy, q⟩ := h
  cases zx <;> cases zy <;> (try exact q.elim)
  cases un_int hx; cases un_int hy
  simp only [zDiv] at q
  split at q
  · rename_i hz
    simp only [Bool.or_eq_true, Bool.and_eq_true, decide_eq_true_eq] at hz
    rcases hz with hz | hz
    · exact op_fdivN pins s σ H _ _ v u Q I rx ry ⟨_, _, rfl, rfl, hz, q.here R rz_int⟩
    · refine op_fdivW pins s σ H _ _ v u Q I rx ry ⟨_, _, rfl, rfl, hz, ?_⟩
      rename_i i j
      have e : i.fdiv j = i / j := Int.fdiv_eq_ediv_of_nonneg i (Int.le_of_lt hz.1)
      rw [e] at q
      exact q.here R rz_int
  · exact q.elim
theorem op_powA : OpR X (binaryOp .Pow) (rI (fun i j => 0 ≤ j ∧ (Builtin.Int.intBits i : Int) * j ≤ 2 ^ 27) fun i j => .int (i ^ j.toNat)) := opI fun _ _ _ _ _ _ _ hc q => pow_int hc.1 hc.2 q
theorem opz_pow : OpR X (binaryOp .Pow) (rz2 c zPow) := by
  intro pins s σ H x y v u Q I rx ry h
  obtain ⟨W, ρ, G, zx, zy, R, hx, hy, q⟩ := h
  cases zx <;> cases zy <;> (try exact q.elim)
  cases un_int hx; cases un_int hy
  simp only [zPow] at q
  split at q
  · rename_i hz
    simp only [Bool.and_eq_true, decide_eq_true_eq] at hz
    exact op_powA pins s σ H _ _ v u Q I rx ry ⟨_, _, rfl, rfl, hz, q.here R rz_int⟩
  · exact q.elim
theorem opz_shr : OpR X (binaryOp .RShift) (rz2 c zShr) := by
  intro pins s σ H x y v u Q I rx ry h
  obtain ⟨W, ρ, G, zx, zy, R, hx, hy, q⟩ := h
  cases zx <;> cases zy <;> (try exact q.elim)
  cases un_int hx; cases un_int hy
  simp only [zShr] at q
  split at q
  · rename_i hz
    exact op_shr pins s σ H _ _ v u Q I rx ry ⟨_, _, rfl, rfl, hz, q.here R rz_int⟩
  · exact q.elim
theorem opz_and : OpR X (binaryOp .BitAnd) (rz2 c zAnd) := by
  intro pins s σ H x y v u Q I rx ry h
  obtain ⟨W, ρ, G, zx, zy, R, hx, hy, q⟩ := h
  cases zx <;> cases zy <;> (try exact q.elim)
  cases un_int hx; cases un_int hy
  exact op_and pins s σ H _ _ v u Q I rx ry ⟨_, _, rfl, rfl, q.here R rz_int⟩
theorem opz_never {f : Value → Value → Sem Value} : OpR X f (rz2 c fun _ _ _ => .bad) := by
  intro pins s σ H x y v u Q I rx ry h
  obtain ⟨W, ρ, G, zx, zy, R, hx, hy, q⟩ := h
  exact q.elim
theorem opz_bin (hK : c.K = X.K) : ∀ op : Operator, OpR X (binaryOp op) (rz2 c (zBin op))
  | .Add => opz_add hK
  | .Sub => opz_sub
  | .Mult => opz_mul hK
  | .Mod => opz_mod
  | .FloorDiv => opz_div
  | .Pow => opz_pow
  | .RShift => opz_shr
  | .BitAnd => opz_and
  | .MatMult => opz_never
  | .Div => opz_never
  | .LShift => opz_never
  | .BitOr => opz_never
  | .BitXor => opz_never
end
end Zy
end
section
set_option Elab.async false
set_option linter.all false
set_option maxRecDepth 100000
set_option maxHeartbeats 4000000
/-! order, in, is, truth, len -/
namespace Zy
open PySem PySem.Spec PyProof.Rows L2
open PySem.SeqAt (RcAt EqAt RcOp firstLt)

inductive Oo where
  | lt | le | gt | ge
  deriving DecidableEq
def Oo.op : Oo → CmpOp
  | .lt => .Lt | .le => .LtE | .gt => .Gt | .ge => .GtE
def oInt : Oo → Int → Int → Bool
  | .lt, i, j => decide (i < j) | .le, i, j => decide (i ≤ j) | .gt, i, j => decide (j < i) | .ge, i, j => decide (j ≤ i)
def oStr : Oo → List Nat → List Nat → Bool
  | .lt, i, j => decide (i < j) | .le, i, j => !decide (j < i) | .gt, i, j => decide (j < i) | .ge, i, j => !decide (i < j)
def oNat : Oo → Nat → Nat → Bool
  | .lt, i, j => decide (i < j) | .le, i, j => decide (i ≤ j) | .gt, i, j => decide (i > j) | .ge, i, j => decide (i ≥ j)
def zlex (f g : Z → Z → Option Bool) (fin : Bool) : List Z → List Z → Option Bool
  | x :: xs, y :: ys => match f x y, zlex f g fin xs ys with
    | some true, some r => some r
    | some false, some _ => g x y
    | _, _ => none
  | _, _ => some fin
def zord (o : Oo) : Nat → GH → Z → Z → Option Bool
  | 0, _, _, _ => none
  | n + 1, G, x, y => match kd G x, kd G y with
    | some (.int i), some (.int j) => some (oInt o i j)
    | some (.str i), some (.str j) => some (oStr o i j)
    | some (.tup i), some (.tup j) => zlex (zeq n G) (zord o n G) (oNat o i.length j.length) i j
    | some (.lst i), some (.lst j) => zlex (zeq n G) (zord o n G) (oNat o i.length j.length) i j
    | _, _ => none
theorem firstLt_congr {e e' r r' : Nat → Bool} {fin : Bool} : ∀ {l : List Nat}, (∀ j ∈ l, e j = e' j ∧ (e j = false → r j = r' j)) → firstLt e r fin l = firstLt e' r' fin l
  | [], _ => rfl
  | j :: t, h => by
    unfold firstLt
    obtain ⟨h1, h2⟩ := h j List.mem_cons_self
    rw [firstLt_congr fun k hk => h k (List.mem_cons_of_mem _ hk), ← h1]
    cases q : e j with
    | true => rfl
    | false => rw [if_neg (by simp), if_neg (by simp)]; exact h2 q
theorem firstLt_map (f : Nat → Nat) (e r : Nat → Bool) (fin : Bool) : ∀ l : List Nat, firstLt e r fin (l.map f) = firstLt (fun j => e (f j)) (fun j => r (f j)) fin l
  | [] => rfl
  | j :: t => by
    rw [List.map_cons]
    unfold firstLt
    rw [firstLt_map f e r fin t]
theorem zlex_spec {f g : Z → Z → Option Bool} {fin : Bool} : ∀ {xs ys : List Z} {k : Bool}, zlex f g fin xs ys = some k →
    ∃ e r : Nat → Bool, (∀ (j : Nat) x y, xs[j]? = some x → ys[j]? = some y → f x y = some (e j)) ∧ (∀ (j : Nat) x y, xs[j]? = some x → ys[j]? = some y → e j = false → g x y = some (r j)) ∧
      k = firstLt e r fin (List.range (min xs.length ys.length))
  | [], ys, k, h => ⟨fun _ => true, fun _ => true, fun j x y h1 => by simp at h1, fun j x y h1 => by simp at h1, by unfold zlex at h; cases h; simp [firstLt]⟩
  | x :: xs, [], k, h => ⟨fun _ => true, fun _ => true, fun j x y h1 h2 => by simp at h2, fun j x y h1 h2 => by simp at h2, by unfold zlex at h; cases h; simp [firstLt]⟩
  | x :: xs, y :: ys, k, h => by
    unfold zlex at h
    cases e2 : zlex f g fin xs ys with
    | none => rw [e2] at h; cases e1 : f x y with
      | none => rw [e1] at h; cases h
      | some a => rw [e1] at h; cases a <;> cases h
    | some b =>
      obtain ⟨e, r, h1, h2, h3⟩ := zlex_spec e2
      cases e1 : f x y with
      | none => rw [e1, e2] at h; cases h
      | some a =>
        rw [e1, e2] at h
        refine ⟨fun j => match j with | 0 => a | j + 1 => e j, fun j => match j with | 0 => k | j + 1 => r j, fun j x' y' g1 g2 => ?_, fun j x' y' g1 g2 ha => ?_, ?_⟩
        · cases j with
          | zero => simp at g1 g2; subst g1; subst g2; exact e1
          | succ j => exact h1 j x' y' (by simpa using g1) (by simpa using g2)
        · cases j with
          | zero =>
            simp at g1 g2; subst g1; subst g2
            have ha' : a = false := ha
            subst ha'
            exact h
          | succ j => exact h2 j x' y' (by simpa using g1) (by simpa using g2) ha
        · rw [List.length_cons, List.length_cons, Nat.succ_min_succ, List.range_succ_eq_map]
          cases a with
          | true =>
            rw [SeqAt.firstLt_yes (by rfl), firstLt_map]
            have h' : some b = some k := h
            cases h'
            exact h3
          | false => rw [SeqAt.firstLt_no (by rfl)]
theorem oInt_at (o : Oo) {A : Around} {s : Shared} (i j : Int) (t u : Tok) : RcOp o.op A s (.int i t) (.int j u) (oInt o i j) := by
  cases o with
  | lt => exact fun _ _ _ _ h => PyProof.Rows.lt_int h
  | le => exact fun _ _ _ _ h => PyProof.Rows.le_int h
  | gt => exact fun _ _ _ _ h => PyProof.Rows.gt_int h
  | ge => exact fun _ _ _ _ h => PyProof.Rows.ge_int h
theorem oStr_at (o : Oo) {A : Around} {s : Shared} (x y : List Nat) (t u : Tok) : RcOp o.op A s (.str ⟨x.toArray⟩ t) (.str ⟨y.toArray⟩ u) (oStr o x y) := by
  cases o with
  | lt => exact fun _ _ _ _ h => lt_str (by simpa [oStr] using h)
  | le => exact fun _ _ _ _ h => PySem.P.le_str (by simpa [oStr] using h)
  | gt => exact fun _ _ _ _ h => PySem.P.gt_str (by simpa [oStr] using h)
  | ge => exact fun _ _ _ _ h => PySem.P.ge_str (by simpa [oStr] using h)
section
variable {X : Cx} {pins : List (Addr × Obj)} {σ : L2.St} {H : Hp} {s : Shared} {c : C} {ρ : List Addr} {G : GH}
theorem oTup_at (o : Oo) {A : Around} {l b : Addr} {items items2 : Array Value} {e r : Nat → Bool} (hl : s.heap.IsTuple l items) (hb : s.heap.IsTuple b items2) (hu : A.units < cLine)
    (he : ∀ j (h1 : j < items.size) (h2 : j < items2.size), EqAt A.in1 s items[j] items2[j] (e j)) (hr : ∀ j (h1 : j < items.size) (h2 : j < items2.size), e j = false → RcOp o.op A.in1 s items[j] items2[j] (r j)) :
    RcOp o.op A s (.ref l) (.ref b) (firstLt e r (oNat o items.size items2.size) (List.range (min items.size items2.size))) := by
  cases o with
  | lt => exact RcOp.of_lt (SeqAt.RcLt.tuples hl hb hu he hr)
  | le => exact SeqAt.RcOp.tuples_le hl hb hu he hr
  | gt => exact SeqAt.RcOp.tuples_gt hl hb hu he hr
  | ge => exact SeqAt.RcOp.tuples_ge hl hb hu he hr
theorem oLst_at (o : Oo) {A : Around} {l b : Addr} {items items2 : Array Value} {e r : Nat → Bool} (hl : s.heap.IsList l items) (hb : s.heap.IsList b items2) (hu : A.units < cLine)
    (he : ∀ j (h1 : j < items.size) (h2 : j < items2.size), EqAt A.in1 s items[j] items2[j] (e j)) (hr : ∀ j (h1 : j < items.size) (h2 : j < items2.size), e j = false → RcOp o.op A.in1 s items[j] items2[j] (r j)) :
    RcOp o.op A s (.ref l) (.ref b) (firstLt e r (oNat o items.size items2.size) (List.range (min items.size items2.size))) := by
  cases o with
  | lt => exact RcOp.of_lt (SeqAt.RcLt.lists hl hb hu he hr)
  | le => exact SeqAt.RcOp.lists_le hl hb hu he hr
  | gt => exact SeqAt.RcOp.lists_gt hl hb hu he hr
  | ge => exact SeqAt.RcOp.lists_ge hl hb hu he hr
theorem zord_at (o : Oo) (hK : c.K = X.K) (I : Inv X pins σ H s) (R : Rel c ρ H G) : ∀ (n : Nat) (A : Around) {x y : Z} {v w : V} {u1 u2 : Value} {r : Bool}, A.units + n < cLine → zord o n G x y = some r → RZ c ρ H x v → RZ c ρ H y w → RelV v u1 → RelV w u2 →
    RcOp o.op A s u1 u2 r
  | 0, _, _, _, _, _, _, _, _, _, h, _, _, _, _ => by cases h
  | n + 1, A, x, y, v, w, u1, u2, r, hu, h, rx, ry, rv, rw_ => by
    have hu1 : A.units < cLine := by omega
    have hu2 : A.in1.units + n < cLine := by show A.units + 1 + n < cLine; omega
    have items : ∀ {xs ys : List Z} {vs ws : List V} {us us' : List Value} {fin : Bool}, zlex (zeq n G) (zord o n G) fin xs ys = some r → RZs c ρ H xs vs → RZs c ρ H ys ws → Vals vs us → Vals ws us' →
        ∃ e r' : Nat → Bool, (∀ j (h1 : j < us.toArray.size) (h2 : j < us'.toArray.size), EqAt A.in1 s us.toArray[j] us'.toArray[j] (e j)) ∧ (∀ j (h1 : j < us.toArray.size) (h2 : j < us'.toArray.size), e j = false → RcOp o.op A.in1 s us.toArray[j] us'.toArray[j] (r' j)) ∧
          r = firstLt e r' fin (List.range (min us.toArray.size us'.toArray.size)) ∧ xs.length = us.toArray.size ∧ ys.length = us'.toArray.size := by
      intro xs ys vs ws us us' fin hz h1 h2 h3 h4
      obtain ⟨e, r', g1, g2, g3⟩ := zlex_spec hz
      have l1 : xs.length = us.length := h1.length.trans h3.length
      have l2 : ys.length = us'.length := h2.length.trans h4.length
      have at_ : ∀ j (j1 : j < us.length) (j2 : j < us'.length), ∃ x y v1 v2, xs[j]? = some x ∧ ys[j]? = some y ∧ RZ c ρ H x v1 ∧ RZ c ρ H y v2 ∧ RelV v1 us[j] ∧ RelV v2 us'[j] := by
        intro j j1 j2
        have q1 : xs[j]? = some xs[j] := List.getElem?_eq_getElem (by omega)
        have q2 : ys[j]? = some ys[j] := List.getElem?_eq_getElem (by omega)
        obtain ⟨v1, p1, p2⟩ := h1.get q1
        obtain ⟨v2, p3, p4⟩ := h2.get q2
        obtain ⟨u1', p5, p6⟩ := h3.get p1
        obtain ⟨u2', p7, p8⟩ := h4.get p3
        have e1 : us[j] = u1' := by rw [List.getElem?_eq_getElem j1] at p5; exact Option.some.inj p5
        have e2 : us'[j] = u2' := by rw [List.getElem?_eq_getElem j2] at p7; exact Option.some.inj p7
        exact ⟨_, _, v1, v2, q1, q2, p2, p4, by rw [e1]; exact p6, by rw [e2]; exact p8⟩
      refine ⟨e, r', fun j j1 j2 => ?_, fun j j1 j2 he => ?_, by rw [g3]; simp [l1, l2], by simp [l1], by simp [l2]⟩
      · obtain ⟨x, y, v1, v2, q1, q2, q3, q4, q5, q6⟩ := at_ j (by simpa using j1) (by simpa using j2)
        have := (zeq_at hK I R n A.in1 hu2 (g1 j _ _ q1 q2) q3 q4 q5 q6).2.1
        simpa using this
      · obtain ⟨x, y, v1, v2, q1, q2, q3, q4, q5, q6⟩ := at_ j (by simpa using j1) (by simpa using j2)
        have := zord_at o hK I R n A.in1 hu2 (g2 j _ _ q1 q2 he) q3 q4 q5 q6
        simpa using this
    unfold zord at h
    split at h
    · rename_i i j ex ey
      obtain ⟨t, rfl⟩ := kd_sound hK I R rx rv ex
      obtain ⟨t', rfl⟩ := kd_sound hK I R ry rw_ ey
      cases h
      exact oInt_at o i j t t'
    · rename_i i j ex ey
      obtain ⟨t, rfl⟩ := kd_sound hK I R rx rv ex
      obtain ⟨t', rfl⟩ := kd_sound hK I R ry rw_ ey
      cases h
      exact oStr_at o i j t t'
    · rename_i i j ex ey
      obtain ⟨a, vs, us, rfl, k1, k2, k3⟩ := kd_sound hK I R rx rv ex
      obtain ⟨b, vs', us', rfl, k4, k5, k6⟩ := kd_sound hK I R ry rw_ ey
      obtain ⟨e, r', g1, g2, g3, g4, g5⟩ := items h k1 k4 k2 k5
      rw [g3, g4, g5]
      exact oTup_at o k3 k6 hu1 g1 g2
    · rename_i i j ex ey
      obtain ⟨a, vs, us, rfl, k1, k2, k3⟩ := kd_sound hK I R rx rv ex
      obtain ⟨b, vs', us', rfl, k4, k5, k6⟩ := kd_sound hK I R ry rw_ ey
      obtain ⟨e, r', g1, g2, g3, g4, g5⟩ := items h k1 k4 k2 k5
      rw [g3, g4, g5]
      exact oLst_at o k3 k6 hu1 g1 g2
    · cases h
end

/-! ### comparisons -/
def dep : Nat := 40
def ofB (o : Option Bool) (G : GH) : R Z := match o with
  | some b => .ok (.bl b) G
  | none => .bad
def zanyB (f : Z → Option Bool) : List Z → Option Bool
  | [] => some false
  | x :: xs => match f x, zanyB f xs with
    | some a, some b => some (a || b)
    | _, _ => none
/-- the items of a list or a tuple -/
def its (G : GH) : Z → Option (List Z)
  | .tup xs => some xs
  | z => rdl G z
/-- does y stand in x as a part -/
def subB (x y : List Nat) : Bool := !(Builtin.Str.occurrences ⟨y.toArray⟩ ⟨x.toArray⟩ 0 y.length 1).isEmpty
def zin (G : GH) : Z → Z → Option Bool
  | .str x, .str y => some (subB x y)
  | x, y => match its G y with
    | some ys => zanyB (fun z => zeq dep G z x) ys
    | none => none
def zis (G : GH) : Z → Z → Option Bool
  | .non, .non => some true
  | .bl a, .bl b => some (decide (a = b))
  | .ref _, .non => some false
  | .int _, .non => some false
  | .str _, .non => some false
  | .bl _, .non => some false
  | .tup _, .non => some false
  | .rol _, .non => some false
  | .fn _, .non => some false
  | .cl _, .non => some false
  | .ty _, .non => some false
  | _, _ => none
def zCmp : CmpOp → Z → Z → GH → R Z
  | .Eq, x, y, G => ofB (zeq dep G x y) G
  | .NotEq, x, y, G => ofB ((zeq dep G x y).map (!·)) G
  | .Lt, x, y, G => ofB (zord .lt dep G x y) G
  | .LtE, x, y, G => ofB (zord .le dep G x y) G
  | .Gt, x, y, G => ofB (zord .gt dep G x y) G
  | .GtE, x, y, G => ofB (zord .ge dep G x y) G
  | .In, x, y, G => ofB (zin G x y) G
  | .NotIn, x, y, G => ofB ((zin G x y).map (!·)) G
  | .Is, x, y, G => ofB (zis G x y) G
  | .IsNot, x, y, G => ofB ((zis G x y).map (!·)) G
theorem ofB_some {o : Option Bool} {G : GH} {c : C} {ρ : List Addr} {H : Hp} {Q : VK} {W : QW} (h : RQ c (RZ c) ρ H (ofB o G) Q W) : ∃ b, o = some b ∧ RQ c (RZ c) ρ H (.ok (.bl b) G) Q W := by
  cases o with
  | none => exact h.elim
  | some b => exact ⟨b, rfl, h⟩
section
variable {X : Cx} {pins : List (Addr × Obj)} {σ : L2.St} {H : Hp} {s : Shared} {c : C} {ρ : List Addr} {G : GH} {W : QW}
theorem its_sound (hK : c.K = X.K) (I : Inv X pins σ H s) (R : Rel c ρ H G) {z : Z} {v : V} {u : Value} (r : RZ c ρ H z v) (rv : RelV v u) {xs : List Z} (e : its G z = some xs) :
    ∃ a vs us, u = .ref a ∧ v = .ref a ∧ RZs c ρ H xs vs ∧ Vals vs us ∧ (SqL X.K H a vs ∧ s.heap.IsList a us.toArray ∨ SqT X.K H a vs ∧ IsTup s.heap a us.toArray) := by
  have lst : rdl G z = some xs → ∃ a vs us, u = .ref a ∧ v = .ref a ∧ RZs c ρ H xs vs ∧ Vals vs us ∧ (SqL X.K H a vs ∧ s.heap.IsList a us.toArray ∨ SqT X.K H a vs ∧ IsTup s.heap a us.toArray) := fun e => by
    obtain ⟨a, vs, rfl, h1, h2⟩ := rdl_sound R r e
    obtain ⟨us, g1, g2, _⟩ := I.list (hK ▸ h1)
    exact ⟨a, vs, us, rv, rfl, h2, g1, .inl ⟨hK ▸ h1, g2.isList⟩⟩
  cases z with
  | tup ys =>
    have e' : some ys = some xs := e
    cases e'
    obtain ⟨a, vs, rfl, h1, h2⟩ := un_tup r
    obtain ⟨us, g1, g2, _⟩ := I.tuple (hK ▸ h1)
    exact ⟨a, vs, us, rv, rfl, h2, g1, .inr ⟨hK ▸ h1, g2⟩⟩
  | _ => exact lst e
theorem zanyB_spec {f : Z → Option Bool} : ∀ {xs : List Z} {r : Bool}, zanyB f xs = some r → ∃ e : Nat → Bool, (∀ (j : Nat) x, xs[j]? = some x → f x = some (e j)) ∧ r = (List.range xs.length).any e
  | [], r, h => ⟨fun _ => true, fun j x h1 => by simp at h1, by unfold zanyB at h; cases h; rfl⟩
  | x :: xs, r, h => by
    unfold zanyB at h
    cases e1 : f x with
    | none => rw [e1] at h; cases h
    | some a =>
      cases e2 : zanyB f xs with
      | none => rw [e1, e2] at h; cases h
      | some b =>
        rw [e1, e2] at h
        have h' : some (a || b) = some r := h
        cases h'
        obtain ⟨e, h1, h2⟩ := zanyB_spec e2
        refine ⟨fun j => match j with | 0 => a | j + 1 => e j, fun j x' g1 => ?_, ?_⟩
        · cases j with
          | zero => simp at g1; subst g1; exact e1
          | succ j => exact h1 j x' (by simpa using g1)
        · rw [h2, List.length_cons, List.range_succ_eq_map, List.any_cons, List.any_map]; rfl
/-- in a list or a tuple -/
theorem zin_items (hK : c.K = X.K) (I : Inv X pins σ H s) (R : Rel c ρ H G) {A : Around} (hu : A.units + 50 < cLine) {x : Z} {v : V} {u : Value} (rx : RZ c ρ H x v) (rv : RelV v u) {ys : List Z} {vs : List V} {us : List Value} (h1 : RZs c ρ H ys vs) (h2 : Vals vs us) {r : Bool}
    (h : zanyB (fun z => zeq dep G z x) ys = some r) : ∃ e : Value → Bool, (∀ y, y ∈ us.toArray → EqAt A.in1 s y u (e y)) ∧ us.toArray.any e = r := by
  obtain ⟨e, g1, g2⟩ := zanyB_spec h
  have at_ : ∀ j (hj : j < us.length), EqAt A.in1 s us[j] u (e j) := fun j hj => by
    have l1 : ys.length = us.length := h1.length.trans h2.length
    have q1 : ys[j]? = some ys[j] := List.getElem?_eq_getElem (by omega)
    obtain ⟨v1, p1, p2⟩ := h1.get q1
    obtain ⟨u1, p3, p4⟩ := h2.get p1
    have e1 : us[j] = u1 := by rw [List.getElem?_eq_getElem hj] at p3; exact Option.some.inj p3
    rw [e1]
    exact (zeq_at hK I R dep A.in1 (by show A.units + 1 + 40 < cLine; omega) (g1 j _ q1) p2 rx p4 rv).2.1
  classical
  refine ⟨fun y => decide (∃ j, ∃ hj : j < us.length, us[j] = y ∧ e j = true), fun y hy => ?_, ?_⟩
  · show EqAt A.in1 s y u (decide (∃ j, ∃ hj : j < us.length, us[j] = y ∧ e j = true))
    by_cases q : ∃ j, ∃ hj : j < us.length, us[j] = y ∧ e j = true
    · rw [decide_eq_true q]
      obtain ⟨j, hj, q1, q2⟩ := q
      have := at_ j hj
      rw [q1, q2] at this; exact this
    · rw [decide_eq_false q]
      have hy' : y ∈ us := by simpa using hy
      obtain ⟨j, hj, e1⟩ := List.getElem_of_mem hy'
      have := at_ j hj
      have e2 : e j = false := by
        cases z : e j with
        | false => rfl
        | true => exact absurd ⟨j, hj, e1, z⟩ q
      rw [e1, e2] at this; exact this
  · have l1 : ys.length = us.length := h1.length.trans h2.length
    rw [g2, l1, List.any_toArray]
    rw [Bool.eq_iff_iff]
    simp only [List.any_eq_true, decide_eq_true_eq, List.mem_range]
    constructor
    · rintro ⟨y, _, j, hj, _, q⟩; exact ⟨j, hj, q⟩
    · rintro ⟨j, hj, q⟩; exact ⟨us[j], List.getElem_mem hj, j, hj, rfl, q⟩
theorem occ_eq (x y : List Nat) : (!(Builtin.Str.occurrences ⟨y.toArray⟩ ⟨x.toArray⟩ 0 (⟨y.toArray⟩ : Str).length 1).isEmpty) = subB x y := by
  unfold subB; rw [str_len]
theorem zin_str {x y : Z} {r : Bool} (h : zin G x y = some r) : (∃ a b, x = .str a ∧ y = .str b ∧ r = subB a b) ∨ ∃ ys, its G y = some ys ∧ zanyB (fun z => zeq dep G z x) ys = some r := by
  have other : (match its G y with | some ys => zanyB (fun z => zeq dep G z x) ys | none => none) = some r → ∃ ys, its G y = some ys ∧ zanyB (fun z => zeq dep G z x) ys = some r := fun h => by
    cases e : its G y with
    | none => rw [e] at h; cases h
    | some ys => rw [e] at h; exact ⟨ys, rfl, h⟩
  unfold zin at h
  split at h
  · rename_i a b
    cases h
    exact .inl ⟨a, b, rfl, rfl, rfl⟩
  · exact .inr (other h)
theorem zis_cases {x y : Z} {v w : V} (hx : RZ c ρ H x v) (hy : RZ c ρ H y w) {b : Bool} (e : zis G x y = some b) : (w = .non ∧ b = decide (v = .non)) ∨ ∃ a a', v = .bl a ∧ w = .bl a' ∧ b = decide (a = a') := by
  cases y with
  | non =>
    left
    refine ⟨un_non hy, ?_⟩
    cases x with
    | non => cases e; cases un_non hx; rfl
    | bl _ => cases e; cases un_bl hx; rfl
    | int _ => cases e; cases un_int hx; rfl
    | str _ => cases e; obtain ⟨_, rfl⟩ := un_str hx; rfl
    | tup _ => cases e; obtain ⟨_, _, rfl, _⟩ := un_tup hx; rfl
    | rol _ => cases e; unfold RZ at hx; obtain ⟨_, _, rfl, _⟩ := hx; rfl
    | ref _ => cases e; obtain ⟨_, _, rfl⟩ := un_ref hx; rfl
    | fn _ => cases e; unfold RZ at hx; cases hx; rfl
    | cl _ => cases e; unfold RZ at hx; cases hx; rfl
    | ty _ => cases e; unfold RZ at hx; cases hx; rfl
    | ex => unfold RZ at hx; exact hx.elim
  | bl b' =>
    right
    cases x with
    | bl a => cases e; exact ⟨a, b', un_bl hx, un_bl hy, rfl⟩
    | _ => cases e
  | _ => cases x <;> cases e
theorem cmpz (hK : c.K = X.K) (hu : X.A.units + 60 < cLine) : ∀ op : CmpOp, OpR X (compareOp op) (rz2 c (zCmp op)) := by
  intro op pins s σ H x y v u Q I rx ry h
  obtain ⟨W, ρ, G, zx, zy, R, hx, hy, q⟩ := h
  have eqc : ∀ {r : Bool} {f : Value → Shared → Prop}, zeq dep G zx zy = some r → RcAt X.A s v u r := fun h => (zeq_at hK I R dep X.A (by show X.A.units + 40 < cLine; omega) h hx hy rx ry).1
  have orc : ∀ (o : Oo) {r : Bool}, zord o dep G zx zy = some r → RcOp o.op X.A s v u r := fun o r h => zord_at o hK I R dep X.A (by show X.A.units + 40 < cLine; omega) h hx hy rx ry
  have fin : ∀ {b : Bool}, RQ c (RZ c) ρ H (.ok (.bl b) G) Q W → EP X pins σ Q (.bool b) s := fun {b} q => ⟨.bl b, H, I, rfl, q.here R rz_bl⟩
  cases op with
  | Eq =>
    obtain ⟨b, e, q⟩ := ofB_some (show RQ c (RZ c) ρ H (ofB (zeq dep G zx zy) G) Q W from q)
    exact eqc (f := fun _ _ => True) e X.prog X.w X.xe _ (fin q)
  | NotEq =>
    obtain ⟨b, e, q⟩ := ofB_some (show RQ c (RZ c) ρ H (ofB ((zeq dep G zx zy).map (!·)) G) Q W from q)
    obtain ⟨b', e', rfl⟩ := Option.map_eq_some_iff.mp e
    exact (zeq_at hK I R dep X.A (by show X.A.units + 40 < cLine; omega) e' hx hy rx ry).2.2 X.prog X.w X.xe _ (fin q)
  | Lt =>
    obtain ⟨b, e, q⟩ := ofB_some (show RQ c (RZ c) ρ H (ofB (zord .lt dep G zx zy) G) Q W from q)
    exact orc .lt e X.prog X.w X.xe _ (fin q)
  | LtE =>
    obtain ⟨b, e, q⟩ := ofB_some (show RQ c (RZ c) ρ H (ofB (zord .le dep G zx zy) G) Q W from q)
    exact orc .le e X.prog X.w X.xe _ (fin q)
  | Gt =>
    obtain ⟨b, e, q⟩ := ofB_some (show RQ c (RZ c) ρ H (ofB (zord .gt dep G zx zy) G) Q W from q)
    exact orc .gt e X.prog X.w X.xe _ (fin q)
  | GtE =>
    obtain ⟨b, e, q⟩ := ofB_some (show RQ c (RZ c) ρ H (ofB (zord .ge dep G zx zy) G) Q W from q)
    exact orc .ge e X.prog X.w X.xe _ (fin q)
  | In =>
    obtain ⟨b, e, q⟩ := ofB_some (show RQ c (RZ c) ρ H (ofB (zin G zx zy) G) Q W from q)
    rcases zin_str e with ⟨a, b', rfl, rfl, rfl⟩ | ⟨ys, e1, e2⟩
    · obtain ⟨_, rfl⟩ := un_str hx
      obtain ⟨_, rfl⟩ := un_str hy
      exact op_in_str pins s σ H _ _ v u Q I rx ry ⟨_, _, rfl, rfl, by rw [occ_eq]; exact q.here R rz_bl⟩
    · obtain ⟨p, vs, us, rfl, rfl, h1, h2, h3⟩ := its_sound hK I R hy ry e1
      obtain ⟨f, g1, g2⟩ := zin_items hK I R (A := X.A) (by omega) hx rx h1 h2 e2
      rcases h3 with ⟨_, h3⟩ | ⟨_, h3⟩
      · exact SeqAt.in_listAt f h3 g1 (by rw [g2]; exact fin q)
      · exact SeqAt.in_tupleAt f h3 g1 (by rw [g2]; exact fin q)
  | NotIn =>
    obtain ⟨b, e, q⟩ := ofB_some (show RQ c (RZ c) ρ H (ofB ((zin G zx zy).map (!·)) G) Q W from q)
    obtain ⟨b', e', rfl⟩ := Option.map_eq_some_iff.mp e
    rcases zin_str e' with ⟨a, b', rfl, rfl, rfl⟩ | ⟨ys, e1, e2⟩
    · obtain ⟨_, rfl⟩ := un_str hx
      obtain ⟨_, rfl⟩ := un_str hy
      exact op_notIn_str pins s σ H _ _ v u Q I rx ry ⟨_, _, rfl, rfl, by rw [occ_eq]; exact q.here R rz_bl⟩
    · obtain ⟨p, vs, us, rfl, rfl, h1, h2, h3⟩ := its_sound hK I R hy ry e1
      obtain ⟨f, g1, g2⟩ := zin_items hK I R (A := X.A) (by omega) hx rx h1 h2 e2
      rcases h3 with ⟨_, h3⟩ | ⟨_, h3⟩
      · exact SeqAt.notIn_listAt f h3 g1 (by rw [g2]; exact fin q)
      · exact SeqAt.notIn_tupleAt f h3 g1 (by rw [g2]; exact fin q)
  | Is =>
    obtain ⟨b, e, q⟩ := ofB_some (show RQ c (RZ c) ρ H (ofB (zis G zx zy) G) Q W from q)
    rcases zis_cases hx hy e with ⟨rfl, rfl⟩ | ⟨a, a', rfl, rfl, rfl⟩
    · exact op_isN pins s σ H _ _ v u Q I rx ry ⟨rfl, q.here R rz_bl⟩
    · exact op_is_bl pins s σ H _ _ v u Q I rx ry ⟨_, _, rfl, rfl, q.here R rz_bl⟩
  | IsNot =>
    obtain ⟨b, e, q⟩ := ofB_some (show RQ c (RZ c) ρ H (ofB ((zis G zx zy).map (!·)) G) Q W from q)
    obtain ⟨b', e', rfl⟩ := Option.map_eq_some_iff.mp e
    rcases zis_cases hx hy e' with ⟨rfl, rfl⟩ | ⟨a, a', rfl, rfl, rfl⟩
    · exact op_notN pins s σ H _ _ v u Q I rx ry ⟨rfl, q.here R rz_bl⟩
    · exact op_isnot_bl pins s σ H _ _ v u Q I rx ry ⟨_, _, rfl, rfl, q.here R rz_bl⟩
end
end Zy
end
section
set_option Elab.async false
set_option linter.all false
set_option maxRecDepth 100000
set_option maxHeartbeats 4000000
/-! truth, items, slices, methods, built-in functions -/
namespace Zy
open PySem PySem.Spec PyProof.Rows L2
open PySem.SeqAt (RcAt EqAt RcOp firstLt)

/-! ### truth -/
def zTru (G : GH) : Z → Option Bool
  | .non => some false
  | .bl b => some b
  | .int i => some (i != 0)
  | .str x => some (!x.isEmpty)
  | .tup xs => some (!xs.isEmpty)
  | .rol xs => some (!xs.isEmpty)
  | .ref n => (lstAt G n).map (!·.isEmpty)
  | _ => none
section
variable {X : Cx} {pins : List (Addr × Obj)} {σ : L2.St} {H : Hp} {s : Shared} {c : C} {ρ : List Addr} {G : GH} {W : QW}
theorem emptyZ {zs : List Z} {vs : List V} (h : RZs c ρ H zs vs) : (!zs.isEmpty) = !vs.isEmpty := by
  have := h.length
  cases zs <;> cases vs <;> simp_all
theorem zTru_sound (hK : c.K = X.K) (R : Rel c ρ H G) {z : Z} {v : V} (r : RZ c ρ H z v) {b : Bool} (e : zTru G z = some b) : TruV X.K v H b := by
  cases z with
  | non => cases e; cases un_non r; rfl
  | bl _ => cases e; cases un_bl r; rfl
  | int _ => cases e; cases un_int r; rfl
  | str x =>
    obtain ⟨h1, rfl⟩ := un_str r
    cases e
    show (⟨x.toArray⟩ : Str).length ≤ sizeLine ∧ _
    rw [str_len]
    refine ⟨h1, ?_⟩
    cases x with
    | nil => rfl
    | cons a t =>
      have h2 : ((a :: t).length : Int) ≠ 0 := by
        rw [List.length_cons]; omega
      rw [bne_iff_ne.mpr h2]; rfl
  | tup xs =>
    cases e
    obtain ⟨a, vs, rfl, h1, h2⟩ := un_tup r
    exact .inr (.inl ⟨vs, hK ▸ h1, emptyZ h2⟩)
  | rol xs =>
    cases e
    unfold RZ at r
    obtain ⟨a, vs, rfl, h1, h2⟩ := r
    exact .inl ⟨vs, hK ▸ h1.seq, emptyZ h2⟩
  | ref n =>
    obtain ⟨xs, h, rfl⟩ := Option.map_eq_some_iff.mp (show (lstAt G n).map (!·.isEmpty) = some b from e)
    obtain ⟨a, ha, rfl⟩ := un_ref r
    obtain ⟨vs, h1, h2⟩ := R.lstAt h ha
    exact .inl ⟨vs, SqL.of h1, emptyZ h2⟩
  | _ => cases e

/-! ### items -/
def zIx : Z → Z → GH → R Z
  | .str x, .int i, G => match atI x i with
    | some c => .ok (.str [c]) G
    | none => .bad
  | x, .int i, G => match (its G x).bind fun xs => atI xs i with
    | some z => .ok z G
    | none => .bad
  | _, _, _ => .bad
theorem atI_rel {zs : List Z} {vs : List V} (h : RZs c ρ H zs vs) {i : Int} {z : Z} (e : atI zs i = some z) : ∃ v, atI vs i = some v ∧ RZ c ρ H z v := by
  unfold atI at e ⊢
  rw [← h.length]
  cases q : ixN zs.length i with
  | none => rw [q] at e; cases e
  | some j =>
    rw [q] at e
    obtain ⟨v, h1, h2⟩ := h.get (show zs[j]? = some z from e)
    exact ⟨v, h1, h2⟩
theorem its_at (hK : c.K = X.K) (R : Rel c ρ H G) {z : Z} {v : V} (r : RZ c ρ H z v) {xs : List Z} (e : its G z = some xs) : ∃ a vs, v = .ref a ∧ RZs c ρ H xs vs ∧ (SqL X.K H a vs ∨ SqT X.K H a vs) := by
  have lst : rdl G z = some xs → ∃ a vs, v = .ref a ∧ RZs c ρ H xs vs ∧ (SqL X.K H a vs ∨ SqT X.K H a vs) := fun e => by
    obtain ⟨a, vs, rfl, h1, h2⟩ := rdl_sound R r e
    exact ⟨a, vs, rfl, h2, .inl (hK ▸ h1)⟩
  cases z with
  | tup ys =>
    have e' : some ys = some xs := e
    cases e'
    obtain ⟨a, vs, rfl, h1, h2⟩ := un_tup r
    exact ⟨a, vs, rfl, h2, .inr (hK ▸ h1)⟩
  | _ => exact lst e
theorem ixz (hK : c.K = X.K) : IxR X (rz2 c zIx) := by
  intro value slice pins s σ H x y v u Q I rx ry h hs
  obtain ⟨W, ρ, G, zx, zy, R, hx, hy, q⟩ := h
  cases zy with
  | int i =>
    cases un_int hy
    have other : RQ c (RZ c) ρ H (match (its G zx).bind fun xs => atI xs i with | some z => .ok z G | none => .bad) Q W → wpAny (model X.prog X.w) X.A (subscriptTail value slice v u) (EP X pins σ Q) X.xe s := fun q => by
      cases e : its G zx with
      | none => rw [e] at q; exact q.elim
      | some xs =>
        rw [e] at q
        cases e2 : atI xs i with
        | none => rw [Option.bind_some, e2] at q; exact q.elim
        | some z =>
          rw [Option.bind_some, e2] at q
          obtain ⟨a, vs, rfl, h1, h2⟩ := its_at hK R hx e
          obtain ⟨w, h3, h4⟩ := atI_rel h1 e2
          refine ix_seq value slice pins s σ H _ _ v u Q I rx ry ?_ hs
          rcases h2 with h2 | h2
          · exact .inl ⟨a, vs, i, w, rfl, rfl, h2, h3, q.here R h4⟩
          · exact .inr (.inl ⟨a, vs, i, w, rfl, rfl, h2, h3, q.here R h4⟩)
    cases zx with
    | str x =>
      obtain ⟨h1, rfl⟩ := un_str hx
      cases e : atI x i with
      | none => simp only [zIx, e] at q; exact q.elim
      | some ch =>
        simp only [zIx, e] at q
        refine ix_seq value slice pins s σ H _ _ v u Q I rx ry (.inr (.inr ⟨_, i, ch, rfl, rfl, by rw [str_len]; exact h1, by simpa using e, ?_⟩)) hs
        exact q.here R (rz_str (x := [ch]) (by rw [sizeLine_eq]; simp))
    | _ => exact other q
  | _ => cases zx <;> exact q.elim

/-! ### slices -/
def cutZ {α : Type} (xs : List α) (lo hi : Option Int) : List α := (xs.drop (HT.sIx xs.length 0 lo)).take (HT.sIx xs.length xs.length hi - HT.sIx xs.length 0 lo)
def zSlc : Z → Option Int → Option Int → GH → R Z
  | .str x, lo, hi, G => .ok (.str (cutZ x lo hi)) G
  | .tup xs, lo, hi, G => .ok (.tup (cutZ xs lo hi)) G
  | x, lo, hi, G => match rdl G x with
    | some xs => newO (.lst (cutZ xs lo hi)) G
    | none => .bad
theorem cutZ_len {α : Type} (xs : List α) (lo hi : Option Int) : (cutZ xs lo hi).length ≤ xs.length := by
  unfold cutZ; rw [List.length_take, List.length_drop]; omega
theorem cutZ_rel {zs : List Z} {vs : List V} (h : RZs c ρ H zs vs) (lo hi : Option Int) : RZs c ρ H (cutZ zs lo hi) (cutV vs lo hi) := by
  unfold cutZ cutV
  rw [h.length]
  exact (h.drop _).take _
theorem slz (hK : c.K = X.K) : SlR X (fun x lo hi H Q => ∃ W : QW, ∃ ρ G zx, Rel c ρ H G ∧ RZ c ρ H zx x ∧ RQ c (RZ c) ρ H (zSlc zx lo hi G) Q W) := by
  intro pins s σ H x v vl vu lo hi sl Q I rx hs pl pu h
  obtain ⟨W, ρ, G, zx, R, hx, q⟩ := h
  have other : RQ c (RZ c) ρ H (match rdl G zx with | some xs => newO (.lst (cutZ xs lo hi)) G | none => .bad) Q W → ∃ xs a vs, x = .ref a ∧ SqL X.K H a vs ∧ ∀ p, H p = none → Q (.ref p) (upd H p (.lst (cutV vs lo hi))) := fun q => by
    cases e : rdl G zx with
    | none => rw [e] at q; exact q.elim
    | some xs =>
      rw [e] at q
      obtain ⟨a, vs, rfl, h1, h2⟩ := rdl_sound R hx e
      exact ⟨xs, a, vs, rfl, hK ▸ h1, q.newLst R (cutZ_rel h2 lo hi)⟩
  cases zx with
  | str y =>
    obtain ⟨h1, rfl⟩ := un_str hx
    refine sl_str pins s σ H _ v vl vu lo hi sl Q I rx hs pl pu ⟨_, rfl, by rw [str_len]; exact h1, ?_⟩
    have e : cutS ⟨y.toArray⟩ lo hi = ⟨(cutZ y lo hi).toArray⟩ := by
      unfold cutS cutZ
      rw [str_len]
    rw [e]
    exact (show RQ c (RZ c) ρ H (.ok (.str (cutZ y lo hi)) G) Q W from q).here R (rz_str (Nat.le_trans (cutZ_len _ _ _) h1))
  | tup xs =>
    obtain ⟨a, vs, rfl, h1, h2⟩ := un_tup hx
    have q' : RQ c (RZ c) ρ H (.ok (.tup (cutZ xs lo hi)) G) Q W := q
    refine sl_tupA pins s σ H _ v vl vu lo hi sl Q I rx hs pl pu ⟨a, vs, rfl, hK ▸ h1, fun ⟨e1, e2⟩ => ?_, fun _ => q'.newTup R (cutZ_rel h2 lo hi)⟩
    have e3 : cutZ xs lo hi = xs := by
      unfold cutZ
      rw [h2.length, e1, e2, List.drop_zero, ← h2.length, Nat.sub_zero, List.take_length]
    rw [e3] at q'
    exact q'.here R hx
  | _ =>
    obtain ⟨xs, a, vs, ex, h1, h2⟩ := other q
    exact sl_list pins s σ H x v vl vu lo hi sl Q I rx hs pl pu ⟨a, vs, ex, h1, h2⟩

/-! ### isinstance -/
def tyName (G : GH) : Z → Option String
  | .non => some "NoneType"
  | .bl _ => some "bool"
  | .int _ => some "int"
  | .str _ => some "str"
  | .tup _ => some "tuple"
  | .rol _ => some "list"
  | .ref n => match G[n]? with
    | some (.lst _) => some "list"
    | some (.dK _ _) => some "dict"
    | _ => none
  | _ => none
theorem tyName_sound (hK : c.K = X.K) (R : Rel c ρ H G) {z : Z} {v : V} (r : RZ c ρ H z v) {n : String} (e : tyName G z = some n) : TyX X.K H v (.type n) := by
  cases z with
  | non => cases e; cases un_non r; exact .base .non
  | bl _ => cases e; cases un_bl r; exact .base (.bl _)
  | int _ => cases e; cases un_int r; exact .base (.int _)
  | str x => cases e; obtain ⟨_, rfl⟩ := un_str r; exact .base (.str _)
  | tup xs =>
    cases e
    obtain ⟨a, vs, rfl, h1, h2⟩ := un_tup r
    rcases h1 with (h1 | ⟨o, h1⟩) | ⟨o, its, n, h1, h2, _⟩
    · exact .base (.tup h1)
    · exact .fTuple h1
    · exact .kTuple (hK ▸ h1) h2
  | rol xs =>
    cases e
    unfold RZ at r
    obtain ⟨a, vs, rfl, h1, h2⟩ := r
    rcases h1 with ⟨o, h1⟩ | ⟨o, its, n, h1, h2, _⟩
    · exact .base (.frz h1)
    · exact .kList (hK ▸ h1) h2
  | ref m =>
    obtain ⟨a, ha, rfl⟩ := un_ref r
    replace e : (match G[m]? with
      | some (.lst _) => some "list"
      | some (.dK _ _) => some "dict"
      | _ => none) = some n := e
    split at e
    · rename_i xs h
      cases e
      obtain ⟨b, g1, vs, g2, g3⟩ := R.at h
      rw [ha] at g1; cases g1
      exact .base (.lst g2)
    · rename_i ks xs h
      cases e
      obtain ⟨b, g1, vs, g2, g3⟩ := R.at h
      rw [ha] at g1; cases g1
      exact .base (.dK g2)
    · cases e
  | _ => cases e
theorem RZs.two {x y : Z} {vs : List V} (h : RZs c ρ H [x, y] vs) : ∃ v w, vs = [v, w] ∧ RZ c ρ H x v ∧ RZ c ρ H y w := by
  unfold RZs at h; obtain ⟨v, r, rfl, h1, h2⟩ := h
  unfold RZs at h2; obtain ⟨w, r, rfl, h3, h4⟩ := h2
  unfold RZs at h4; subst h4
  exact ⟨v, w, rfl, h1, h3⟩
theorem RZs.one {x : Z} {vs : List V} (h : RZs c ρ H [x] vs) : ∃ v, vs = [v] ∧ RZ c ρ H x v := by
  unfold RZs at h; obtain ⟨v, r, rfl, h1, h2⟩ := h
  unfold RZs at h2; subst h2
  exact ⟨v, rfl, h1⟩
theorem RZs.nil_ {vs : List V} (h : RZs c ρ H [] vs) : vs = [] := by unfold RZs at h; exact h
/-! ### one, two arguments -/
def on1 (f : Z → GH → R Z) : List Z → GH → R Z
  | [x], G => f x G
  | _, _ => .bad
def on2 (f : Z → Z → GH → R Z) : List Z → GH → R Z
  | [x, y], G => f x y G
  | _, _ => .bad
theorem on1_sound {f : Z → GH → R Z} {Q : VK} {zs : List Z} {xs : List V} (hz : RZs c ρ H zs xs) (q : RQ c (RZ c) ρ H (on1 f zs G) Q W) : ∃ x v, xs = [v] ∧ RZ c ρ H x v ∧ RQ c (RZ c) ρ H (f x G) Q W := by
  match zs, hz, q with
  | [x], hz, q =>
    obtain ⟨v, rfl, h1⟩ := hz.one
    exact ⟨x, v, rfl, h1, q⟩
  | [], hz, q => exact q.elim
  | _ :: _ :: _, hz, q => exact q.elim
theorem on2_sound {f : Z → Z → GH → R Z} {Q : VK} {zs : List Z} {xs : List V} (hz : RZs c ρ H zs xs) (q : RQ c (RZ c) ρ H (on2 f zs G) Q W) : ∃ x y v w, xs = [v, w] ∧ RZ c ρ H x v ∧ RZ c ρ H y w ∧ RQ c (RZ c) ρ H (f x y G) Q W := by
  match zs, hz, q with
  | [x, y], hz, q =>
    obtain ⟨v, w, rfl, h1, h2⟩ := hz.two
    exact ⟨x, y, v, w, rfl, h1, h2, q⟩
  | [], hz, q => exact q.elim
  | [_], hz, q => exact q.elim
  | _ :: _ :: _ :: _, hz, q => exact q.elim
def tyKnown : List String := ["NoneType", "bool", "int", "str", "tuple", "list", "dict", "set"]
def isaB (t n : String) : Option Bool := if tyKnown.contains t && (tyKnown.contains n && n != "NoneType") then some (t == n || (t == "bool" && n == "int")) else none
theorem isaB_all : (tyKnown.all fun t => tyKnown.all fun n => n == "NoneType" || kitB t n == some (t == n || (t == "bool" && n == "int"))) = true := by decide +kernel
theorem isaB_ok {t n : String} {b : Bool} (h : isaB t n = some b) : kitB t n = some b := by
  unfold isaB at h
  split at h
  · rename_i hc
    simp only [Bool.and_eq_true] at hc
    cases h
    have h1 := List.all_eq_true.mp isaB_all t (List.contains_iff_mem.mp hc.1)
    have h2 := List.all_eq_true.mp h1 n (List.contains_iff_mem.mp hc.2.1)
    simp only [Bool.or_eq_true] at h2
    rcases h2 with h2 | h2
    · have h3 := hc.2.2
      rw [beq_iff_eq.mp h2] at h3
      exact absurd h3 (by decide)
    · exact beq_iff_eq.mp h2
  · cases h
def zIsi : Z → Z → GH → R Z
  | x, .ty n, G => match (tyName G x).bind fun t => isaB t n with
    | some b => .ok (.bl b) G
    | none => .bad
  | _, _, _ => .bad
theorem callz_isi (hK : c.K = X.K) : CallR X (.builtin "isinstance") (rzs c (on2 zIsi)) := by
  intro pins s σ H xs us Q I r h
  obtain ⟨W, ρ, G, zs, R, hz, q⟩ := h
  obtain ⟨x, y, v, w, rfl, hx, hy, q⟩ := on2_sound hz q
  cases y with
  | ty n =>
    unfold RZ at hy
    subst hy
    cases e : tyName G x with
    | none => simp only [zIsi, e] at q; exact q.elim
    | some t =>
      cases e2 : isaB t n with
      | none => simp only [zIsi, e, Option.bind_some, e2] at q; exact q.elim
      | some b =>
        simp only [zIsi, e, Option.bind_some, e2] at q
        exact call_isi pins s σ H _ us Q I r ⟨v, .ty n, .type t, .type n, b, rfl, .ty n, tyName_sound hK R hx e, kit_ty (isaB_ok e2), q.here R rz_bl⟩
  | _ => exact q.elim
def zLen : Z → GH → R Z
  | .str x, G => .ok (.int x.length) G
  | x, G => match its G x with
    | some xs => .ok (.int xs.length) G
    | none => .bad
theorem callz_len (hK : c.K = X.K) : CallR X (.builtin "len") (rzs c (on1 zLen)) := by
  intro pins s σ H xs us Q I r h
  obtain ⟨W, ρ, G, zs, R, hz, q⟩ := h
  obtain ⟨x, v, rfl, hx, q⟩ := on1_sound hz q
  have other : RQ c (RZ c) ρ H (match its G x with | some xs => .ok (.int xs.length) G | none => .bad) Q W → wpAny (model X.prog X.w) X.A (call (.builtin "len") us) (EP X pins σ Q) X.xe s := fun q => by
    cases e : its G x with
    | none => rw [e] at q; exact q.elim
    | some ys =>
      rw [e] at q
      obtain ⟨a, vs, rfl, h1, h2⟩ := its_at hK R hx e
      refine call_len pins s σ H _ us Q I r ⟨_, vs.length, rfl, ?_, ?_⟩
      · rcases h2 with h2 | h2
        · exact .inl ⟨vs, h2, rfl⟩
        · exact .inr ⟨vs, h2, rfl⟩
      · rw [← h1.length]; exact q.here R rz_int
  cases x with
  | str y =>
    obtain ⟨h1, rfl⟩ := un_str hx
    refine call_len pins s σ H _ us Q I r ⟨_, y.length, rfl, ⟨by rw [str_len]; exact h1, by rw [str_len]⟩, ?_⟩
    exact (show RQ c (RZ c) ρ H (.ok (.int y.length) G) Q W from q).here R rz_int
  | _ => exact other q
def zAbs : Z → GH → R Z
  | .int i, G => .ok (.int i.natAbs) G
  | _, _ => .bad
theorem callz_abs : CallR X (.builtin "abs") (rzs c (on1 zAbs)) := by
  intro pins s σ H xs us Q I r h
  obtain ⟨W, ρ, G, zs, R, hz, q⟩ := h
  obtain ⟨x, v, rfl, hx, q⟩ := on1_sound hz q
  cases x <;> (try exact q.elim)
  rename_i i
  cases un_int hx
  refine call_abs pins s σ H _ us Q I r ⟨i, rfl, ?_⟩
  have e : (if i < 0 then -i else i) = (i.natAbs : Int) := by split <;> omega
  rw [e]; exact (show RQ c (RZ c) ρ H (.ok (.int i.natAbs) G) Q W from q).here R rz_int
def zMax2 : Z → Z → GH → R Z
  | .int i, .int j, G => .ok (.int (if j > i then j else i)) G
  | _, _, _ => .bad
def zMin2 : Z → Z → GH → R Z
  | .int i, .int j, G => .ok (.int (if j < i then j else i)) G
  | _, _, _ => .bad
def zInt : Z → GH → R Z
  | .int i, G => .ok (.int i) G
  | .bl b, G => .ok (.int (b2z b)) G
  | _, _ => .bad
theorem callz_int : CallR X (.type "int") (rzs c (on1 zInt)) := by
  intro pins s σ H xs us Q I r h
  obtain ⟨W, ρ, G, zs, R, hz, q⟩ := h
  obtain ⟨x, v, rfl, hx, q⟩ := on1_sound hz q
  cases x <;> (try exact q.elim)
  · cases un_bl hx
    exact call_int1 pins s σ H _ us Q I r (.inr ⟨_, rfl, (show RQ c (RZ c) ρ H (.ok (.int (b2z _)) G) Q W from q).here R rz_int⟩)
  · cases un_int hx
    exact call_int1 pins s σ H _ us Q I r (.inl ⟨_, rfl, (show RQ c (RZ c) ρ H (.ok (.int _) G) Q W from q).here R rz_int⟩)
def zBool : Z → GH → R Z
  | .int i, G => .ok (.bl (i != 0)) G
  | .bl b, G => .ok (.bl b) G
  | _, _ => .bad
theorem callz_bool : CallR X (.type "bool") (rzs c (on1 zBool)) := by
  intro pins s σ H xs us Q I r h
  obtain ⟨W, ρ, G, zs, R, hz, q⟩ := h
  obtain ⟨x, v, rfl, hx, q⟩ := on1_sound hz q
  cases x <;> (try exact q.elim)
  · cases un_bl hx
    exact call_bool1 pins s σ H _ us Q I r (.inr ⟨_, rfl, (show RQ c (RZ c) ρ H (.ok (.bl _) G) Q W from q).here R rz_bl⟩)
  · cases un_int hx
    exact call_bool1 pins s σ H _ us Q I r (.inl ⟨_, rfl, RQ.here (z := .bl (_ != 0)) q R rz_bl⟩)
def zTuple : Z → GH → R Z
  | .tup xs, G => .ok (.tup xs) G
  | x, G => match rdl G x with
    | some xs => .ok (.tup xs) G
    | none => .bad
theorem callz_tuple (hK : c.K = X.K) : CallR X (.type "tuple") (rzs c (on1 zTuple)) := by
  intro pins s σ H xs us Q I r h
  obtain ⟨W, ρ, G, zs, R, hz, q⟩ := h
  obtain ⟨x, v, rfl, hx, q⟩ := on1_sound hz q
  have other : RQ c (RZ c) ρ H (match rdl G x with | some xs => .ok (.tup xs) G | none => .bad) Q W → wpAny (model X.prog X.w) X.A (call (.type "tuple") us) (EP X pins σ Q) X.xe s := fun q => by
    cases e : rdl G x with
    | none => rw [e] at q; exact q.elim
    | some ys =>
      rw [e] at q
      obtain ⟨a, vs, rfl, h1, h2⟩ := rdl_sound R hx e
      exact call_tuple_of pins s σ H _ us Q I r ⟨a, vs, rfl, .inl ⟨hK ▸ h1, q.newTup R h2⟩⟩
  cases x with
  | tup ys =>
    obtain ⟨a, vs, rfl, h1, h2⟩ := un_tup hx
    exact call_tuple_of pins s σ H _ us Q I r ⟨a, vs, rfl, .inr ⟨hK ▸ h1, (show RQ c (RZ c) ρ H (.ok (.tup ys) G) Q W from q).here R hx⟩⟩
  | _ => exact other q
def zList : Z → GH → R Z := fun x G => match its G x with
  | some xs => newO (.lst xs) G
  | none => .bad
theorem callz_list (hK : c.K = X.K) : CallR X (.type "list") (rzs c (on1 zList)) := by
  intro pins s σ H xs us Q I r h
  obtain ⟨W, ρ, G, zs, R, hz, q⟩ := h
  obtain ⟨x, v, rfl, hx, q⟩ := on1_sound hz q
  unfold zList at q
  cases e : its G x with
  | none => rw [e] at q; exact q.elim
  | some ys =>
    rw [e] at q
    obtain ⟨a, vs, rfl, h1, h2⟩ := its_at hK R hx e
    exact call_list_of pins s σ H _ us Q I r ⟨a, vs, rfl, h2, q.newLst R h1⟩
/-- the truth values of a list -/
def blsOf : List Z → Option (List Bool)
  | [] => some []
  | .bl b :: r => (blsOf r).map (b :: ·)
  | _ => none
theorem blsOf_eq : ∀ {zs : List Z} {bs : List Bool}, blsOf zs = some bs → zs = bs.map .bl
  | [], bs, h => by unfold blsOf at h; cases h; rfl
  | .bl b :: r, bs, h => by
    unfold blsOf at h
    obtain ⟨cs, h1, rfl⟩ := Option.map_eq_some_iff.mp h
    rw [blsOf_eq h1]; rfl
  | .non :: r, bs, h => by cases h
  | .int _ :: r, bs, h => by cases h
  | .str _ :: r, bs, h => by cases h
  | .tup _ :: r, bs, h => by cases h
  | .rol _ :: r, bs, h => by cases h
  | .ref _ :: r, bs, h => by cases h
  | .fn _ :: r, bs, h => by cases h
  | .cl _ :: r, bs, h => by cases h
  | .ty _ :: r, bs, h => by cases h
theorem bls_rel : ∀ {bs : List Bool} {vs : List V}, RZs c ρ H (bs.map .bl) vs → vs = bs.map V.bl
  | [], vs, h => by unfold RZs at h; exact h
  | b :: bs, vs, h => by
    rw [List.map_cons] at h
    unfold RZs at h
    obtain ⟨v, r, rfl, h1, h2⟩ := h
    rw [un_bl h1, bls_rel h2]; rfl
def intsOf : List Z → Option (List Int)
  | [] => some []
  | .int b :: r => (intsOf r).map (b :: ·)
  | _ => none
theorem intsOf_eq : ∀ {zs : List Z} {bs : List Int}, intsOf zs = some bs → zs = bs.map .int
  | [], bs, h => by unfold intsOf at h; cases h; rfl
  | .int b :: r, bs, h => by
    unfold intsOf at h
    obtain ⟨cs, h1, rfl⟩ := Option.map_eq_some_iff.mp h
    rw [intsOf_eq h1]; rfl
  | .non :: r, bs, h => by cases h
  | .bl _ :: r, bs, h => by cases h
  | .str _ :: r, bs, h => by cases h
  | .tup _ :: r, bs, h => by cases h
  | .rol _ :: r, bs, h => by cases h
  | .ref _ :: r, bs, h => by cases h
  | .fn _ :: r, bs, h => by cases h
  | .cl _ :: r, bs, h => by cases h
  | .ty _ :: r, bs, h => by cases h
theorem ints_rel : ∀ {bs : List Int} {vs : List V}, RZs c ρ H (bs.map .int) vs → vs = bs.map V.int
  | [], vs, h => by unfold RZs at h; exact h
  | b :: bs, vs, h => by
    rw [List.map_cons] at h
    unfold RZs at h
    obtain ⟨v, r, rfl, h1, h2⟩ := h
    rw [un_int h1, ints_rel h2]; rfl
def zAll : Z → GH → R Z := fun x G => match (rdl G x).bind blsOf with
  | some bs => .ok (.bl (bs.all id)) G
  | none => .bad
def zAny : Z → GH → R Z := fun x G => match (rdl G x).bind blsOf with
  | some bs => .ok (.bl (bs.any id)) G
  | none => .bad
def zSum : Z → GH → R Z := fun x G => match (rdl G x).bind intsOf with
  | some bs => .ok (.int bs.sum) G
  | none => .bad
theorem callz_all (hK : c.K = X.K) (hc : X.calm = true) : CallR X (.builtin "all") (rzs c (on1 zAll)) := by
  intro pins s σ H xs us Q I r h
  obtain ⟨W, ρ, G, zs, R, hz, q⟩ := h
  obtain ⟨x, v, rfl, hx, q⟩ := on1_sound hz q
  unfold zAll at q
  cases e : rdl G x with
  | none => rw [e] at q; exact q.elim
  | some ys =>
    rw [e, Option.bind_some] at q
    cases e2 : blsOf ys with
    | none => rw [e2] at q; exact q.elim
    | some bs =>
      rw [e2] at q
      obtain ⟨a, vs, rfl, h1, h2⟩ := rdl_sound R hx e
      rw [blsOf_eq e2] at h2
      exact cr_all hc pins s σ H _ us Q I r ⟨a, bs, rfl, by rw [← bls_rel h2]; exact hK ▸ h1, q.here R rz_bl⟩
theorem callz_any (hK : c.K = X.K) (hc : X.calm = true) : CallR X (.builtin "any") (rzs c (on1 zAny)) := by
  intro pins s σ H xs us Q I r h
  obtain ⟨W, ρ, G, zs, R, hz, q⟩ := h
  obtain ⟨x, v, rfl, hx, q⟩ := on1_sound hz q
  unfold zAny at q
  cases e : rdl G x with
  | none => rw [e] at q; exact q.elim
  | some ys =>
    rw [e, Option.bind_some] at q
    cases e2 : blsOf ys with
    | none => rw [e2] at q; exact q.elim
    | some bs =>
      rw [e2] at q
      obtain ⟨a, vs, rfl, h1, h2⟩ := rdl_sound R hx e
      rw [blsOf_eq e2] at h2
      exact cr_any hc pins s σ H _ us Q I r ⟨a, bs, rfl, by rw [← bls_rel h2]; exact hK ▸ h1, q.here R rz_bl⟩
theorem callz_sum (hK : c.K = X.K) (hc : X.calm = true) : CallR X (.builtin "sum") (rzs c (on1 zSum)) := by
  intro pins s σ H xs us Q I r h
  obtain ⟨W, ρ, G, zs, R, hz, q⟩ := h
  obtain ⟨x, v, rfl, hx, q⟩ := on1_sound hz q
  unfold zSum at q
  cases e : rdl G x with
  | none => rw [e] at q; exact q.elim
  | some ys =>
    rw [e, Option.bind_some] at q
    cases e2 : intsOf ys with
    | none => rw [e2] at q; exact q.elim
    | some bs =>
      rw [e2] at q
      obtain ⟨a, vs, rfl, h1, h2⟩ := rdl_sound R hx e
      rw [intsOf_eq e2] at h2
      exact cr_sum hc pins s σ H _ us Q I r ⟨a, bs, rfl, by rw [← ints_rel h2]; exact hK ▸ h1, q.here R rz_int⟩
theorem callz_max2 (hc : X.calm = true) : CallR X (.builtin "max") (rzs c (on2 zMax2)) := by
  intro pins s σ H xs us Q I r h
  obtain ⟨W, ρ, G, zs, R, hz, q⟩ := h
  obtain ⟨x, y, v, w, rfl, hx, hy, q⟩ := on2_sound hz q
  cases x <;> cases y <;> (try exact q.elim)
  cases un_int hx; cases un_int hy
  exact call_max2 hc pins s σ H _ us Q I r ⟨_, _, rfl, (show RQ c (RZ c) ρ H (.ok (.int _) G) Q W from q).here R rz_int⟩
theorem callz_min2 (hc : X.calm = true) : CallR X (.builtin "min") (rzs c (on2 zMin2)) := by
  intro pins s σ H xs us Q I r h
  obtain ⟨W, ρ, G, zs, R, hz, q⟩ := h
  obtain ⟨x, y, v, w, rfl, hx, hy, q⟩ := on2_sound hz q
  cases x <;> cases y <;> (try exact q.elim)
  cases un_int hx; cases un_int hy
  exact call_min2 hc pins s σ H _ us Q I r ⟨_, _, rfl, (show RQ c (RZ c) ρ H (.ok (.int _) G) Q W from q).here R rz_int⟩
end
end Zy
end
section
set_option Elab.async false
set_option linter.all false
set_option maxRecDepth 100000
set_option maxHeartbeats 4000000
set_option autoImplicit false
/-! what expressions of the text compute on plain data, and that they do -/
namespace Zy
open PySem PySem.Spec PyProof.Rows L2
open PySem.SeqAt (RcAt EqAt RcOp firstLt)

abbrev L := List (Option Z)
abbrev DE := L → GH → R Z
abbrev DA := L → GH → R (List Z)
abbrev DT := L → GH → R Bool
abbrev CF := Nat → List Z → GH → R Z
structure RL (c : C) (ρ : List Addr) (H : Hp) (l : L) (σ : L2.St) : Prop where
  len : l.length = σ.length
  at_ : ∀ (i : Nat) (z : Z), l[i]? = some (some z) → ∃ v, σ[i]? = some (some v) ∧ (RZ c ρ H z v ∨ z = .ex ∧ v = .ref c.dy.xa)
theorem RL.mono {c : C} {ρ ρ' : List Addr} {H H' : Hp} {l : L} {σ : L2.St} (e : Ext ρ H ρ' H') (r : RL c ρ H l σ) : RL c ρ' H' l σ :=
  ⟨r.len, fun i z h => let ⟨v, h1, h2⟩ := r.at_ i z h; ⟨v, h1, h2.imp (fun h => h.mono e) id⟩⟩
theorem RL.set {c : C} {ρ : List Addr} {H : Hp} {l : L} {σ : L2.St} (r : RL c ρ H l σ) {i : Nat} {z : Z} {v : V} (h : RZ c ρ H z v) : RL c ρ H (l.set i (some z)) (σ.set i (some v)) := by
  refine ⟨by simp [r.len], fun j z' e => ?_⟩
  by_cases hj : j = i
  · subst hj
    by_cases hl : j < l.length
    · rw [List.getElem?_set_self hl] at e
      cases e
      exact ⟨v, by rw [List.getElem?_set_self (by rw [← r.len]; exact hl)], .inl h⟩
    · rw [List.getElem?_eq_none (by simpa using hl)] at e; cases e
  · rw [List.getElem?_set_ne (Ne.symm hj)] at e ⊢
    exact r.at_ j z' e
theorem RL.unset {c : C} {ρ : List Addr} {H : Hp} {l : L} {σ : L2.St} (r : RL c ρ H l σ) (i : Nat) : RL c ρ H (l.set i none) (σ.set i none) := by
  refine ⟨by simp [r.len], fun j z' e => ?_⟩
  by_cases hj : j = i
  · subst hj
    by_cases hl : j < l.length
    · rw [List.getElem?_set_self hl] at e; cases e
    · rw [List.getElem?_eq_none (by simpa using hl)] at e; cases e
  · rw [List.getElem?_set_ne (Ne.symm hj)] at e ⊢
    exact r.at_ j z' e

abbrev atW (W : WX) (σ : L2.St) : QW := fun cls d H => W cls d σ H
def rB (ρ : List Addr) (H : Hp) (b : Bool) (b' : Bool) : Prop := b' = b
def tE (c : C) (W : WX) (d : DE) : TE := fun σ H Q => ∃ ρ G l, Rel c ρ H G ∧ RL c ρ H l σ ∧ RQ c (RZ c) ρ H (d l G) Q (atW W σ)
def tT (c : C) (W : WX) (d : DT) : TT := fun σ H Q => ∃ ρ G l, Rel c ρ H G ∧ RL c ρ H l σ ∧ RQ c rB ρ H (d l G) Q (atW W σ)
def tA (c : C) (W : WX) (d : DA) : TA := fun σ H Q => ∃ ρ G l, Rel c ρ H G ∧ RL c ρ H l σ ∧ RQ c (RZs c) ρ H (d l G) Q (atW W σ)
section
variable {c : C} {W : WX} {ρ : List Addr} {H : Hp} {G : GH} {l : L} {σ : L2.St}
/-- first this, then the rest -/
theorem tE.bind {β δ : Type} {rel : List Addr → Hp → β → δ → Prop} {d : DE} {f : Z → GH → R β} {Q : δ → Hp → Prop} {Q' : VK} (R1 : Rel c ρ H G) (hl : RL c ρ H l σ) (q : RQ c rel ρ H ((d l G).bind f) Q (atW W σ))
    (k : ∀ ρ1 H1 G1 z v, Ext ρ H ρ1 H1 → Rel c ρ1 H1 G1 → RL c ρ1 H1 l σ → RZ c ρ1 H1 z v → RQ c rel ρ1 H1 (f z G1) Q (atW W σ) → Q' v H1) : tE c W d σ H Q' :=
  ⟨ρ, G, l, R1, hl, RQ.imp (RQ.bind (rel := RZ c) q) (fun v H1 ⟨ρ1, G1, z, e, r1, rz, q1⟩ => k ρ1 H1 G1 z v e r1 (hl.mono e) rz q1) fun _ _ _ h => h⟩
theorem tT.bind {β δ : Type} {rel : List Addr → Hp → β → δ → Prop} {d : DT} {f : Bool → GH → R β} {Q : δ → Hp → Prop} {Q' : Bool → Hp → Prop} (R1 : Rel c ρ H G) (hl : RL c ρ H l σ) (q : RQ c rel ρ H ((d l G).bind f) Q (atW W σ))
    (k : ∀ ρ1 H1 G1 b, Ext ρ H ρ1 H1 → Rel c ρ1 H1 G1 → RL c ρ1 H1 l σ → RQ c rel ρ1 H1 (f b G1) Q (atW W σ) → Q' b H1) : tT c W d σ H Q' :=
  ⟨ρ, G, l, R1, hl, RQ.imp (RQ.bind (rel := rB) q) (fun v H1 ⟨ρ1, G1, z, e, r1, rz, q1⟩ => by rw [show v = z from rz]; exact k ρ1 H1 G1 z e r1 (hl.mono e) q1) fun _ _ _ h => h⟩
theorem tA.bind {β δ : Type} {rel : List Addr → Hp → β → δ → Prop} {d : DA} {f : List Z → GH → R β} {Q : δ → Hp → Prop} {Q' : List V → Hp → Prop} (R1 : Rel c ρ H G) (hl : RL c ρ H l σ) (q : RQ c rel ρ H ((d l G).bind f) Q (atW W σ))
    (k : ∀ ρ1 H1 G1 z v, Ext ρ H ρ1 H1 → Rel c ρ1 H1 G1 → RL c ρ1 H1 l σ → RZs c ρ1 H1 z v → RQ c rel ρ1 H1 (f z G1) Q (atW W σ) → Q' v H1) : tA c W d σ H Q' :=
  ⟨ρ, G, l, R1, hl, RQ.imp (RQ.bind (rel := RZs c) q) (fun v H1 ⟨ρ1, G1, z, e, r1, rz, q1⟩ => k ρ1 H1 G1 z v e r1 (hl.mono e) rz q1) fun _ _ _ h => h⟩
end
theorem _root_.L2.PE.weak {X : Cx} {e : Expr} {t t' : TE} (h : PE X e t) (w : ∀ σ H Q, t' σ H Q → t σ H Q) : PE X e t' := ⟨fun pins s σ H Q I q => h.run pins s σ H Q I (w σ H Q q)⟩
theorem _root_.L2.PT.weak {X : Cx} {e : Expr} {t t' : TT} (h : PT X e t) (w : ∀ σ H Q, t' σ H Q → t σ H Q) : PT X e t' := ⟨fun pins s σ H Q I q => h.run pins s σ H Q I (w σ H Q q)⟩
theorem _root_.L2.PA.weak {X : Cx} {e : List Expr} {t t' : TA} (h : PA X e t) (w : ∀ σ H Q, t' σ H Q → t σ H Q) : PA X e t' := ⟨fun pos pins s σ H Q I q => h.run pos pins s σ H Q I (w σ H Q q)⟩

/-! ### the meanings -/
def dVar (i : Nat) : DE := fun l G => match l[i]? with
  | some (some .ex) => .bad
  | some (some z) => .ok z G
  | _ => .bad
def dC (z : Z) : DE := fun _ G => .ok z G
def dBin (op : Operator) (a b : DE) : DE := fun l G => (a l G).bind fun x G1 => (b l G1).bind fun y G2 => zBin op x y G2
def dCmp (op : CmpOp) (a b : DE) : DE := fun l G => (a l G).bind fun x G1 => (b l G1).bind fun y G2 => zCmp op x y G2
def dChn (o1 o2 : CmpOp) (a b c : DE) : DE := fun l G => (a l G).bind fun x G1 => (b l G1).bind fun y G2 => (zCmp o1 x y G2).bind fun r G3 => match r with
  | .bl true => (c l G3).bind fun z G4 => zCmp o2 y z G4
  | .bl false => .ok (.bl false) G3
  | _ => .bad
def zNeg : Z → GH → R Z
  | .int i, G => .ok (.int (-i)) G
  | _, _ => .bad
def dNeg (a : DE) : DE := fun l G => (a l G).bind zNeg
def truD {α : Type} (x : Z) (G : GH) (f : Bool → R α) : R α := match zTru G x with
  | some b => f b
  | none => .bad
def dNot (a : DE) : DE := fun l G => (a l G).bind fun x G1 => truD x G1 fun b => .ok (.bl (!b)) G1
def dAnd (a b : DE) : DE := fun l G => (a l G).bind fun x G1 => truD x G1 fun t => if t then b l G1 else .ok x G1
def dOr (a b : DE) : DE := fun l G => (a l G).bind fun x G1 => truD x G1 fun t => if t then .ok x G1 else b l G1
def dTru (a : DE) : DT := fun l G => (a l G).bind fun x G1 => truD x G1 fun b => .ok b G1
def uAnd (a b : DT) : DT := fun l G => (a l G).bind fun t G1 => if t then b l G1 else .ok false G1
def uOr (a b : DT) : DT := fun l G => (a l G).bind fun t G1 => if t then .ok true G1 else b l G1
def uNot (a : DT) : DT := fun l G => (a l G).bind fun t G1 => .ok (!t) G1
/-- a comparison as a test -/
def uB (a : DE) : DT := fun l G => (a l G).bind fun x G1 => match x with
  | .bl b => .ok b G1
  | _ => .bad
def dIf (t : DT) (a b : DE) : DE := fun l G => (t l G).bind fun k G1 => if k then a l G1 else b l G1
def dNil : DA := fun _ G => .ok [] G
def dCons (a : DE) (r : DA) : DA := fun l G => (a l G).bind fun x G1 => (r l G1).bind fun xs G2 => .ok (x :: xs) G2
def dTup (a : DA) : DE := fun l G => (a l G).bind fun xs G1 => if xs.length ≤ sizeLine then .ok (.tup xs) G1 else .bad
def dLst (a : DA) : DE := fun l G => (a l G).bind fun xs G1 => if xs.length ≤ sizeLine then newO (.lst xs) G1 else .bad
def dCall (cf : CF) (k : Nat) (a : DA) : DE := fun l G => (a l G).bind fun xs G1 => cf k xs G1
/-- a built-in function -/
def dFn (f : List Z → GH → R Z) (a : DA) : DE := fun l G => (a l G).bind f
def dIx (a b : DE) : DE := fun l G => (a l G).bind fun x G1 => (b l G1).bind fun y G2 => zIx x y G2
def dNoPart : L → GH → R (Option Int) := fun _ G => .ok none G
def dPart (a : DE) : L → GH → R (Option Int) := fun l G => (a l G).bind fun x G1 => match x with
  | .int i => .ok (some i) G1
  | _ => .bad
def dSlc (a : DE) (lo hi : L → GH → R (Option Int)) : DE := fun l G => (a l G).bind fun x G1 => (lo l G1).bind fun i G2 => (hi l G2).bind fun j G3 => zSlc x i j G3

section
variable {X : Cx} {c : C} {W : WX} {a b : Expr} {da db : DE} {pos : Pos}
theorem se_var {i : Nat} {x : Str} (hN : X.N[i]? = some x) (hv : Vis X.env.scope x) (hd : (x == ("__debug__" : Str)) = false) (hcd : (x == ("__classdict__" : Str)) = false) : PE X (.Name x pos) (tE c W (dVar i)) :=
  (pe_var hN hv hd hcd).weak fun σ H Q ⟨ρ, G, l, R, hl, q⟩ => by
    unfold dVar at q
    split at q
    · exact q.elim
    · rename_i z hz e
      obtain ⟨v, h1, h2⟩ := hl.at_ _ _ e
      refine ⟨v, h1, q.here R (h2.resolve_right fun h => ?_)⟩
      obtain ⟨rfl, _⟩ := h
      first | exact hz rfl | exact hz _ rfl
    · exact q.elim
theorem se_int {i : Int} {j : Nat} : PE X (.Constant (.int i) j pos) (tE c W (dC (.int i))) := pe_int.weak fun σ H Q ⟨ρ, G, l, R, hl, q⟩ => RQ.here (show RQ c (RZ c) ρ H (.ok (.int i) G) Q _ from q) R rz_int
theorem se_bl {i : Bool} {j : Nat} : PE X (.Constant (.bool i) j pos) (tE c W (dC (.bl i))) := pe_bl.weak fun σ H Q ⟨ρ, G, l, R, hl, q⟩ => RQ.here (show RQ c (RZ c) ρ H (.ok (.bl i) G) Q _ from q) R rz_bl
theorem se_non {j : Nat} : PE X (.Constant .none j pos) (tE c W (dC .non)) := pe_non.weak fun σ H Q ⟨ρ, G, l, R, hl, q⟩ => RQ.here (show RQ c (RZ c) ρ H (.ok .non G) Q _ from q) R rz_non
theorem se_str {x : Str} {j : Nat} (h : x.length ≤ sizeLine) : PE X (.Constant (.str x) j pos) (tE c W (dC (.str x.cps.toList))) := pe_str.weak fun σ H Q ⟨ρ, G, l, R, hl, q⟩ => by
  have e : x = ⟨x.cps.toList.toArray⟩ := by cases x; simp
  have h' : x.cps.toList.length ≤ sizeLine := by rw [Array.length_toList]; exact h
  show Q (.str x) H
  rw [e]
  exact RQ.here (show RQ c (RZ c) ρ H (.ok (.str x.cps.toList) G) Q _ from q) R (rz_str h')
theorem se_bin (hK : c.K = X.K) {op : Operator} (ha : PE X a (tE c W da)) (hb : PE X b (tE c W db)) : PE X (.BinOp a op b pos) (tE c W (dBin op da db)) :=
  (pe_op (opz_bin hK op) ha hb).weak fun σ H Q ⟨ρ, G, l, R, hl, q⟩ =>
    tE.bind R hl q fun ρ1 H1 G1 x v e1 R1 l1 r1 q1 => tE.bind R1 l1 q1 fun ρ2 H2 G2 y w e2 R2 l2 r2 q2 => ⟨_, ρ2, G2, x, y, R2, r1.mono e2, r2, q2⟩
theorem se_cmp (hK : c.K = X.K) (hu : X.A.units + 60 < cLine) {op : CmpOp} (ha : PE X a (tE c W da)) (hb : PE X b (tE c W db)) (hm : behindInMarks op b = false) : PE X (.Compare a [op] [b] pos) (tE c W (dCmp op da db)) :=
  (pe_cmpR (cmpz hK hu op) ha hb hm).weak fun σ H Q ⟨ρ, G, l, R, hl, q⟩ =>
    tE.bind R hl q fun ρ1 H1 G1 x v e1 R1 l1 r1 q1 => tE.bind R1 l1 q1 fun ρ2 H2 G2 y w e2 R2 l2 r2 q2 => ⟨_, ρ2, G2, x, y, R2, r1.mono e2, r2, q2⟩
theorem st_cmp (hK : c.K = X.K) (hu : X.A.units + 60 < cLine) {op : CmpOp} (ha : PE X a (tE c W da)) (hb : PE X b (tE c W db)) (hm : behindInMarks op b = false) : PT X (.Compare a [op] [b] pos) (tT c W (uB (dCmp op da db))) :=
  (pt_cmpR (cmpz hK hu op) ha hb hm).weak fun σ H Q ⟨ρ, G, l, R, hl, q⟩ => by
    have q' : RQ c rB ρ H ((da l G).bind fun x G1 => (db l G1).bind fun y G2 => (zCmp op x y G2).bind fun x G1 => match x with | .bl b => .ok b G1 | _ => .bad) Q (atW W σ) := by
      have e : ∀ r : Zy.R Z, ((r.bind fun x G1 => (db l G1).bind fun y G2 => zCmp op x y G2).bind fun x G1 => match x with | .bl b => Zy.R.ok b G1 | _ => .bad) = r.bind fun x G1 => (db l G1).bind fun y G2 => (zCmp op x y G2).bind fun x G1 => match x with | .bl b => .ok b G1 | _ => .bad := by
        intro r
        cases r with
        | bad => rfl
        | exc => rfl
        | ok z G1 =>
          simp only [Zy.R.bind_ok]
          cases db l G1 <;> rfl
      rw [← e]; exact q
    refine tE.bind R hl q' fun ρ1 H1 G1 x v e1 R1 l1 r1 q1 => tE.bind R1 l1 q1 fun ρ2 H2 G2 y w e2 R2 l2 r2 q2 => ?_
    refine ⟨atW W σ, ρ2, G2, x, y, R2, r1.mono e2, r2, ?_⟩
    refine RQ.imp (RQ.bind (rel := RZ c) q2) (fun v' H3 ⟨ρ3, G3, z, e3, R3, rz, q3⟩ => ?_) fun _ _ _ h => h
    cases z with
    | bl k => exact ⟨k, un_bl rz, (show RQ c rB ρ3 H3 (.ok k G3) Q _ from q3) ρ3 H3 k (Ext.refl _ _) R3 rfl⟩
    | _ => exact q3.elim
theorem se_chn (hK : c.K = X.K) (hu : X.A.units + 60 < cLine) {o1 o2 : CmpOp} {e : Expr} {dc : DE} (ha : PE X a (tE c W da)) (hb : PE X b (tE c W db)) (hc : PE X e (tE c W dc)) (hm : lastMarks [o1, o2] [b, e] = false) :
    PE X (.Compare a [o1, o2] [b, e] pos) (tE c W (dChn o1 o2 da db dc)) :=
  (pe_chain (cmpz hK hu o1) (cmpz hK hu o2) ha hb hc hm).weak fun σ H Q ⟨ρ, G, l, R, hl, q⟩ => by
    refine tE.bind R hl q fun ρ1 H1 G1 x v e1 R1 l1 r1 q1 => tE.bind R1 l1 q1 fun ρ2 H2 G2 y w e2 R2 l2 r2 q2 => ?_
    refine ⟨atW W σ, ρ2, G2, x, y, R2, r1.mono e2, r2, ?_⟩
    refine RQ.imp (RQ.bind (rel := RZ c) q2) (fun v' H3 ⟨ρ3, G3, z, e3, R3, rz, q3⟩ => ?_) fun _ _ _ h => h
    cases z with
    | bl k =>
      refine ⟨k, un_bl rz, ?_⟩
      cases k with
      | true =>
        rw [if_pos rfl]
        exact tE.bind R3 (l2.mono e3) (show RQ c (RZ c) ρ3 H3 ((dc l G3).bind fun z G4 => zCmp o2 y z G4) Q (atW W σ) from q3) fun ρ4 H4 G4 z' v4 e4 R4 l4 r4 q4 => ⟨_, ρ4, G4, y, z', R4, (r2.mono e3).mono e4, r4, q4⟩
      | false =>
        rw [if_neg Bool.false_ne_true]
        have q4 : RQ c (RZ c) ρ3 H3 (.ok (.bl false) G3) Q (atW W σ) := q3
        exact q4.here R3 rz_bl
    | _ => exact q3.elim
theorem se_neg (ha : PE X a (tE c W da)) : PE X (.UnaryOp .USub a pos) (tE c W (dNeg da)) :=
  (pe_un un_neg ha).weak fun σ H Q ⟨ρ, G, l, R, hl, q⟩ => tE.bind R hl q fun ρ1 H1 G1 x v e1 R1 l1 r1 q1 => by
    cases x <;> (try exact q1.elim)
    rename_i i
    cases un_int r1
    exact ⟨_, rfl, RQ.here (show RQ c (RZ c) ρ1 H1 (.ok (.int (-i)) G1) Q _ from q1) R1 rz_int⟩
/-- by the truth of a value -/
theorem truD_cases {α β : Type} {rel : List Addr → Hp → α → β → Prop} (hK : c.K = X.K) {ρ : List Addr} {H : Hp} {G : GH} {x : Z} {v : V} {f : Bool → R α} {Q : β → Hp → Prop} {W' : QW} (R1 : Rel c ρ H G) (r : RZ c ρ H x v) (q : RQ c rel ρ H (truD x G f) Q W') :
    ∃ b, TruV X.K v H b ∧ RQ c rel ρ H (f b) Q W' := by
  unfold truD at q
  cases e : zTru G x with
  | none => rw [e] at q; exact q.elim
  | some b => rw [e] at q; exact ⟨b, zTru_sound hK R1 r e, q⟩
theorem se_not (hK : c.K = X.K) (ha : PE X a (tE c W da)) : PE X (.UnaryOp .Not a pos) (tE c W (dNot da)) :=
  (pe_notT ha).weak fun σ H Q ⟨ρ, G, l, R, hl, q⟩ => tE.bind R hl q fun ρ1 H1 G1 x v e1 R1 l1 r1 q1 => by
    obtain ⟨k, h1, q2⟩ := truD_cases hK R1 r1 q1
    exact ⟨k, h1, q2.here R1 rz_bl⟩
theorem se_and {rest : List Expr} (hK : c.K = X.K) (ha : PE X a (tE c W da)) (hb : PE X (.BoolOp .And (b :: rest) pos) (tE c W db)) : PE X (.BoolOp .And (a :: b :: rest) pos) (tE c W (dAnd da db)) :=
  (pe_andT ha hb).weak fun σ H Q ⟨ρ, G, l, R, hl, q⟩ => tE.bind R hl q fun ρ1 H1 G1 x v e1 R1 l1 r1 q1 => by
    obtain ⟨k, h1, q2⟩ := truD_cases hK R1 r1 q1
    refine ⟨k, h1, ?_⟩
    cases k with
    | true => rw [if_pos rfl]; exact ⟨ρ1, G1, l, R1, l1, q2⟩
    | false => rw [if_neg Bool.false_ne_true]; exact RQ.here (show RQ c (RZ c) ρ1 H1 (.ok x G1) Q _ from q2) R1 r1
theorem se_or {rest : List Expr} (hK : c.K = X.K) (ha : PE X a (tE c W da)) (hb : PE X (.BoolOp .Or (b :: rest) pos) (tE c W db)) : PE X (.BoolOp .Or (a :: b :: rest) pos) (tE c W (dOr da db)) :=
  (pe_orT ha hb).weak fun σ H Q ⟨ρ, G, l, R, hl, q⟩ => tE.bind R hl q fun ρ1 H1 G1 x v e1 R1 l1 r1 q1 => by
    obtain ⟨k, h1, q2⟩ := truD_cases hK R1 r1 q1
    refine ⟨k, h1, ?_⟩
    cases k with
    | false => exact ⟨ρ1, G1, l, R1, l1, q2⟩
    | true => exact RQ.here (show RQ c (RZ c) ρ1 H1 (.ok x G1) Q _ from q2) R1 r1
theorem se_one {op : BoolOp} (ha : PE X a (tE c W da)) : PE X (.BoolOp op [a] pos) (tE c W da) := pe_one ha
variable {ta tb : DT}
theorem st_tru (hK : c.K = X.K) (ha : PE X a (tE c W da)) (he : ∀ whole, isTrue a X.env whole = (do let v ← whole; standAt a.pos; holding [v] (truthy v))) : PT X a (tT c W (dTru da)) :=
  (pt_truth ha he).weak fun σ H Q ⟨ρ, G, l, R, hl, q⟩ => tE.bind R hl q fun ρ1 H1 G1 x v e1 R1 l1 r1 q1 => by
    obtain ⟨k, h1, q2⟩ := truD_cases hK R1 r1 q1
    exact ⟨k, h1, q2 ρ1 H1 k (Ext.refl _ _) R1 rfl⟩
theorem st_and1 (ha : PT X a (tT c W ta)) : PW X (.BoolOp .And [a] pos) (tT c W ta) := pw_and1 ha
theorem st_or1 (ha : PT X a (tT c W ta)) : PW X (.BoolOp .Or [a] pos) (tT c W ta) := pw_or1 ha
theorem _root_.L2.PW.weak {e : Expr} {t t' : TT} (h : PW X e t) (w : ∀ σ H Q, t' σ H Q → t σ H Q) : PW X e t' := ⟨fun wh pins s σ H Q I q => h.run wh pins s σ H Q I (w σ H Q q)⟩
theorem st_and {rest : List Expr} (ha : PT X a (tT c W ta)) (hb : PW X (.BoolOp .And (b :: rest) pos) (tT c W tb)) : PW X (.BoolOp .And (a :: b :: rest) pos) (tT c W (uAnd ta tb)) :=
  (pw_and ha hb).weak fun σ H Q ⟨ρ, G, l, R, hl, q⟩ => tT.bind R hl q fun ρ1 H1 G1 k e1 R1 l1 q1 => by
    cases k with
    | true => rw [if_pos rfl]; exact ⟨ρ1, G1, l, R1, l1, q1⟩
    | false => rw [if_neg Bool.false_ne_true]; exact (show RQ c rB ρ1 H1 (.ok false G1) Q _ from q1) ρ1 H1 false (Ext.refl _ _) R1 rfl
theorem st_or {rest : List Expr} (ha : PT X a (tT c W ta)) (hb : PW X (.BoolOp .Or (b :: rest) pos) (tT c W tb)) : PW X (.BoolOp .Or (a :: b :: rest) pos) (tT c W (uOr ta tb)) :=
  (pw_or ha hb).weak fun σ H Q ⟨ρ, G, l, R, hl, q⟩ => tT.bind R hl q fun ρ1 H1 G1 k e1 R1 l1 q1 => by
    cases k with
    | true => rw [if_pos rfl]; exact (show RQ c rB ρ1 H1 (.ok true G1) Q _ from q1) ρ1 H1 true (Ext.refl _ _) R1 rfl
    | false => rw [if_neg Bool.false_ne_true]; exact ⟨ρ1, G1, l, R1, l1, q1⟩
theorem st_not (ha : PT X a (tT c W ta)) : PT X (.UnaryOp .Not a pos) (tT c W (uNot ta)) :=
  (pt_not ha).weak fun σ H Q ⟨ρ, G, l, R, hl, q⟩ => tT.bind R hl q fun ρ1 H1 G1 k e1 R1 l1 q1 => q1 ρ1 H1 (!k) (Ext.refl _ _) R1 rfl
theorem se_if {e : Expr} (ht : PT X e (tT c W ta)) (ha : PE X a (tE c W da)) (hb : PE X b (tE c W db)) : PE X (.IfExp e a b pos) (tE c W (dIf ta da db)) :=
  (pe_ifExp ht ha hb).weak fun σ H Q ⟨ρ, G, l, R, hl, q⟩ => tT.bind R hl q fun ρ1 H1 G1 k e1 R1 l1 q1 => by
    cases k with
    | true => rw [if_pos rfl]; exact ⟨ρ1, G1, l, R1, l1, q1⟩
    | false => rw [if_neg Bool.false_ne_true]; exact ⟨ρ1, G1, l, R1, l1, q1⟩
variable {es : List Expr} {ds : DA}
theorem sa_nil : PA X [] (tA c W dNil) := pa_nil.weak fun σ H Q ⟨ρ, G, l, R, hl, q⟩ => (show RQ c (RZs c) ρ H (.ok [] G) Q _ from q) ρ H [] (Ext.refl _ _) R .nil
theorem sa_cons (ha : PE X a (tE c W da)) (hr : PA X es (tA c W ds)) (hs : starEach (a :: es) X.env = (false, eval a X.env) :: starEach es X.env) : PA X (a :: es) (tA c W (dCons da ds)) :=
  (pa_cons ha hr hs).weak fun σ H Q ⟨ρ, G, l, R, hl, q⟩ => tE.bind R hl q fun ρ1 H1 G1 x v e1 R1 l1 r1 q1 => tA.bind R1 l1 q1 fun ρ2 H2 G2 y w e2 R2 l2 r2 q2 =>
    (show RQ c (RZs c) ρ2 H2 (.ok (x :: y) G2) Q _ from q2) ρ2 H2 _ (Ext.refl _ _) R2 (.cons (r1.mono e2) r2)
theorem se_tup {k : Nat} (h : PA X es (tA c W ds)) : PE X (.Tuple es k pos) (tE c W (dTup ds)) :=
  (pe_tup h).weak fun σ H Q ⟨ρ, G, l, R, hl, q⟩ => tA.bind R hl q fun ρ1 H1 G1 x v e1 R1 l1 r1 q1 => by
    split at q1
    · rename_i hz
      exact ⟨by rw [← r1.length]; exact hz, q1.newTup R1 r1⟩
    · exact q1.elim
theorem se_lst (h : PA X es (tA c W ds)) : PE X (.List es pos) (tE c W (dLst ds)) :=
  (pe_lst h).weak fun σ H Q ⟨ρ, G, l, R, hl, q⟩ => tA.bind R hl q fun ρ1 H1 G1 x v e1 R1 l1 r1 q1 => by
    split at q1
    · rename_i hz
      exact ⟨by rw [← r1.length]; exact hz, q1.newLst R1 r1⟩
    · exact q1.elim
theorem se_ix (hK : c.K = X.K) (ha : PE X a (tE c W da)) (hb : PE X b (tE c W db)) (hs : PlainIx b) : PE X (.Subscript a b pos) (tE c W (dIx da db)) :=
  (pe_ix (ixz hK) ha hb hs).weak fun σ H Q ⟨ρ, G, l, R, hl, q⟩ =>
    tE.bind R hl q fun ρ1 H1 G1 x v e1 R1 l1 r1 q1 => tE.bind R1 l1 q1 fun ρ2 H2 G2 y w e2 R2 l2 r2 q2 => ⟨_, ρ2, G2, x, y, R2, r1.mono e2, r2, q2⟩
def rOI (ρ : List Addr) (H : Hp) (b : Option Int) (b' : Option Int) : Prop := b' = b
def tOI (c : C) (W : WX) (d : L → GH → R (Option Int)) : TO := fun σ H Q => ∃ ρ G l, Rel c ρ H G ∧ RL c ρ H l σ ∧ RQ c rOI ρ H (d l G) Q (atW W σ)
theorem _root_.L2.PO.weak {e : Option Expr} {t t' : TO} (h : PO X e t) (w : ∀ σ H Q, t' σ H Q → t σ H Q) : PO X e t' := ⟨fun pins s σ H Q I q => h.run pins s σ H Q I (w σ H Q q)⟩
theorem so_none : PO X none (tOI c W dNoPart) := po_none.weak fun σ H Q ⟨ρ, G, l, R, hl, q⟩ => (show RQ c rOI ρ H (.ok none G) Q _ from q) ρ H none (Ext.refl _ _) R rfl
theorem so_some (ha : PE X a (tE c W da)) : PO X (some a) (tOI c W (dPart da)) := (po_some ha).weak fun σ H Q ⟨ρ, G, l, R, hl, q⟩ => tE.bind R hl q fun ρ1 H1 G1 x v e1 R1 l1 r1 q1 => by
  cases x <;> (try exact q1.elim)
  rename_i i
  exact ⟨i, un_int r1, (show RQ c rOI ρ1 H1 (.ok (some i) G1) Q _ from q1) ρ1 H1 _ (Ext.refl _ _) R1 rfl⟩
theorem tOI.bind {β δ : Type} {rel : List Addr → Hp → β → δ → Prop} {ρ : List Addr} {H : Hp} {G : GH} {l : L} {σ : L2.St} {d : L → GH → R (Option Int)} {f : Option Int → GH → R β} {Q : δ → Hp → Prop} {Q' : Option Int → Hp → Prop} (R1 : Rel c ρ H G) (hl : RL c ρ H l σ) (q : RQ c rel ρ H ((d l G).bind f) Q (atW W σ))
    (k : ∀ ρ1 H1 G1 b, Ext ρ H ρ1 H1 → Rel c ρ1 H1 G1 → RL c ρ1 H1 l σ → RQ c rel ρ1 H1 (f b G1) Q (atW W σ) → Q' b H1) : tOI c W d σ H Q' :=
  ⟨ρ, G, l, R1, hl, RQ.imp (RQ.bind (rel := rOI) q) (fun v H1 ⟨ρ1, G1, z, e, r1, rz, q1⟩ => by rw [show v = z from rz]; exact k ρ1 H1 G1 z e r1 (hl.mono e) q1) fun _ _ _ h => h⟩
theorem se_slc (hK : c.K = X.K) {lo hi : Option Expr} {dl dh : L → GH → R (Option Int)} {p2 : Pos} (ha : PE X a (tE c W da)) (h1 : PO X lo (tOI c W dl)) (h2 : PO X hi (tOI c W dh)) : PE X (.Subscript a (.Slice lo hi none p2) pos) (tE c W (dSlc da dl dh)) :=
  (pe_slice (slz hK) ha h1 h2).weak fun σ H Q ⟨ρ, G, l, R, hl, q⟩ =>
    tE.bind R hl q fun ρ1 H1 G1 x v e1 R1 l1 r1 q1 => tOI.bind R1 l1 q1 fun ρ2 H2 G2 i e2 R2 l2 q2 => tOI.bind R2 l2 q2 fun ρ3 H3 G3 j e3 R3 l3 q3 => ⟨_, ρ3, G3, x, R3, (r1.mono e2).mono e3, q3⟩

/-! ### calls -/
def spR (c : C) (g : List Z → GH → R Z) : Sp := fun vs H Q E => ∃ ρ G zs, Rel c ρ H G ∧ RZs c ρ H zs vs ∧ RQ c (RZ c) ρ H (g zs G) Q E
theorem run_fnRσ {pins : List (Addr × Obj)} {σ : L2.St} {H : Hp} {s : Shared} {CX : CXT} {k : Nat} {f : Addr} {sp : Sp} {E : XK} {Q : VK} {us : List Value} {vs : List V} (F : FnR X.prog X.w X.K X.mg X.base CX k f sp) (hr : Room k X.A) (hx : PassesAt CX X σ E) (I : Inv X pins σ H s) (r : Vals vs us) (h : sp vs H Q E) :
    wpAny (model X.prog X.w) X.A (call (.ref f) us) (EP X pins σ Q) X.xe s := by
  refine wpAny_call (codeAny_mono (F X.A X.stack s H us vs Q E hr I.env0 r h) fun r s' hq => ?_)
  cases r with
  | error e => exact hx pins H s e s' I hq
  | ok fl =>
    cases fl with
    | ret u => exact I.after hq
    | next => exact False.elim hq
    | brk => exact False.elim hq
    | cont => exact False.elim hq
theorem se_call0 {x : Str} {p : Pos} {cf : CF} {k d : Nat} (F : FnR X.prog X.w X.K X.mg X.base (L2.CX X.prog X.w) d (c.fa k) (spR c (cf k))) (hr : Room d X.A) (tk : Takes X W) (hg : Gl X x) (hm : X.mg x = some (.ref (c.fa k))) (hk : PySem.W.keepIn X.K (.ref (c.fa k)) = true)
    (hdb : (x == ("__debug__" : Str)) = false) : PE X (.Call (.Name x p) [] [] pos) (tE c W (dCall cf k dNil)) := by
  refine ⟨fun pins s σ H Q I ⟨ρ, G, l, R, hl, q⟩ => ?_⟩
  refine wpAny_Call_Name_kw (ld_glob I hg hm ?_ hdb)
  exact PySem.W.callWith_K0 I.kIn hk (run_fnRσ (us := []) (E := atW W σ) F hr (passAt tk σ) I .nil ⟨ρ, G, [], R, .nil, q⟩)
theorem se_call {x : Str} {p : Pos} {e : Expr} {cf : CF} {k d : Nat} (F : FnR X.prog X.w X.K X.mg X.base (L2.CX X.prog X.w) d (c.fa k) (spR c (cf k))) (hr : Room d X.A) (tk : Takes X W) (hg : Gl X x) (hm : X.mg x = some (.ref (c.fa k))) (hk : PySem.W.keepIn X.K (.ref (c.fa k)) = true)
    (ha : PA X (e :: es) (tA c W ds)) (hdb : (x == ("__debug__" : Str)) = false) (he : starEach (e :: es) X.env = (false, eval e X.env) :: starEach es X.env) (hpl : (backTo pos (starEach es X.env)).any (·.1) = false) : PE X (.Call (.Name x p) (e :: es) [] pos) (tE c W (dCall cf k ds)) := by
  refine ⟨fun pins s σ H Q I ⟨ρ, G, l, R, hl, q⟩ => ?_⟩
  refine wpAny_Call_Name_kw (ld_glob I hg hm ?_ hdb)
  have h0 := ha.run pos pins s σ H (fun vs H1 => spR c (cf k) vs H1 Q (atW W σ)) I (tA.bind R hl q fun ρ1 H1 G1 z v e R1 l1 r1 q1 => ⟨ρ1, G1, z, R1, r1, q1⟩)
  exact PySem.W.callWith_K (h₀ := X.base) I.ok.mod.kin hk (thn h0 fun us s1 ⟨vs, H1, I1, r, q⟩ => ⟨I1.kIn, run_fnRσ F hr (passAt tk σ) I1 r q⟩) he hpl
theorem starEach_plain (env : Env) : ∀ {e : Expr} {es : List Expr}, (∀ a p, e ≠ .Starred a p) → starEach (e :: es) env = (false, eval e env) :: starEach es env := by
  intro e es h
  cases e with
  | Starred a p => exact absurd rfl (h a p)
  | _ => rfl
theorem starEach_none (env : Env) (pos : Pos) : ∀ {es : List Expr}, (∀ e ∈ es, ∀ a p, e ≠ .Starred a p) → (backTo pos (starEach es env)).any (·.1) = false
  | [], _ => rfl
  | e :: es, h => by
    rw [starEach_plain env (h e List.mem_cons_self)]
    have := starEach_none env pos (es := es) fun x hx => h x (List.mem_cons_of_mem _ hx)
    simpa [backTo] using this
/-- a built-in function by its name -/
theorem se_callB {x : Str} {p : Pos} {e : Expr} {id : String} {g : List Z → GH → Zy.R Z} (hc : CallR X (.builtin id) (rzs c g)) (hg : Gl X x) (hm : X.mg x = none) (hv : bootBuiltins x = some (.builtin id)) (ha : PA X (e :: es) (tA c W ds)) (hn : x ≠ "__name__") (hdb : (x == ("__debug__" : Str)) = false)
    (he : starEach (e :: es) X.env = (false, eval e X.env) :: starEach es X.env) (hpl : (backTo pos (starEach es X.env)).any (·.1) = false) : PE X (.Call (.Name x p) (e :: es) [] pos) (tE c W (dFn g ds)) :=
  (pe_callB hc hg hm hv ha hn hdb he hpl).weak fun σ H Q ⟨ρ, G, l, R, hl, q⟩ => tA.bind R hl q fun ρ1 H1 G1 z v e1 R1 l1 r1 q1 => ⟨_, ρ1, G1, z, R1, r1, q1⟩
theorem se_callTy {x : Str} {p : Pos} {e : Expr} {id : String} {g : List Z → GH → Zy.R Z} (hc : CallR X (.type id) (rzs c g)) (hg : Gl X x) (hm : X.mg x = none) (hv : bootBuiltins x = some (.type id)) (ha : PA X (e :: es) (tA c W ds)) (hn : x ≠ "__name__") (hdb : (x == ("__debug__" : Str)) = false)
    (he : starEach (e :: es) X.env = (false, eval e X.env) :: starEach es X.env) (hpl : (backTo pos (starEach es X.env)).any (·.1) = false) : PE X (.Call (.Name x p) (e :: es) [] pos) (tE c W (dFn g ds)) :=
  (pe_callTy hc hg hm hv ha hn hdb he hpl).weak fun σ H Q ⟨ρ, G, l, R, hl, q⟩ => tA.bind R hl q fun ρ1 H1 G1 z v e1 R1 l1 r1 q1 => ⟨_, ρ1, G1, z, R1, r1, q1⟩
/-- a global name's value -/
theorem se_glob {x : Str} {p : Pos} {z : Z} {v : V} {u : Value} (hg : Gl X x) (hm : X.mg x = some u) (r : RelV v u) (rz : ∀ ρ H, RZ c ρ H z v) (hd : (x == ("__debug__" : Str)) = false) : PE X (.Name x p) (tE c W (dC z)) :=
  (pe_glob hg hm r hd).weak fun σ H Q ⟨ρ, G, l, R, hl, q⟩ => RQ.here (show RQ c (RZ c) ρ H (.ok z G) Q _ from q) R (rz ρ H)
theorem se_ty {x : Str} {p : Pos} {n : String} (hg : Gl X x) (hm : X.mg x = none) (hv : bootBuiltins x = some (.type n)) (hn : x ≠ "__name__") (hd : (x == ("__debug__" : Str)) = false) : PE X (.Name x p) (tE c W (dC (.ty n))) :=
  (pe_bltn (v := .ty n) hg hm hv rfl hn hd).weak fun σ H Q ⟨ρ, G, l, R, hl, q⟩ => RQ.here (show RQ c (RZ c) ρ H (.ok (.ty n) G) Q _ from q) R (by unfold RZ; rfl)
end
end Zy
end
section
set_option Elab.async false
set_option linter.all false
set_option maxRecDepth 100000
set_option maxHeartbeats 4000000
set_option autoImplicit false
/-! methods of lists and texts -/
namespace Zy
open PySem PySem.Spec PyProof.Rows L2
open PySem.SeqAt (RcAt EqAt RcOp firstLt)

abbrev MF := String → Z → List Z → GH → R Z
/-- the built-in type of a receiver -/
def recvT (G : GH) : Z → Option String
  | .str _ => some "str"
  | .rol _ => some "list"
  | .ref n => (lstAt G n).map fun _ => "list"
  | _ => none
def dMth (m : MF) (ts : List String) (o : DE) (a : DA) : DE := fun l G => (o l G).bind fun x G1 => match recvT G1 x with
  | some T => if ts.contains T then (a l G1).bind fun xs G2 => m T x xs G2 else .bad
  | none => .bad
section
variable {X : Cx} {c : C} {W : WX}
theorem recvT_sound (hK : c.K = X.K) {pins : List (Addr × Obj)} {σ : L2.St} {H : Hp} {s : Shared} {ρ : List Addr} {G : GH} (I : Inv X pins σ H s) (R : Rel c ρ H G) {x : Z} {v : V} {u : Value} (r : RZ c ρ H x v) (rv : RelV v u) {T : String} (e : recvT G x = some T) :
    (T = "str" ∨ T = "list") ∧ s.TypeIs u T ∧ ∀ a, u = .ref a → ∃ ob, s.heap.get? a = some ob ∧ ob.dict = none := by
  cases x with
  | str y => cases e; obtain ⟨_, rfl⟩ := un_str r; exact ⟨.inl rfl, tyV_is I rv (T := "str") rfl⟩
  | rol xs =>
    cases e
    unfold RZ at r
    obtain ⟨a, vs, rfl, h1, h2⟩ := r
    exact ⟨.inr rfl, tyV_is I rv (T := "list") (.inl ⟨rfl, vs, hK ▸ h1.seq⟩)⟩
  | ref n =>
    obtain ⟨xs, h, rfl⟩ := Option.map_eq_some_iff.mp (show (lstAt G n).map (fun _ => "list") = some T from e)
    obtain ⟨a, ha, rfl⟩ := un_ref r
    obtain ⟨vs, h1, h2⟩ := R.lstAt h ha
    exact ⟨.inr rfl, tyV_is I rv (T := "list") (.inl ⟨rfl, vs, SqL.of h1⟩)⟩
  | _ => cases e
/-- a method of a type, by values -/
def rzm (c : C) (g : Z → List Z → GH → R Z) : V → List V → Hp → VK → Prop := fun x xs H Q => ∃ W : QW, ∃ ρ G zx zs, Rel c ρ H G ∧ RZ c ρ H zx x ∧ RZs c ρ H zs xs ∧ RQ c (RZ c) ρ H (g zx zs G) Q W
/-- what the method `name` is at the receivers of type T -/
def MthOk (X : Cx) (c : C) (T : String) (name : Str) (g : Z → List Z → GH → R Z) : Prop :=
  ∃ id, PlainAttrs T ∧ Slot T name id ∧ typeOf (.builtin id) = pure (.type "method_descriptor") ∧ MtR X id (rzm c g)
variable {o e : Expr} {es : List Expr} {dO : DE} {ds : DA} {name : Str} {apos cpos : Pos} {m : MF}
theorem se_mth (hK : c.K = X.K) {ts : List String} (hm : ∀ T ∈ ts, MthOk X c T name (m T)) (ho : PE X o (tE c W dO)) (ha : PA X (e :: es) (tA c W ds))
    (hbase : attributeBase o name X.env (eval o X.env) = eval o X.env)
    (hfew : ((backTo cpos (starEach (e :: es) X.env)).all (fun x => !x.1) && (backToKw cpos (keywordEach [] X.env)).all (fun x => x.1.isSome)
      && decide ((e :: es).length + ([] : List Keyword).length + (if ([] : List Keyword).isEmpty then 0 else 1) < 30)) = true)
    (hline : (apos.endLine == cpos.line) = true) (hs : starEach (e :: es) X.env = (false, eval e X.env) :: starEach es X.env) (hplain : (backTo cpos (starEach es X.env)).any (·.1) = false) :
    PE X (.Call (.Attribute o name apos) (e :: es) [] cpos) (tE c W (dMth m ts dO ds)) := by
  refine ⟨fun pins s σ H Q I ⟨ρ, G, l, R, hl, q⟩ => ?_⟩
  have h0 := ho.run pins s σ H (fun v H1 => ∃ ρ1 G1 x T, Rel c ρ1 H1 G1 ∧ RL c ρ1 H1 l σ ∧ RZ c ρ1 H1 x v ∧ recvT G1 x = some T ∧ T ∈ ts ∧ RQ c (RZ c) ρ1 H1 ((ds l G1).bind fun xs G2 => m T x xs G2) Q (atW W σ)) I
    (tE.bind R hl q fun ρ1 H1 G1 x v e1 R1 l1 r1 q1 => by
      cases e : recvT G1 x with
      | none => rw [e] at q1; exact q1.elim
      | some T =>
        rw [e] at q1
        have q2 : RQ c (RZ c) ρ1 H1 (if ts.contains T then (ds l G1).bind fun xs G2 => m T x xs G2 else .bad) Q (atW W σ) := q1
        split at q2
        · rename_i hT
          exact ⟨ρ1, G1, x, T, R1, l1, r1, e, List.contains_iff_mem.mp hT, q2⟩
        · exact q2.elim)
  refine wpAny_Call_method_late hbase hfew hline rfl (thn h0 fun u s1 ⟨v, H1, I1, rv, ρ1, G1, x, T, R1, l1, r1, eT, hT, q1⟩ => ?_)
  obtain ⟨_, h1, h2⟩ := recvT_sound hK I1 R1 r1 rv eT
  obtain ⟨id, pa, slot, hty, rule⟩ := hm T hT
  refine ⟨T, id, pa, slot, hty, h1, h2, ?_⟩
  have hA := ha.run cpos pins s1 σ H1 (fun vs H2 => rzm c (m T) v vs H2 Q) I1 (tA.bind R1 l1 q1 fun ρ2 H2 G2 zs vs e2 R2 l2 r2 q2 => ⟨_, ρ2, G2, x, zs, R2, r1.mono e2, r2, q2⟩)
  rw [hs] at hA ⊢
  refine Calls.callWith_builtin (by show (false || (backTo cpos (starEach es X.env)).any (·.1)) = false; rw [hplain]; rfl) (Calls.evalArgs_plain ?_)
  exact thn hA fun us s2 ⟨vs, H2, I2, r2, q2⟩ => rule pins s2 σ H2 v vs u us Q I2 rv r2 q2
theorem se_mth0 (hK : c.K = X.K) {ts : List String} (hm : ∀ T ∈ ts, MthOk X c T name (m T)) (ho : PE X o (tE c W dO)) (hbase : attributeBase o name X.env (eval o X.env) = eval o X.env) (hline : (apos.endLine == cpos.line) = true) :
    PE X (.Call (.Attribute o name apos) [] [] cpos) (tE c W (dMth m ts dO dNil)) := by
  refine ⟨fun pins s σ H Q I ⟨ρ, G, l, R, hl, q⟩ => ?_⟩
  have h0 := ho.run pins s σ H (fun v H1 => ∃ ρ1 G1 x T, Rel c ρ1 H1 G1 ∧ RZ c ρ1 H1 x v ∧ recvT G1 x = some T ∧ T ∈ ts ∧ RQ c (RZ c) ρ1 H1 (m T x [] G1) Q (atW W σ)) I
    (tE.bind R hl q fun ρ1 H1 G1 x v e1 R1 l1 r1 q1 => by
      cases e : recvT G1 x with
      | none => rw [e] at q1; exact q1.elim
      | some T =>
        rw [e] at q1
        have q2 : RQ c (RZ c) ρ1 H1 (if ts.contains T then (dNil l G1).bind fun xs G2 => m T x xs G2 else .bad) Q (atW W σ) := q1
        split at q2
        · rename_i hT
          exact ⟨ρ1, G1, x, T, R1, r1, e, List.contains_iff_mem.mp hT, q2⟩
        · exact q2.elim)
  refine wpAny_Call_method0_late hbase hline (thn h0 fun u s1 ⟨v, H1, I1, rv, ρ1, G1, x, T, R1, r1, eT, hT, q1⟩ => ?_)
  obtain ⟨_, h1, h2⟩ := recvT_sound hK I1 R1 r1 rv eT
  obtain ⟨id, pa, slot, hty, rule⟩ := hm T hT
  exact ⟨T, id, pa, slot, hty, h1, h2, Calls.callWith_builtin rfl (PySem.evalArgs_none (rule pins s1 σ H1 v [] u [] Q I1 rv .nil ⟨_, ρ1, G1, x, [], R1, r1, .nil, q1⟩))⟩

/-! ### lists -/
def zAppend : MF := fun _ x zs G => match x, zs with
  | .ref n, [z] => match lstAt G n with
    | some xs => if xs.length < sizeLine then putO n (.lst (xs ++ [z])) .non G else .bad
    | none => .bad
  | _, _ => .bad
def zExtend : MF := fun _ x zs G => match x, zs with
  | .ref n, [.ref m] => match lstAt G n, lstAt G m with
    | some xs, some ys => if xs.length + ys.length ≤ sizeLine then putO n (.lst (xs ++ ys)) .non G else .bad
    | _, _ => .bad
  | _, _ => .bad
def zPop : MF := fun _ x zs G => match x, zs with
  | .ref n, [] => match lstAt G n with
    | some xs => match xs[xs.length - 1]? with
      | some z => putO n (.lst xs.dropLast) z G
      | none => .bad
    | none => .bad
  | .ref n, [.int i] => match lstAt G n with
    | some xs => match seqIndex? i xs.length with
      | some k => match xs[k]? with
        | some z => if decide (-(2 ^ 63) ≤ i) && decide (i < 2 ^ 63) then putO n (.lst (xs.eraseIdx k)) z G else .bad
        | none => .bad
      | none => .bad
    | none => .bad
  | _, _ => .bad
def zresB (f : Z → Option Bool) : List Z → Option (List Bool)
  | [] => some []
  | x :: xs => match f x, zresB f xs with
    | some a, some b => some (a :: b)
    | _, _ => none
def zIndex : MF := fun _ x zs G => match rdl G x, zs with
  | some xs, [z] => match zresB (fun y => zeq dep G y z) xs with
    | some bs => if bs.contains true then .ok (.int (bs.idxOf true)) G else .bad
    | none => .bad
  | _, _ => .bad
theorem mzs_nil {ρ : List Addr} {H : Hp} {vs : List V} (h : RZs c ρ H [] vs) : vs = [] := h.nil_
theorem mt_appendZ : MtR X "list.append" (rzm c (zAppend "list")) := by
  intro pins s σ H x xs v us Q I rx rxs h
  obtain ⟨W, ρ, G, zx, zs, R, hx, hz, q⟩ := h
  unfold zAppend at q
  split at q
  · rename_i n z
    obtain ⟨a, ha, rfl⟩ := un_ref hx
    obtain ⟨w, rfl, hw⟩ := hz.one
    split at q
    · rename_i ys e
      split at q
      · rename_i hl
        obtain ⟨vs, h1, h2⟩ := R.lstAt e ha
        exact mt_append pins s σ H _ _ v us Q I rx rxs ⟨a, vs, w, rfl, rfl, h1, by rw [← h2.length]; exact hl, q.putLst R ha (h2.append (.cons hw .nil)) rz_non⟩
      · exact q.elim
    · exact q.elim
  · exact q.elim
theorem mt_extendZ : MtR X "list.extend" (rzm c (zExtend "list")) := by
  intro pins s σ H x xs v us Q I rx rxs h
  obtain ⟨W, ρ, G, zx, zs, R, hx, hz, q⟩ := h
  unfold zExtend at q
  split at q
  · rename_i n m
    obtain ⟨a, ha, rfl⟩ := un_ref hx
    obtain ⟨w, rfl, hw⟩ := hz.one
    obtain ⟨b, hb, rfl⟩ := un_ref hw
    split at q
    · rename_i ys ws e1 e2
      split at q
      · rename_i hl
        obtain ⟨vs, h1, h2⟩ := R.lstAt e1 ha
        obtain ⟨vs', h3, h4⟩ := R.lstAt e2 hb
        exact mt_extend pins s σ H _ _ v us Q I rx rxs ⟨a, b, vs, vs', rfl, rfl, h1, h3, by rw [← h2.length, ← h4.length]; exact hl, q.putLst R ha (h2.append h4) rz_non⟩
      · exact q.elim
    · exact q.elim
  · exact q.elim
theorem mt_popZ : MtR X "list.pop" (rzm c (zPop "list")) := by
  intro pins s σ H x xs v us Q I rx rxs h
  obtain ⟨W, ρ, G, zx, zs, R, hx, hz, q⟩ := h
  unfold zPop at q
  split at q
  · rename_i n
    obtain ⟨a, ha, rfl⟩ := un_ref hx
    cases hz.nil_
    split at q
    · rename_i ys e
      split at q
      · rename_i z e2
        obtain ⟨vs, h1, h2⟩ := R.lstAt e ha
        obtain ⟨w, h3, h4⟩ := h2.get e2
        rw [h2.length] at h3
        exact mt_pop pins s σ H _ _ v us Q I rx rxs ⟨a, vs, w, rfl, rfl, h1, h3, q.putLst R ha h2.dropLast h4⟩
      · exact q.elim
    · exact q.elim
  · rename_i n i
    obtain ⟨a, ha, rfl⟩ := un_ref hx
    obtain ⟨w, rfl, hw⟩ := hz.one
    cases un_int hw
    split at q
    · rename_i ys e
      split at q
      · rename_i k e1
        split at q
        · rename_i z e2
          split at q
          · rename_i hb
            simp only [Bool.and_eq_true, decide_eq_true_eq] at hb
            obtain ⟨vs, h1, h2⟩ := R.lstAt e ha
            obtain ⟨w, h3, h4⟩ := h2.get e2
            exact mt_popAt pins s σ H _ _ v us Q I rx rxs ⟨a, vs, i, k, w, rfl, rfl, h1, hb.1, hb.2, by rw [← h2.length]; exact e1, h3, q.putLst R ha (h2.eraseIdx k) h4⟩
          · exact q.elim
        · exact q.elim
      · exact q.elim
    · exact q.elim
  · exact q.elim
theorem zresB_spec {f : Z → Option Bool} : ∀ {xs : List Z} {bs : List Bool}, zresB f xs = some bs → xs.length = bs.length ∧ ∀ (j : Nat) x, xs[j]? = some x → ∃ b, f x = some b ∧ bs[j]? = some b
  | [], bs, h => by unfold zresB at h; cases h; exact ⟨rfl, fun j x e => by simp at e⟩
  | x :: xs, bs, h => by
    unfold zresB at h
    split at h
    · rename_i a b e1 e2
      cases h
      obtain ⟨h1, h2⟩ := zresB_spec e2
      refine ⟨by simp [h1], fun j x' e => ?_⟩
      cases j with
      | zero => simp at e; subst e; exact ⟨a, e1, by simp⟩
      | succ j =>
        obtain ⟨b', h3, h4⟩ := h2 j x' (by simpa using e)
        exact ⟨b', h3, by simpa using h4⟩
    · cases h
theorem mt_indexZ (hK : c.K = X.K) (hu : X.A.units + 60 < cLine) : MtR X "list.index" (rzm c (zIndex "list")) := by
  intro pins s σ H x xs v us Q I rx rxs h
  obtain ⟨W, ρ, G, zx, zs, R, hx, hz, q⟩ := h
  unfold zIndex at q
  split at q
  · rename_i ys z e
    obtain ⟨w, rfl, hw⟩ := hz.one
    obtain ⟨a, vs, rfl, h1, h2⟩ := rdl_sound R hx e
    obtain ⟨us', g1, g2, g3⟩ := I.list (hK ▸ h1)
    obtain ⟨u, rfl, ru⟩ := vals1 rxs
    cases rx
    split at q
    · rename_i bs e2
      split at q
      · rename_i hb
        obtain ⟨l1, l2⟩ := zresB_spec e2
        have hlen : us'.length = bs.length := g1.length.symm.trans (h2.length.symm.trans l1)
        refine SeqAt.call_list_index (vs := us') (ks := bs) (k := true) g2.isList ⟨hlen, fun j j1 j2 => ?_⟩ (by rw [← hlen, ← g1.length]; exact g3) (List.contains_iff_mem.mp hb) ⟨.int (bs.idxOf true), H, I.tok _, ⟨_, rfl⟩, q.here R rz_int⟩
        have q1 : ys[j]? = some ys[j] := List.getElem?_eq_getElem (by omega)
        obtain ⟨b, f1, f2⟩ := l2 j _ q1
        obtain ⟨v1, p1, p2⟩ := h2.get q1
        obtain ⟨u1, p3, p4⟩ := g1.get p1
        have e3 : us'[j] = u1 := by rw [List.getElem?_eq_getElem j1] at p3; exact Option.some.inj p3
        have e4 : bs[j] = b := by rw [List.getElem?_eq_getElem j2] at f2; exact Option.some.inj f2
        rw [e3, e4, show decide (b = true) = b by cases b <;> rfl]
        exact (zeq_at hK I R dep X.A.in1 (by show X.A.units + 1 + 40 < cLine; omega) f1 p2 hw p4 ru).2.1
      · exact q.elim
    · exact q.elim
  · exact q.elim
theorem ok_append : ∀ T ∈ ["list"], MthOk X c T "append" (zAppend T) := by
  intro T hT
  obtain rfl : T = "list" := by simpa using hT
  exact ⟨_, PySem.F.plainAttrs_list, PySem.F.slot_list_append, PySem.F.type_list_append, mt_appendZ⟩
theorem ok_extend : ∀ T ∈ ["list"], MthOk X c T "extend" (zExtend T) := by
  intro T hT
  obtain rfl : T = "list" := by simpa using hT
  exact ⟨_, PySem.F.plainAttrs_list, PySem.F.slot_list_extend, PySem.F.type_list_extend, mt_extendZ⟩
theorem ok_pop : ∀ T ∈ ["list"], MthOk X c T "pop" (zPop T) := by
  intro T hT
  obtain rfl : T = "list" := by simpa using hT
  exact ⟨_, PySem.F.plainAttrs_list, PySem.F.slot_list_pop, PySem.F.type_list_pop, mt_popZ⟩
theorem ok_index (hK : c.K = X.K) (hu : X.A.units + 60 < cLine) : ∀ T ∈ ["list"], MthOk X c T "index" (zIndex T) := by
  intro T hT
  obtain rfl : T = "list" := by simpa using hT
  exact ⟨_, PySem.F.plainAttrs_list, PySem.F.slot_list_index, PySem.F.type_list_index, mt_indexZ hK hu⟩
end
end Zy
end
section
set_option Elab.async false
set_option linter.all false
set_option maxRecDepth 100000
set_option maxHeartbeats 4000000
set_option autoImplicit false
/-! statements, loops -/
namespace Zy
open PySem PySem.Spec PyProof.Rows L2
open PySem.SeqAt (RcAt EqAt RcOp firstLt)

inductive S where
  | nx (l : L) (G : GH) | rt (z : Z) (G : GH) | bk (l : L) (G : GH) | ct (l : L) (G : GH) | exc (x : XR) (l : L) (G : GH) | bad
abbrev DS := L → GH → S
def R.st {α : Type} (r : R α) (l : L) (f : α → GH → S) : S := match r with
  | .ok a G => f a G
  | .exc x G => .exc x l G
  | .bad => .bad
@[simp] theorem R.st_ok {α : Type} (a : α) (G : GH) (l : L) (f : α → GH → S) : (R.ok a G).st l f = f a G := rfl
@[simp] theorem R.st_exc {α : Type} (x : XR) (G : GH) (l : L) (f : α → GH → S) : (R.exc x G : R α).st l f = .exc x l G := rfl
@[simp] theorem R.st_bad {α : Type} (l : L) (f : α → GH → S) : (R.bad : R α).st l f = .bad := rfl
def RS (c : C) (ρ : List Addr) (H : Hp) (r : S) (D : Ends) (W : WX) : Prop := match r with
  | .bad => False
  | .nx l G => ∀ ρ' H' σ', Ext ρ H ρ' H' → Rel c ρ' H' G → RL c ρ' H' l σ' → D.nx σ' H'
  | .bk l G => ∀ ρ' H' σ', Ext ρ H ρ' H' → Rel c ρ' H' G → RL c ρ' H' l σ' → D.bk σ' H'
  | .ct l G => ∀ ρ' H' σ', Ext ρ H ρ' H' → Rel c ρ' H' G → RL c ρ' H' l σ' → D.ct σ' H'
  | .rt z G => ∀ ρ' H' v, Ext ρ H ρ' H' → Rel c ρ' H' G → RZ c ρ' H' z v → D.rt v H'
  | .exc x l G => ∀ ρ' H' σ' cls d, Ext ρ H ρ' H' → Rel c ρ' H' G → RL c ρ' H' l σ' → RX c ρ' x cls d → W cls d σ' H'
def tS (c : C) (W : WX) (d : DS) : TS := fun D σ H => ∃ ρ G l, Rel c ρ H G ∧ RL c ρ H l σ ∧ RS c ρ H (d l G) D W
section
variable {c : C} {W W' : WX} {ρ ρ' : List Addr} {H H' : Hp} {G : GH} {l : L} {σ : L2.St} {D D' : Ends}
theorem RS.ext {r : S} (e : Ext ρ H ρ' H') (h : RS c ρ H r D W) : RS c ρ' H' r D W := by
  cases r with
  | bad => exact h
  | nx l G => exact fun ρ2 H2 σ2 e2 => h ρ2 H2 σ2 (e.trans e2)
  | bk l G => exact fun ρ2 H2 σ2 e2 => h ρ2 H2 σ2 (e.trans e2)
  | ct l G => exact fun ρ2 H2 σ2 e2 => h ρ2 H2 σ2 (e.trans e2)
  | rt z G => exact fun ρ2 H2 v e2 => h ρ2 H2 v (e.trans e2)
  | exc x l G => exact fun ρ2 H2 σ2 cl d e2 => h ρ2 H2 σ2 cl d (e.trans e2)
theorem RS.imp {r : S} (h : RS c ρ H r D W) (h1 : ∀ σ H, D.nx σ H → D'.nx σ H) (h2 : ∀ v H, D.rt v H → D'.rt v H) (h3 : ∀ σ H, D.bk σ H → D'.bk σ H) (h4 : ∀ σ H, D.ct σ H → D'.ct σ H) (h5 : ∀ a b σ H, W a b σ H → W' a b σ H) : RS c ρ H r D' W' := by
  cases r with
  | bad => exact h
  | nx l G => exact fun ρ2 H2 σ2 e2 a b => h1 _ _ (h ρ2 H2 σ2 e2 a b)
  | bk l G => exact fun ρ2 H2 σ2 e2 a b => h3 _ _ (h ρ2 H2 σ2 e2 a b)
  | ct l G => exact fun ρ2 H2 σ2 e2 a b => h4 _ _ (h ρ2 H2 σ2 e2 a b)
  | rt z G => exact fun ρ2 H2 v e2 a b => h2 _ _ (h ρ2 H2 v e2 a b)
  | exc x l G => exact fun ρ2 H2 σ2 cl d e2 a b r => h5 _ _ _ _ (h ρ2 H2 σ2 cl d e2 a b r)
/-- an expression, then what its value leads to -/
theorem RQ.of_st {α β : Type} {rel : List Addr → Hp → α → β → Prop} {r : R α} {f : α → GH → S} (hl : RL c ρ H l σ) (h : RS c ρ H (r.st l f) D W) {Q : β → Hp → Prop}
    (k : ∀ ρ1 H1 G1 z v, Ext ρ H ρ1 H1 → Rel c ρ1 H1 G1 → RL c ρ1 H1 l σ → rel ρ1 H1 z v → RS c ρ1 H1 (f z G1) D W → Q v H1) : RQ c rel ρ H r Q (atW W σ) := by
  cases r with
  | bad => exact h
  | exc x G => exact fun ρ1 H1 cl d e R1 rx => h ρ1 H1 σ cl d e R1 (hl.mono e) rx
  | ok z G => exact fun ρ1 H1 v e R1 rz => k ρ1 H1 G z v e R1 (hl.mono e) rz (RS.ext e h)
theorem tE.st {d : DE} {f : Z → GH → S} {Q : VK} (R : Rel c ρ H G) (hl : RL c ρ H l σ) (h : RS c ρ H ((d l G).st l f) D W)
    (k : ∀ ρ1 H1 G1 z v, Ext ρ H ρ1 H1 → Rel c ρ1 H1 G1 → RL c ρ1 H1 l σ → RZ c ρ1 H1 z v → RS c ρ1 H1 (f z G1) D W → Q v H1) : tE c W d σ H Q := ⟨ρ, G, l, R, hl, RQ.of_st hl h k⟩
theorem tT.st {d : DT} {f : Bool → GH → S} {Q : Bool → Hp → Prop} (R : Rel c ρ H G) (hl : RL c ρ H l σ) (h : RS c ρ H ((d l G).st l f) D W)
    (k : ∀ ρ1 H1 G1 b, Ext ρ H ρ1 H1 → Rel c ρ1 H1 G1 → RL c ρ1 H1 l σ → RS c ρ1 H1 (f b G1) D W → Q b H1) : tT c W d σ H Q :=
  ⟨ρ, G, l, R, hl, RQ.of_st (rel := rB) hl h fun ρ1 H1 G1 z v e R1 l1 r q => by rw [show v = z from r]; exact k ρ1 H1 G1 z e R1 l1 q⟩
end
theorem _root_.L2.PS.weak {X : Cx} {e : Stmt} {t t' : TS} (h : PS X e t) (w : ∀ D σ H, t' D σ H → t D σ H) : PS X e t' := ⟨fun pins s σ H Q I q => h.run pins s σ H Q I (w Q σ H q)⟩
theorem _root_.L2.PSs.weak {X : Cx} {e : List Stmt} {t t' : TS} (h : PSs X e t) (w : ∀ D σ H, t' D σ H → t D σ H) : PSs X e t' := ⟨fun pins s σ H Q I q => h.run pins s σ H Q I (w Q σ H q)⟩
theorem _root_.L2.PG.weak {X : Cx} {e : Expr} {t t' : TG} (h : PG X e t) (w : ∀ v σ H Q, t' v σ H Q → t v σ H Q) : PG X e t' := ⟨fun pins s σ H v u Q I r q => h.run pins s σ H v u Q I r (w v σ H Q q)⟩
theorem _root_.L2.PGs.weak {X : Cx} {e : List Expr} {t t' : TGs} (h : PGs X e t) (w : ∀ v σ H Q, t' v σ H Q → t v σ H Q) : PGs X e t' := ⟨fun pins s σ H v u Q I r q => h.run pins s σ H v u Q I r (w v σ H Q q)⟩
theorem _root_.L2.PG.or {X : Cx} {e : Expr} {t t' : TG} (h : PG X e t) (h' : PG X e t') : PG X e (fun v σ H Q => t v σ H Q ∨ t' v σ H Q) := ⟨fun pins s σ H v u Q I r q => q.elim (h.run pins s σ H v u Q I r) (h'.run pins s σ H v u Q I r)⟩
theorem _root_.L2.PI.or {X : Cx} {tg e : Expr} {t t' : TI} (h : PI X tg e t) (h' : PI X tg e t') : PI X tg e (fun σ H Q => t σ H Q ∨ t' σ H Q) := ⟨fun pins s σ H R I q => q.elim (h.run pins s σ H R I) (h'.run pins s σ H R I)⟩
theorem _root_.L2.PI.weak {X : Cx} {tg e : Expr} {t t' : TI} (h : PI X tg e t) (w : ∀ σ H Q, t' σ H Q → t σ H Q) : PI X tg e t' := ⟨fun pins s σ H R I q => h.run pins s σ H R I (w σ H R q)⟩

/-! ### targets -/
abbrev DG := Z → DS
abbrev DGs := List Z → DS
/-- what is asked behind a target -/
def RG (c : C) (ρ : List Addr) (H : Hp) (r : S) (Q : L2.St → Hp → Prop) (W : WX) : Prop := match r with
  | .nx l G => ∀ ρ' H' σ', Ext ρ H ρ' H' → Rel c ρ' H' G → RL c ρ' H' l σ' → Q σ' H'
  | .exc x l G => ∀ ρ' H' σ' cls d, Ext ρ H ρ' H' → Rel c ρ' H' G → RL c ρ' H' l σ' → RX c ρ' x cls d → W cls d σ' H'
  | _ => False
def tG (c : C) (W : WX) (g : DG) : TG := fun v σ H Q => ∃ ρ G l z, Rel c ρ H G ∧ RL c ρ H l σ ∧ RZ c ρ H z v ∧ RG c ρ H (g z l G) Q W
def tGs (c : C) (W : WX) (g : DGs) : TGs := fun vs σ H Q => ∃ ρ G l zs, Rel c ρ H G ∧ RL c ρ H l σ ∧ RZs c ρ H zs vs ∧ RG c ρ H (g zs l G) Q W
/-- one statement's end, then the next -/
def S.seq (r : S) (f : DS) : S := match r with
  | .nx l G => f l G
  | r => r
/-- a target stores; anything but a plain end or an exception is no end of a target -/
def S.tgt (r : S) (f : DS) : S := match r with
  | .nx l G => f l G
  | .exc x l G => .exc x l G
  | _ => .bad
def dgName (i : Nat) : DG := fun z l G => .nx (l.set i (some z)) G
def dgNil : DGs := fun zs l G => match zs with
  | [] => .nx l G
  | _ => .bad
def dgCons (g : DG) (r : DGs) : DGs := fun zs l G => match zs with
  | z :: zs => (g z l G).tgt (r zs)
  | [] => .bad
def dgTup (n : Nat) (g : DGs) : DG := fun z l G => match its G z with
  | some xs => if xs.length = n then g xs l G else .bad
  | none => .bad
def dgSub (o i : DE) : DG := fun z l G => (o l G).st l fun x G1 => (i l G1).st l fun y G2 => match x, y with
  | .ref n, .int k => match lstAt G2 n with
    | some xs => match ixN xs.length k with
      | some j => .nx l (G2.set n (.lst (xs.set j z)))
      | none => .bad
    | none => .bad
  | _, _ => .bad
section
variable {X : Cx} {c : C} {W : WX} {pos : Pos}
theorem RG.ext {ρ ρ' : List Addr} {H H' : Hp} {r : S} {Q : L2.St → Hp → Prop} (e : Ext ρ H ρ' H') (h : RG c ρ H r Q W) : RG c ρ' H' r Q W := by
  cases r with
  | nx l G => exact fun ρ2 H2 σ2 e2 => h ρ2 H2 σ2 (e.trans e2)
  | exc x l G => exact fun ρ2 H2 σ2 cl d e2 => h ρ2 H2 σ2 cl d (e.trans e2)
  | _ => exact h
theorem RG.tgt {ρ : List Addr} {H : Hp} {r : S} {f : DS} {Q : L2.St → Hp → Prop} (h : RG c ρ H (r.tgt f) Q W) {Q' : L2.St → Hp → Prop}
    (k : ∀ ρ1 H1 G1 l1 σ1, Ext ρ H ρ1 H1 → Rel c ρ1 H1 G1 → RL c ρ1 H1 l1 σ1 → RG c ρ1 H1 (f l1 G1) Q W → Q' σ1 H1) : RG c ρ H r Q' W := by
  cases r with
  | nx l G => exact fun ρ1 H1 σ1 e R1 l1 => k ρ1 H1 G l σ1 e R1 l1 (RG.ext e (show RG c ρ H (f l G) Q W from h))
  | exc x l G => exact h
  | _ => exact h
theorem sg_name {i : Nat} {x : Str} (hN : X.N.Nodup) (hi : X.N[i]? = some x) (hx : Loc X.env.scope x) (hf : X.fn x = true ∨ X.env.scope.names.lookup x = some .local) : PG X (.Name x pos) (tG c W (dgName i)) :=
  (pg_name hN hi hx hf).weak fun v σ H Q ⟨ρ, G, l, z, R, hl, rz, q⟩ => q ρ H _ (Ext.refl _ _) R (hl.set rz)
theorem sgs_nil : PGs X [] (tGs c W dgNil) := pgs_nil.weak fun vs σ H Q ⟨ρ, G, l, zs, R, hl, rz, q⟩ => by
  unfold dgNil at q
  split at q
  · exact ⟨rz.nil_, q ρ H _ (Ext.refl _ _) R hl⟩
  · exact q.elim
theorem sgs_cons {e : Expr} {es : List Expr} {g : DG} {gs : DGs} (h1 : PG X e (tG c W g)) (h2 : PGs X es (tGs c W gs)) (hp : PGs X (e :: es) (gCons (tG c W g) (tGs c W gs))) : PGs X (e :: es) (tGs c W (dgCons g gs)) :=
  hp.weak fun vs σ H Q ⟨ρ, G, l, zs, R, hl, rz, q⟩ => by
    unfold dgCons at q
    split at q
    · rename_i z zs
      unfold RZs at rz
      obtain ⟨v, r, rfl, h3, h4⟩ := rz
      exact ⟨v, r, rfl, ρ, G, l, z, R, hl, h3, RG.tgt q fun ρ1 H1 G1 l1 σ1 e R1 r1 q1 => ⟨ρ1, G1, l1, zs, R1, r1, h4.mono e, q1⟩⟩
    · exact q.elim
theorem sg_tup (hK : c.K = X.K) (hc : X.calm = true) {es : List Expr} {k n : Nat} {g : DGs} (h : PGs X es (tGs c W g)) (hn : (assignEach es X.env).length = n) (hst : (assignEach es X.env).findIdx? (·.1) = none) : PG X (.Tuple es k pos) (tG c W (dgTup n g)) :=
  ((pg_tup hc h hn hst).or (pg_unl hc h hn hst)).weak fun v σ H Q ⟨ρ, G, l, z, R, hl, rz, q⟩ => by
    unfold dgTup at q
    split at q
    · rename_i xs e
      split at q
      · rename_i hz
        obtain ⟨a, vs, rfl, h1, h2⟩ := its_at hK R rz e
        rcases h2 with h2 | h2
        · exact .inr ⟨a, vs, rfl, h2, by rw [← h1.length]; exact hz, ρ, G, l, xs, R, hl, h1, q⟩
        · exact .inl ⟨a, vs, rfl, h2, by rw [← h1.length]; exact hz, ρ, G, l, xs, R, hl, h1, q⟩
      · exact q.elim
    · exact q.elim
theorem RQ.of_rg {ρ : List Addr} {H : Hp} {G : GH} {l : L} {σ : L2.St} {d : DE} {f : Z → GH → S} {Q0 : L2.St → Hp → Prop} {Q : VK} (R : Rel c ρ H G) (hl : RL c ρ H l σ) (h : RG c ρ H ((d l G).st l f) Q0 W)
    (k : ∀ ρ1 H1 G1 z v, Ext ρ H ρ1 H1 → Rel c ρ1 H1 G1 → RL c ρ1 H1 l σ → RZ c ρ1 H1 z v → RG c ρ1 H1 (f z G1) Q0 W → Q v H1) : tE c W d σ H Q := by
  refine ⟨ρ, G, l, R, hl, ?_⟩
  cases e : d l G with
  | bad => rw [e] at h; exact h
  | exc x G' => rw [e] at h; exact fun ρ1 H1 cl d e R1 rx => h ρ1 H1 σ cl d e R1 (hl.mono e) rx
  | ok z G' => rw [e] at h; exact fun ρ1 H1 v e R1 rz => k ρ1 H1 G' z v e R1 (hl.mono e) rz (RG.ext e h)
theorem sg_sub {o i : Expr} {dO di : DE} (ho : PE X o (tE c W dO)) (hi : PE X i (tE c W di)) (hp : PG X (.Subscript o i pos) (gSub (tE c W dO) (tE c W di) rSetL)) : PG X (.Subscript o i pos) (tG c W (dgSub dO di)) :=
  hp.weak fun v σ H Q ⟨ρ, G, l, z, R, hl, rz, q⟩ => by
    refine RQ.of_rg R hl q fun ρ1 H1 G1 x w e1 R1 l1 r1 q1 => RQ.of_rg R1 l1 q1 fun ρ2 H2 G2 y u e2 R2 l2 r2 q2 => ?_
    split at q2
    · rename_i n k
      obtain ⟨a, ha, rfl⟩ := un_ref (r1.mono e2)
      cases un_int r2
      split at q2
      · rename_i xs e3
        split at q2
        · rename_i j e4
          obtain ⟨vs, h1, h2⟩ := R2.lstAt e3 ha
          have rz2 := (rz.mono e1).mono e2
          obtain ⟨R3, e5⟩ := R2.put (z := .lst (xs.set j z)) ha ⟨vs.set j v, rfl, h2.set j rz2⟩
          exact ⟨a, vs, k, j, rfl, rfl, h1, by rw [← h2.length]; exact e4, q2 ρ2 _ _ e5 R3 (l2.mono e5)⟩
        · exact q2.elim
      · exact q2.elim
    · exact q2.elim

/-! ### plain statements -/
def dRet (a : DE) : DS := fun l G => (a l G).st l fun z G1 => .rt z G1
def dRetN : DS := fun _ G => .rt .non G
def dExp (a : DE) : DS := fun l G => (a l G).st l fun _ G1 => .nx l G1
def dAsg (g : DG) (a : DE) : DS := fun l G => (a l G).st l fun z G1 => (g z l G1).tgt .nx
def dIfS (t : DT) (a b : DS) : DS := fun l G => (t l G).st l fun k G1 => if k then a l G1 else b l G1
def dNop : DS := .nx
def dBrk : DS := .bk
def dCnt : DS := .ct
def dSeq (a b : DS) : DS := fun l G => (a l G).seq b
def dAug (i : Nat) (op : Operator) (a : DE) : DS := fun l G => match l[i]? with
  | some (some x) => (a l G).st l fun y G1 => (zBin op x y G1).st l fun z G2 => .nx (l.set i (some z)) G2
  | _ => .bad
variable {e : Expr} {de : DE} {st : Stmt} {ds : DS}
theorem ss_ret (h : PE X e (tE c W de)) : PS X (.Return (some e) pos) (tS c W (dRet de)) := (ps_ret h).weak fun D σ H ⟨ρ, G, l, R, hl, q⟩ => tE.st R hl q fun ρ1 H1 G1 z v e1 R1 l1 r1 q1 => q1 ρ1 H1 v (Ext.refl _ _) R1 r1
theorem ss_retN : PS X (.Return none pos) (tS c W dRetN) := ps_retN.weak fun D σ H ⟨ρ, G, l, R, hl, q⟩ => (show RS c ρ H (.rt .non G) D W from q) ρ H _ (Ext.refl _ _) R rz_non
theorem ss_exp (h : PE X e (tE c W de)) (hs : swapsWith e none pos.line X.env = pure false) : PS X (.Expr e pos) (tS c W (dExp de)) := (ps_expr h hs).weak fun D σ H ⟨ρ, G, l, R, hl, q⟩ => tE.st R hl q fun ρ1 H1 G1 z v e1 R1 l1 r1 q1 => q1 ρ1 H1 σ (Ext.refl _ _) R1 l1
theorem RS.tgt {ρ : List Addr} {H : Hp} {r : S} {D : Ends} (h : RS c ρ H (r.tgt .nx) D W) : RG c ρ H r D.nx W := by
  cases r with
  | nx l G => exact h
  | exc x l G => exact h
  | _ => exact h
theorem ss_asg {tg : Expr} {g : DG} (h : PE X e (tE c W de)) (hg : PG X tg (tG c W g)) (hs : swapsWithSole [tg] e pos.line X.env = pure false) (hw : swappedStores [tg] e X.env = pure none) (h1 : (assignEach [tg] X.env).map (·.2) = [assign tg X.env]) : PS X (.Assign [tg] e pos) (tS c W (dAsg g de)) :=
  (ps_asg h hg hs hw h1).weak fun D σ H ⟨ρ, G, l, R, hl, q⟩ => tE.st R hl q fun ρ1 H1 G1 z v e1 R1 l1 r1 q1 => ⟨ρ1, G1, l, z, R1, l1, r1, RS.tgt q1⟩
theorem ss_if {t : Expr} {a b : List Stmt} {dt : DT} {da db : DS} (ht : PT X t (tT c W dt)) (ha : PSs X a (tS c W da)) (hb : PSs X b (tS c W db)) : PS X (.If t a b pos) (tS c W (dIfS dt da db)) :=
  (ps_if ht ha hb).weak fun D σ H ⟨ρ, G, l, R, hl, q⟩ => tT.st R hl q fun ρ1 H1 G1 k e1 R1 l1 q1 => by
    cases k with
    | true => rw [if_pos rfl]; exact ⟨ρ1, G1, l, R1, l1, q1⟩
    | false => rw [if_neg Bool.false_ne_true]; exact ⟨ρ1, G1, l, R1, l1, q1⟩
theorem ss_pass : PS X (.Pass pos) (tS c W dNop) := ps_pass.weak fun D σ H ⟨ρ, G, l, R, hl, q⟩ => (show RS c ρ H (.nx l G) D W from q) ρ H σ (Ext.refl _ _) R hl
theorem ss_break : PS X (.Break pos) (tS c W dBrk) := ps_break.weak fun D σ H ⟨ρ, G, l, R, hl, q⟩ => (show RS c ρ H (.bk l G) D W from q) ρ H σ (Ext.refl _ _) R hl
theorem ss_cont : PS X (.Continue pos) (tS c W dCnt) := ps_continue.weak fun D σ H ⟨ρ, G, l, R, hl, q⟩ => (show RS c ρ H (.ct l G) D W from q) ρ H σ (Ext.refl _ _) R hl
theorem sss_nil : PSs X [] (tS c W dNop) := pss_nil.weak fun D σ H ⟨ρ, G, l, R, hl, q⟩ => (show RS c ρ H (.nx l G) D W from q) ρ H σ (Ext.refl _ _) R hl
theorem sss_cons {rest : List Stmt} {dr : DS} (h1 : PS X st (tS c W ds)) (h2 : PSs X rest (tS c W dr)) : PSs X (st :: rest) (tS c W (dSeq ds dr)) :=
  (pss_cons h1 h2).weak fun D σ H ⟨ρ, G, l, R, hl, q⟩ => ⟨ρ, G, l, R, hl, by
    unfold dSeq at q
    cases e : ds l G with
    | nx l' G' => rw [e] at q; exact fun ρ1 H1 σ1 e1 R1 r1 => ⟨ρ1, G', l', R1, r1, RS.ext e1 q⟩
    | _ => rw [e] at q; exact q⟩
theorem augz (hK : c.K = X.K) {op : Operator} (ho : op = .Add ∨ op = .Sub) : PIp X op (fun x y H Q => ∃ W : QW, ∃ ρ G zx zy, Rel c ρ H G ∧ RZ c ρ H zx x ∧ RZ c ρ H zy y ∧ (∃ i j, zx = .int i ∧ zy = .int j) ∧ RQ c (RZ c) ρ H (zBin op zx zy G) Q W) := by
  rcases ho with rfl | rfl
  · intro pins s σ H x y v u Q I rx ry h
    obtain ⟨W, ρ, G, zx, zy, R, hx, hy, ⟨i, j, rfl, rfl⟩, q⟩ := h
    cases un_int hx; cases un_int hy
    exact ip_add pins s σ H _ _ v u Q I rx ry ⟨i, j, rfl, rfl, RQ.here (show RQ c (RZ c) ρ H (.ok (.int (i + j)) G) Q W from q) R rz_int⟩
  · intro pins s σ H x y v u Q I rx ry h
    obtain ⟨W, ρ, G, zx, zy, R, hx, hy, ⟨i, j, rfl, rfl⟩, q⟩ := h
    cases un_int hx; cases un_int hy
    exact ip_sub pins s σ H _ _ v u Q I rx ry ⟨i, j, rfl, rfl, RQ.here (show RQ c (RZ c) ρ H (.ok (.int (i - j)) G) Q W from q) R rz_int⟩
end
end Zy
end
section
set_option Elab.async false
set_option linter.all false
set_option maxRecDepth 100000
set_option maxHeartbeats 4000000
set_option autoImplicit false
/-! loops and comprehensions -/
namespace Zy
open PySem PySem.Spec PyProof.Rows L2
open PySem.SeqAt (RcAt EqAt RcOp firstLt)

/-- what is walked: items that stand, or a list of the heap -/
inductive Wk where
  | pure (xs : List Z) | live (n : Nat) (len : Nat)
def Wk.len : Wk → Nat
  | .pure xs => xs.length
  | .live _ n => n
/-- the item of a turn; the end; neither -/
def itNext (it : Wk) (G : GH) (i : Nat) : Option (Option Z) := match it with
  | .pure xs => some xs[i]?
  | .live n len => match lstAt G n with
    | some xs => if xs.length = len then some xs[i]? else none
    | none => none
abbrev DI := L → GH → R Wk
structure ItRel (c : C) (ρ : List Addr) (H : Hp) (it : Wk) (J : It) : Prop where
  go : ∀ ρ1 H1 G1 i z, Ext ρ H ρ1 H1 → Rel c ρ1 H1 G1 → itNext it G1 i = some (some z) → J.go i H1 ∧ ∀ x H2, J.yld i H1 x H2 → Ext ρ1 H1 ρ1 H2 ∧ Rel c ρ1 H2 G1 ∧ RZ c ρ1 H2 z x
  stop : ∀ ρ1 H1 G1 i, Ext ρ H ρ1 H1 → Rel c ρ1 H1 G1 → itNext it G1 i = some none → J.stop i H1
def tI (c : C) (W : WX) (di : DI) : TI := fun σ H Q => ∃ ρ G l, Rel c ρ H G ∧ RL c ρ H l σ ∧ RQ c (fun ρ H it J => ItRel c ρ H it J) ρ H (di l G) (fun J H' => Q J H') (atW W σ)
def toItr (G : GH) : Z → Option Wk
  | .tup xs => some (.pure xs)
  | .rol xs => some (.pure xs)
  | .str x => some (.pure (x.map fun ch => .str [ch]))
  | .ref n => (lstAt G n).map fun xs => .live n xs.length
  | _ => none
def dIter (a : DE) : DI := fun l G => (a l G).bind fun x G1 => match toItr G1 x with
  | some it => .ok it G1
  | none => .bad
def rngZ (lo hi : Int) : List Z := (List.range (hi - lo).toNat).map fun (i : Nat) => Z.int (lo + (i : Int))
def okR (i : Int) : Bool := decide (-(2 ^ 62) ≤ i) && decide (i < 2 ^ 62)
def dRng1 (a : DA) : DI := fun l G => (a l G).bind fun xs G1 => match xs with
  | [.int j] => if okR j then .ok (.pure (rngZ 0 j)) G1 else .bad
  | _ => .bad
def dRng2 (a : DA) : DI := fun l G => (a l G).bind fun xs G1 => match xs with
  | [.int i, .int j] => if okR i && okR j then .ok (.pure (rngZ i j)) G1 else .bad
  | _ => .bad
section
variable {X : Cx} {c : C} {W : WX} {ρ : List Addr} {H : Hp} {G : GH}
theorem itr_tup {xs : List Z} {a : Addr} {vs : List V} (h : SqT c.K H a vs) (r : RZs c ρ H xs vs) : ItRel c ρ H (.pure xs) (Itt c.K a) := by
  refine ⟨fun ρ1 H1 G1 i z e R1 hn => ?_, fun ρ1 H1 G1 i e R1 hn => ?_⟩
  · obtain ⟨v, h1, h2⟩ := r.get (show xs[i]? = some z from Option.some.inj hn)
    refine ⟨⟨vs, v, e.st.seq h, h1⟩, fun x H2 hy => ?_⟩
    obtain ⟨rfl, hy⟩ := hy
    have := hy vs (e.st.seq h)
    rw [h1] at this; cases this
    exact ⟨Ext.refl _ _, R1, h2.mono e⟩
  · refine ⟨vs, e.st.seq h, ?_⟩
    rw [← r.length]
    exact List.getElem?_eq_none_iff.mp (show xs[i]? = none from Option.some.inj hn)
theorem itr_rol {xs : List Z} {a : Addr} {vs : List V} (h : RoL c H a vs) (r : RZs c ρ H xs vs) : ItRel c ρ H (.pure xs) (Itl c.K a) := by
  refine ⟨fun ρ1 H1 G1 i z e R1 hn => ?_, fun ρ1 H1 G1 i e R1 hn => ?_⟩
  · obtain ⟨v, h1, h2⟩ := r.get (show xs[i]? = some z from Option.some.inj hn)
    refine ⟨⟨vs, v, (e.st.ro h).seq, h1⟩, fun x H2 hy => ?_⟩
    obtain ⟨rfl, hy⟩ := hy
    have := hy vs (e.st.ro h).seq
    rw [h1] at this; cases this
    exact ⟨Ext.refl _ _, R1, h2.mono e⟩
  · refine ⟨vs, (e.st.ro h).seq, ?_⟩
    rw [← r.length]
    exact List.getElem?_eq_none_iff.mp (show xs[i]? = none from Option.some.inj hn)
theorem itr_live {n len : Nat} {a : Addr} (h : ρ[n]? = some a) : ItRel c ρ H (.live n len) (Itl c.K a) := by
  have key : ∀ {ρ1 H1 G1 i o}, Ext ρ H ρ1 H1 → Rel c ρ1 H1 G1 → itNext (.live n len) G1 i = some o → ∃ xs vs, H1 a = some (.lst vs) ∧ RZs c ρ1 H1 xs vs ∧ xs[i]? = o := by
    intro ρ1 H1 G1 i o e R1 hn
    unfold itNext at hn
    simp only at hn
    split at hn
    · rename_i xs hx
      split at hn
      · obtain ⟨vs, g1, g2⟩ := R1.lstAt hx (pre_get e.pre h)
        exact ⟨xs, vs, g1, g2, Option.some.inj hn⟩
      · cases hn
    · cases hn
  refine ⟨fun ρ1 H1 G1 i z e R1 hn => ?_, fun ρ1 H1 G1 i e R1 hn => ?_⟩
  · obtain ⟨xs, vs, g1, g2, g3⟩ := key e R1 hn
    obtain ⟨v, h1, h2⟩ := g2.get g3
    refine ⟨⟨vs, v, SqL.of g1, h1⟩, fun x H2 hy => ?_⟩
    obtain ⟨rfl, hy⟩ := hy
    have := hy vs (SqL.of g1)
    rw [h1] at this; cases this
    exact ⟨Ext.refl _ _, R1, h2⟩
  · obtain ⟨xs, vs, g1, g2, g3⟩ := key e R1 hn
    refine ⟨vs, SqL.of g1, ?_⟩
    rw [← g2.length]
    exact List.getElem?_eq_none_iff.mp g3
theorem itr_str {x : List Nat} : ItRel c ρ H (.pure (x.map fun ch => .str [ch])) (Its ⟨x.toArray⟩) := by
  refine ⟨fun ρ1 H1 G1 i z e R1 hn => ?_, fun ρ1 H1 G1 i e R1 hn => ?_⟩
  · have hz : (x.map fun ch => Z.str [ch])[i]? = some z := Option.some.inj hn
    rw [List.getElem?_map] at hz
    obtain ⟨ch, h1, rfl⟩ := Option.map_eq_some_iff.mp hz
    have hi : i < x.length := (List.getElem?_eq_some_iff.mp h1).1
    refine ⟨by show i < x.toArray.size; simpa using hi, fun v H2 hy => ?_⟩
    obtain ⟨rfl, c', h2, rfl⟩ := hy
    have h2' : x[i]? = some c' := by simpa using h2
    rw [h1] at h2'; cases h2'
    exact ⟨Ext.refl _ _, R1, rz_str (x := [ch]) (by rw [sizeLine_eq]; simp)⟩
  · have hz : (x.map fun ch => Z.str [ch])[i]? = none := Option.some.inj hn
    show x.toArray.size ≤ i
    simpa using List.getElem?_eq_none_iff.mp hz
theorem itr_rng {lo hi : Int} : ItRel c ρ H (.pure (rngZ lo hi)) (Itr lo (hi - lo).toNat) := by
  refine ⟨fun ρ1 H1 G1 i z e R1 hn => ?_, fun ρ1 H1 G1 i e R1 hn => ?_⟩
  · have hz : (rngZ lo hi)[i]? = some z := Option.some.inj hn
    unfold rngZ at hz
    rw [List.getElem?_map] at hz
    obtain ⟨k, h1, rfl⟩ := Option.map_eq_some_iff.mp hz
    obtain ⟨h2, h3⟩ := List.getElem?_eq_some_iff.mp h1
    rw [List.getElem_range] at h3
    subst h3
    refine ⟨by rw [List.length_range] at h2; exact h2, fun v H2 hy => ?_⟩
    obtain ⟨rfl, rfl⟩ := hy
    exact ⟨Ext.refl _ _, R1, rz_int⟩
  · have hz : (rngZ lo hi)[i]? = none := Option.some.inj hn
    have := List.getElem?_eq_none_iff.mp hz
    unfold rngZ at this
    show (hi - lo).toNat ≤ i
    simpa using this
variable {tg e : Expr} {da db : DE}
theorem si_iter (hK : c.K = X.K) (h : PE X e (tE c W da)) : PI X tg e (tI c W (dIter da)) :=
  ((pi_list h).or ((pi_tup h).or (pi_str h))).weak fun σ H Q ⟨ρ, G, l, R, hl, q⟩ => by
    have arm : ∀ {Q' : VK}, (∀ x G1, da l G = .ok x G1 → ∀ ρ1 H1 v, Ext ρ H ρ1 H1 → Rel c ρ1 H1 G1 → RZ c ρ1 H1 x v → RQ c (fun ρ H it J => ItRel c ρ H it J) ρ1 H1 (match toItr G1 x with | some it => .ok it G1 | none => .bad) (fun J H' => Q J H') (atW W σ) → Q' v H1) → tE c W da σ H Q' := fun {Q'} k => by
      refine ⟨ρ, G, l, R, hl, ?_⟩
      unfold dIter at q
      have q' := RQ.bind (rel := RZ c) q
      cases e1 : da l G with
      | bad => rw [e1] at q'; exact q'
      | exc x G1 => rw [e1] at q'; exact q'
      | ok x G1 =>
        intro ρ1 H1 v e2 R1 rz
        rw [e1] at q
        have q3 : RQ c (fun ρ H it J => ItRel c ρ H it J) ρ H (match toItr G1 x with | some it => .ok it G1 | none => .bad) (fun J H' => Q J H') (atW W σ) := q
        refine k x G1 e1 ρ1 H1 v e2 R1 rz ?_
        cases e3 : toItr G1 x with
        | none => rw [e3] at q3; exact q3
        | some it => rw [e3] at q3; exact fun ρ2 H2 J e4 => q3 ρ2 H2 J (e2.trans e4)
    cases e1 : da l G with
    | bad => exact .inl (arm fun x G1 e2 => by rw [e1] at e2; cases e2)
    | exc x G1 => exact .inl (arm fun x G1 e2 => by rw [e1] at e2; cases e2)
    | ok x G1 =>
      have use : ∀ {ρ1 H1 v it J}, Rel c ρ1 H1 G1 → RQ c (fun ρ H it J => ItRel c ρ H it J) ρ1 H1 (match toItr G1 x with | some it => .ok it G1 | none => .bad) (fun J H' => Q J H') (atW W σ) → toItr G1 x = some it → ItRel c ρ1 H1 it J → (v : V) = v → Q J H1 := by
        intro ρ1 H1 v it J R1 q1 e2 hJ _
        rw [e2] at q1
        exact q1 ρ1 H1 J (Ext.refl _ _) R1 hJ
      cases x with
      | tup xs =>
        refine .inr (.inl (arm fun x G2 e2 ρ1 H1 v e3 R1 rz q1 => ?_))
        rw [e1] at e2; cases e2
        obtain ⟨a, vs, rfl, h1, h2⟩ := un_tup rz
        exact ⟨a, rfl, ⟨vs, hK ▸ h1⟩, hK ▸ use (v := .non) R1 q1 rfl (itr_tup h1 h2) rfl⟩
      | rol xs =>
        refine .inl (arm fun x G2 e2 ρ1 H1 v e3 R1 rz q1 => ?_)
        rw [e1] at e2; cases e2
        unfold RZ at rz
        obtain ⟨a, vs, rfl, h1, h2⟩ := rz
        exact ⟨a, rfl, ⟨vs, hK ▸ h1.seq⟩, hK ▸ use (v := .non) R1 q1 rfl (itr_rol h1 h2) rfl⟩
      | str y =>
        refine .inr (.inr (arm fun x G2 e2 ρ1 H1 v e3 R1 rz q1 => ?_))
        rw [e1] at e2; cases e2
        obtain ⟨_, rfl⟩ := un_str rz
        exact ⟨_, rfl, use (v := .non) R1 q1 rfl itr_str rfl⟩
      | ref n =>
        refine .inl (arm fun x G2 e2 ρ1 H1 v e3 R1 rz q1 => ?_)
        rw [e1] at e2; cases e2
        obtain ⟨a, ha, rfl⟩ := un_ref rz
        cases e4 : lstAt G1 n with
        | none =>
          have : toItr G1 (.ref n) = none := by show (lstAt G1 n).map _ = none; rw [e4]; rfl
          rw [this] at q1
          exact q1.elim
        | some xs =>
          obtain ⟨vs, h1, h2⟩ := R1.lstAt e4 ha
          exact ⟨a, rfl, ⟨vs, SqL.of h1⟩, hK ▸ use (v := .non) R1 q1 (show toItr G1 (.ref n) = some (.live n xs.length) by show (lstAt G1 n).map _ = _; rw [e4]; rfl) (itr_live ha) rfl⟩
      | _ =>
        refine .inl (arm fun x G2 e2 ρ1 H1 v e3 R1 rz q1 => ?_)
        rw [e1] at e2; cases e2
        exact q1.elim
theorem okR_ok {i : Int} (h : okR i = true) : -(2 ^ 62) ≤ i ∧ i < 2 ^ 62 := by
  unfold okR at h
  simpa using h
variable {p pos : Pos}
theorem si_rng1 {a : Expr} {as : DA} (hg : Gl X "range") (hm : X.mg "range" = none) (h : PA X [a] (tA c W as)) (hs : starEach [a] X.env = [(false, eval a X.env)]) : PI X tg (.Call (.Name "range" p) [a] [] pos) (tI c W (dRng1 as)) :=
  (pi_range1 hg hm h hs).weak fun σ H Q ⟨ρ, G, l, R, hl, q⟩ => tA.bind R hl q fun ρ1 H1 G1 zs vs e1 R1 l1 r1 q1 => by
    have hlen : zs.length = vs.length := r1.length
    split at q1
    · rename_i j
      obtain ⟨v, rfl, r2⟩ := r1.one
      cases un_int r2
      split at q1
      · rename_i hj
        refine ⟨j, rfl, (okR_ok hj).1, (okR_ok hj).2, q1 ρ1 H1 _ (Ext.refl _ _) R1 ?_⟩
        have := itr_rng (c := c) (ρ := ρ1) (H := H1) (lo := 0) (hi := j)
        rw [Int.sub_zero] at this
        exact this
      · exact q1.elim
    · exact q1.elim
theorem si_rng2 {a b : Expr} {as : DA} (hg : Gl X "range") (hm : X.mg "range" = none) (h : PA X [a, b] (tA c W as)) (hs : starEach [a, b] X.env = [(false, eval a X.env), (false, eval b X.env)]) (hs2 : starEach [b] X.env = [(false, eval b X.env)]) : PI X tg (.Call (.Name "range" p) [a, b] [] pos) (tI c W (dRng2 as)) :=
  (pi_range2 hg hm h hs hs2).weak fun σ H Q ⟨ρ, G, l, R, hl, q⟩ => tA.bind R hl q fun ρ1 H1 G1 zs vs e1 R1 l1 r1 q1 => by
    split at q1
    · rename_i i j
      obtain ⟨v, w, rfl, r2, r3⟩ := r1.two
      cases un_int r2; cases un_int r3
      split at q1
      · rename_i hj
        simp only [Bool.and_eq_true] at hj
        exact ⟨i, j, rfl, ⟨(okR_ok hj.1).1, (okR_ok hj.1).2, (okR_ok hj.2).1, (okR_ok hj.2).2⟩, q1 ρ1 H1 _ (Ext.refl _ _) R1 itr_rng⟩
      · exact q1.elim
    · exact q1.elim

/-! ### for, while -/
def forLoop (it : Wk) (g : DG) (body : DS) : Nat → Nat → DS
  | k, i, l, G => match itNext it G i with
    | none => .bad
    | some none => .nx l G
    | some (some z) => match k with
      | 0 => .bad
      | k + 1 => match g z l G with
        | .nx l1 G1 => match body l1 G1 with
          | .nx l2 G2 => forLoop it g body k (i + 1) l2 G2
          | .ct l2 G2 => forLoop it g body k (i + 1) l2 G2
          | .bk l2 G2 => .nx l2 G2
          | r => r
        | .exc x l1 G1 => .exc x l1 G1
        | _ => .bad
def dFor (di : DI) (g : DG) (body : DS) : DS := fun l G => (di l G).st l fun it G1 => forLoop it g body it.len 0 l G1
def whileLoop (t : DT) (body : DS) : Nat → DS
  | k, l, G => (t l G).st l fun b G1 => if b then (match k with
    | 0 => .bad
    | k + 1 => match body l G1 with
      | .nx l2 G2 => whileLoop t body k l2 G2
      | .ct l2 G2 => whileLoop t body k l2 G2
      | .bk l2 G2 => .nx l2 G2
      | r => r) else .nx l G1
/-- as many turns as any loop here may take -/
def wMax : Nat := 1000000
def dWhile (t : DT) (body : DS) : DS := whileLoop t body wMax
theorem ss_for (hp : PassesOwn (model X.prog X.w) X.A X.env X.xe) (hc : X.calm = true) {iter : Expr} {body : List Stmt} {di : DI} {g : DG} {db : DS} (hi : PI X tg iter (tI c W di)) (hg : PG X tg (tG c W g)) (hb : PSs X body (tS c W db))
    (hs : ∀ x, foldedSetIterable iter X.env x = pure x) : PS X (.For tg iter body [] pos) (tS c W (dFor di g db)) :=
  (ps_for hp hc hi hg hb hs).weak fun D σ H ⟨ρ, G, l, R, hl, q⟩ => by
    refine ⟨ρ, G, l, R, hl, RQ.of_st hl q fun ρ1 H1 G1 it J e1 R1 l1 hJ q1 => ?_⟩
    refine ⟨fun i m σ' H' => ∃ ρ' G' l', Ext ρ1 H1 ρ' H' ∧ Rel c ρ' H' G' ∧ RL c ρ' H' l' σ' ∧ RS c ρ' H' (forLoop it g db m i l' G') D W, ⟨it.len, ρ1, G1, l, Ext.refl _ _, R1, l1, q1⟩, ?_⟩
    rintro i m σ' H' ⟨ρ', G', l', e', R', hl', q'⟩
    unfold forLoop at q'
    cases hn : itNext it G' i with
    | none => rw [hn] at q'; exact q'.elim
    | some o =>
      rw [hn] at q'
      cases o with
      | none => exact .inl ⟨hJ.stop ρ' H' G' i e' R' hn, (show RS c ρ' H' (.nx l' G') D W from q') ρ' H' σ' (Ext.refl _ _) R' hl'⟩
      | some z =>
        obtain ⟨hgo, hy⟩ := hJ.go ρ' H' G' i z e' R' hn
        refine .inr ⟨hgo, ?_⟩
        cases m with
        | zero => exact q'.elim
        | succ m =>
          have q2 : RS c ρ' H' (match g z l' G' with
            | .nx l1 G1 => match db l1 G1 with
              | .nx l2 G2 => forLoop it g db m (i + 1) l2 G2
              | .ct l2 G2 => forLoop it g db m (i + 1) l2 G2
              | .bk l2 G2 => .nx l2 G2
              | r => r
            | .exc x l1 G1 => .exc x l1 G1
            | _ => .bad) D W := q'
          refine ⟨fun σ3 H3 => ∃ ρ3 G3 l3, Ext ρ1 H1 ρ3 H3 ∧ Rel c ρ3 H3 G3 ∧ RL c ρ3 H3 l3 σ3 ∧ RS c ρ3 H3 (forLoop it g db m (i + 1) l3 G3) D W, fun σ3 H3 h => ⟨m, Nat.lt_succ_self m, h⟩, fun x H2 hx => ?_⟩
          obtain ⟨e2, R2, rz⟩ := hy x H2 hx
          refine ⟨ρ', G', l', z, R2, hl'.mono e2, rz, ?_⟩
          cases hg2 : g z l' G' with
          | nx l3 G3 =>
            rw [hg2] at q2
            intro ρ3 H3 σ3 e3 R3 hl3
            refine ⟨ρ3, G3, l3, R3, hl3, ?_⟩
            have q3 : RS c ρ' H' (match db l3 G3 with
              | .nx l2 G2 => forLoop it g db m (i + 1) l2 G2
              | .ct l2 G2 => forLoop it g db m (i + 1) l2 G2
              | .bk l2 G2 => .nx l2 G2
              | r => r) D W := q2
            have e23 := e2.trans e3
            have eA := (e'.trans e23)
            cases hb2 : db l3 G3 with
            | nx l4 G4 => rw [hb2] at q3; exact fun ρ4 H4 σ4 e4 R4 hl4 => ⟨ρ4, G4, l4, eA.trans e4, R4, hl4, RS.ext (e23.trans e4) q3⟩
            | ct l4 G4 => rw [hb2] at q3; exact fun ρ4 H4 σ4 e4 R4 hl4 => ⟨ρ4, G4, l4, eA.trans e4, R4, hl4, RS.ext (e23.trans e4) q3⟩
            | bk l4 G4 => rw [hb2] at q3; exact fun ρ4 H4 σ4 e4 R4 hl4 => (show RS c ρ' H' (.nx l4 G4) D W from q3) ρ4 H4 σ4 (e23.trans e4) R4 hl4
            | rt v G4 => rw [hb2] at q3; exact fun ρ4 H4 w e4 R4 rw4 => (show RS c ρ' H' (.rt v G4) D W from q3) ρ4 H4 w (e23.trans e4) R4 rw4
            | exc x l4 G4 => rw [hb2] at q3; exact fun ρ4 H4 σ4 cl d e4 R4 hl4 rx => (show RS c ρ' H' (.exc x l4 G4) D W from q3) ρ4 H4 σ4 cl d (e23.trans e4) R4 hl4 rx
            | bad => rw [hb2] at q3; exact q3.elim
          | exc x l3 G3 =>
            rw [hg2] at q2
            exact fun ρ3 H3 σ3 cl d e3 R3 hl3 rx => (show RS c ρ' H' (.exc x l3 G3) D W from q2) ρ3 H3 σ3 cl d (e2.trans e3) R3 hl3 rx
          | _ => rw [hg2] at q2; exact q2.elim
theorem ss_while (hp : PassesOwn (model X.prog X.w) X.A X.env X.xe) {t : Expr} {body : List Stmt} {dt : DT} {db : DS} (ht : PT X t (tT c W dt)) (hb : PSs X body (tS c W db)) : PS X (.While t body [] pos) (tS c W (dWhile dt db)) :=
  (ps_while hp ht hb).weak fun D σ H ⟨ρ, G, l, R, hl, q⟩ => by
    refine ⟨fun m σ' H' => ∃ ρ' G' l', Rel c ρ' H' G' ∧ RL c ρ' H' l' σ' ∧ RS c ρ' H' (whileLoop dt db m l' G') D W, ⟨wMax, ρ, G, l, R, hl, q⟩, ?_⟩
    rintro m σ' H' ⟨ρ', G', l', R', hl', q'⟩
    unfold whileLoop at q'
    refine tT.st R' hl' q' fun ρ1 H1 G1 b e1 R1 l1 q1 => ?_
    cases b with
    | false => rw [if_neg Bool.false_ne_true]; exact (show RS c ρ1 H1 (.nx l' G1) D W from q1) ρ1 H1 σ' (Ext.refl _ _) R1 l1
    | true =>
      rw [if_pos rfl]
      cases m with
      | zero => exact q1.elim
      | succ m =>
        have q3 : RS c ρ1 H1 (match db l' G1 with
          | .nx l2 G2 => whileLoop dt db m l2 G2
          | .ct l2 G2 => whileLoop dt db m l2 G2
          | .bk l2 G2 => .nx l2 G2
          | r => r) D W := q1
        refine ⟨fun σ3 H3 => ∃ ρ3 G3 l3, Rel c ρ3 H3 G3 ∧ RL c ρ3 H3 l3 σ3 ∧ RS c ρ3 H3 (whileLoop dt db m l3 G3) D W, fun σ3 H3 h => ⟨m, Nat.lt_succ_self m, h⟩, ρ1, G1, l', R1, l1, ?_⟩
        cases hb2 : db l' G1 with
        | nx l4 G4 => rw [hb2] at q3; exact fun ρ4 H4 σ4 e4 R4 hl4 => ⟨ρ4, G4, l4, R4, hl4, RS.ext e4 q3⟩
        | ct l4 G4 => rw [hb2] at q3; exact fun ρ4 H4 σ4 e4 R4 hl4 => ⟨ρ4, G4, l4, R4, hl4, RS.ext e4 q3⟩
        | bk l4 G4 => rw [hb2] at q3; exact fun ρ4 H4 σ4 e4 R4 hl4 => (show RS c ρ1 H1 (.nx l4 G4) D W from q3) ρ4 H4 σ4 e4 R4 hl4
        | rt v G4 => rw [hb2] at q3; exact q3
        | exc x l4 G4 => rw [hb2] at q3; exact q3
        | bad => rw [hb2] at q3; exact q3

/-! ### comprehensions -/
/-- the names of a block forgotten -/
def wipeZ (l : L) : List Nat → L
  | [] => l
  | v :: vs => (wipeZ l vs).set v none
/-- the new list stands at n -/
def lcLoop (it : Wk) (g : DG) (t : DT) (e : DE) (n : Nat) (l : L) : Nat → Nat → GH → R Z
  | k, i, G => match itNext it G i with
    | none => .bad
    | some none => .ok (.ref n) G
    | some (some z) => match k with
      | 0 => .bad
      | k + 1 => match g z l G with
        | .nx l1 G1 => match t l1 G1 with
          | .ok true G2 => match e l1 G2 with
            | .ok y G3 => match lstAt G3 n with
              | some acc => if acc.length < sizeLine then lcLoop it g t e n l k (i + 1) (G3.set n (.lst (acc ++ [y]))) else .bad
              | none => .bad
            | _ => .bad
          | .ok false G2 => lcLoop it g t e n l k (i + 1) G2
          | _ => .bad
        | _ => .bad
def dLc (di : DI) (g : DG) (t : DT) (e : DE) (own : List Nat) : DE := fun l G => (di l G).bind fun it G1 => lcLoop it g t e G1.length (wipeZ l own) it.len 0 (G1 ++ [.lst []])
end
end Zy
end
section
set_option Elab.async false
set_option linter.all false
set_option maxRecDepth 100000
set_option maxHeartbeats 4000000
set_option autoImplicit false
/-! comprehensions -/
namespace Zy
open PySem PySem.Spec PyProof.Rows L2
open PySem.SeqAt (RcAt EqAt RcOp firstLt)

/-! ### targets that are names alone -/
mutual
inductive Pat where
  | nm (i : Nat) | tp (ps : Pats)
inductive Pats where
  | nil | cons (p : Pat) (ps : Pats)
end
def Pats.len : Pats → Nat
  | .nil => 0
  | .cons _ ps => ps.len + 1
mutual
def patD (G : GH) : Pat → Z → L → Option L
  | .nm i, z, l => some (l.set i (some z))
  | .tp ps, z, l => match its G z with
    | some xs => if xs.length = ps.len then patDs G ps xs l else none
    | none => none
def patDs (G : GH) : Pats → List Z → L → Option L
  | .nil, [], l => some l
  | .cons p ps, x :: xs, l => match patD G p x l with
    | some l' => patDs G ps xs l'
    | none => none
  | _, _, _ => none
end
mutual
def patG (K : PySem.W.Frag) : Pat → TG
  | .nm i => gName i
  | .tp ps => fun v σ H Q => gTup K ps.len (patGs K ps) v σ H Q ∨ gUnl K ps.len (patGs K ps) v σ H Q
def patGs (K : PySem.W.Frag) : Pats → TGs
  | .nil => gNil
  | .cons p ps => gCons (patG K p) (patGs K ps)
end
mutual
def Pat.slots : Pat → List Nat
  | .nm i => [i]
  | .tp ps => ps.slots
def Pats.slots : Pats → List Nat
  | .nil => []
  | .cons p ps => p.slots ++ ps.slots
end
theorem set_comm' {α : Type} (l : List α) {i j : Nat} (a b : α) (h : i ≠ j) : (l.set i a).set j b = (l.set j b).set i a := List.set_comm a b h
theorem wipe_set {own : List Nat} : ∀ {σ : L2.St} {i : Nat} {x : Option V}, i ∈ own → wipe (σ.set i x) own = wipe σ own := by
  induction own with
  | nil => intro σ i x h; simp at h
  | cons a r ih =>
    intro σ i x h
    unfold wipe
    by_cases hr : i ∈ r
    · rw [ih hr]
    · have : i = a := by
        rcases List.mem_cons.mp h with h | h
        · exact h
        · exact absurd h hr
      subst this
      have aux : ∀ (r : List Nat) (σ : L2.St), i ∉ r → (wipe (σ.set i x) r) = (wipe σ r).set i x := by
        intro r
        induction r with
        | nil => intro σ _; rfl
        | cons b t ih2 =>
          intro σ hb
          unfold wipe
          rw [ih2 σ (fun z => hb (List.mem_cons_of_mem _ z))]
          exact List.set_comm _ _ (fun e => hb (by rw [e]; exact List.mem_cons_self))
      rw [aux r σ hr, List.set_set]
section
variable {c : C} {ρ : List Addr} {H : Hp} {G : GH}
mutual
theorem pat_ok {K : PySem.W.Frag} (hK : c.K = K) {own : List Nat} (R : Rel c ρ H G) : ∀ {p : Pat} {z : Z} {v : V} {l l' : L} {σ : L2.St} {Q : L2.St → Hp → Prop}, patD G p z l = some l' → RL c ρ H l σ → RZ c ρ H z v → (∀ i ∈ p.slots, i ∈ own) →
    (∀ σ', RL c ρ H l' σ' → wipe σ' own = wipe σ own → Q σ' H) → patG K p v σ H Q
  | .nm i, z, v, l, l', σ, Q, h, hl, rz, hs, k => by
    unfold patD at h
    cases h
    unfold patG
    exact k _ (hl.set rz) (wipe_set (hs i (by unfold Pat.slots; simp)))
  | .tp ps, z, v, l, l', σ, Q, h, hl, rz, hs, k => by
    unfold patD at h
    split at h
    · rename_i xs e
      split at h
      · rename_i hz
        unfold patG
        obtain ⟨a, vs, rfl, h1, h2⟩ : ∃ a vs, v = .ref a ∧ RZs c ρ H xs vs ∧ (SqL K H a vs ∨ SqT K H a vs) := by
          cases z with
          | tup ys =>
            have e' : some ys = some xs := e
            cases e'
            obtain ⟨a, vs, rfl, h1, h2⟩ := un_tup rz
            exact ⟨a, vs, rfl, h2, .inr (hK ▸ h1)⟩
          | _ =>
            obtain ⟨a, vs, rfl, h1, h2⟩ := rdl_sound R rz e
            exact ⟨a, vs, rfl, h2, .inl (hK ▸ h1)⟩
        have hp := pats_ok hK (own := own) R (Q := Q) h hl h1 (fun i hi => hs i (by unfold Pat.slots; exact hi)) k
        rcases h2 with h2 | h2
        · exact .inr ⟨a, vs, rfl, h2, by rw [← h1.length]; exact hz, hp⟩
        · exact .inl ⟨a, vs, rfl, h2, by rw [← h1.length]; exact hz, hp⟩
      · cases h
    · cases h
theorem pats_ok {K : PySem.W.Frag} (hK : c.K = K) {own : List Nat} (R : Rel c ρ H G) : ∀ {ps : Pats} {zs : List Z} {vs : List V} {l l' : L} {σ : L2.St} {Q : L2.St → Hp → Prop}, patDs G ps zs l = some l' → RL c ρ H l σ → RZs c ρ H zs vs → (∀ i ∈ ps.slots, i ∈ own) →
    (∀ σ', RL c ρ H l' σ' → wipe σ' own = wipe σ own → Q σ' H) → patGs K ps vs σ H Q
  | .nil, [], vs, l, l', σ, Q, h, hl, rz, hs, k => by
    unfold patDs at h
    cases h
    unfold patGs
    exact ⟨rz.nil_, k _ hl rfl⟩
  | .nil, _ :: _, vs, l, l', σ, Q, h, hl, rz, hs, k => by unfold patDs at h; cases h
  | .cons p ps, [], vs, l, l', σ, Q, h, hl, rz, hs, k => by unfold patDs at h; cases h
  | .cons p ps, z :: zs, vs, l, l', σ, Q, h, hl, rz, hs, k => by
    unfold patDs at h
    split at h
    · rename_i l1 e
      unfold patGs
      unfold RZs at rz
      obtain ⟨v, r, rfl, h1, h2⟩ := rz
      exact ⟨v, r, rfl, pat_ok hK R e hl h1 (fun i hi => hs i (by unfold Pats.slots; simp [hi])) fun σ1 hl1 hw1 => pats_ok hK R h hl1 h2 (fun i hi => hs i (by unfold Pats.slots; simp [hi])) fun σ2 hl2 hw2 => k σ2 hl2 (hw2.trans hw1)⟩
    · cases h
end
end

/-! ### [elt for target in iter if test] -/
/-- the names of a block forgotten -/
theorem RL.wipe {c : C} {ρ : List Addr} {H : Hp} {l : L} {σ : L2.St} (r : RL c ρ H l σ) : ∀ own : List Nat, RL c ρ H (wipeZ l own) (wipe σ own)
  | [] => r
  | v :: vs => (RL.wipe r vs).unset v
/-- the new list stands at n -/
def lcGo (it : Wk) (p : Pat) (t : DT) (e : DE) (n : Nat) (l : L) : Nat → Nat → GH → R Z
  | k, i, G => match itNext it G i with
    | none => .bad
    | some none => .ok (.ref n) G
    | some (some z) => match k with
      | 0 => .bad
      | k + 1 => match patD G p z l with
        | some l1 => match t l1 G with
          | .ok true G2 => match e l1 G2 with
            | .ok y G3 => match lstAt G3 n with
              | some acc => if acc.length < sizeLine then lcGo it p t e n l k (i + 1) (G3.set n (.lst (acc ++ [y]))) else .bad
              | none => .bad
            | _ => .bad
          | .ok false G2 => lcGo it p t e n l k (i + 1) G2
          | _ => .bad
        | none => .bad
def dYes : DT := fun _ G => .ok true G
def dComp (di : DI) (p : Pat) (t : DT) (e : DE) (own : List Nat) : DE := fun l G => (di l G).bind fun it G1 => lcGo it p t e G1.length (wipeZ l own) it.len 0 (G1 ++ [.lst []])
abbrev W0 : WX := fun _ _ _ _ => False
section
variable {X : Cx} {c : C} {W : WX} {tg iter elt : Expr} {ifs : List Expr} {scope : Scope} {own : List (Str × Nat)} {di : DI} {p : Pat} {t : DT} {e : DE} {pos : Pos}
/-- the reading of a comprehension -/
theorem lc_read (hK : c.K = X.K) {σ : L2.St} {H : Hp} {Q : VK} (hp : ∀ i ∈ p.slots, i ∈ own.map (·.2)) (h : tE c W (dComp di p t e (own.map (·.2))) σ H Q) :
    tLc (tI c W di) (patG X.K p) (tT c W0 t) (tE c W0 e) (own.map (·.2)) σ H Q := by
  obtain ⟨ρ, G, l, R, hl, q⟩ := h
  refine ⟨ρ, G, l, R, hl, ?_⟩
  refine RQ.imp (RQ.bind (rel := fun ρ H it J => ItRel c ρ H it J) q) (fun J H1 ⟨ρ1, G1, it, e1, R1, hJ, q1⟩ => ?_) fun _ _ _ h => h
  intro D hD
  have hl1 := hl.mono e1
  obtain ⟨R2, e2⟩ := R1.new (z := .lst []) (o := .lst []) hD ⟨[], rfl, .nil⟩
  refine ⟨fun i m H' => ∃ ρ' G', Ext (ρ1 ++ [D]) (upd H1 D (.lst [])) ρ' H' ∧ Rel c ρ' H' G' ∧ RQ c (RZ c) ρ' H' (lcGo it p t e G1.length (wipeZ l (own.map (·.2))) m i G') Q (atW W σ), ⟨it.len, _, _, Ext.refl _ _, R2, ?_⟩, ?_⟩
  · cases hr : lcGo it p t e G1.length (wipeZ l (own.map (·.2))) it.len 0 (G1 ++ [.lst []]) with
    | bad => rw [hr] at q1; exact q1
    | ok z G' => rw [hr] at q1; exact fun ρ3 H3 v e3 => q1 ρ3 H3 v (e2.trans e3)
    | exc x G' => rw [hr] at q1; exact fun ρ3 H3 cl d e3 => q1 ρ3 H3 cl d (e2.trans e3)
  rintro i m H' ⟨ρ', G', e3, R3, q3⟩
  have hDn : ρ'[G1.length]? = some D := by
    refine pre_get e3.pre ?_
    rw [← R1.len]; exact get_new ρ1 D
  unfold lcGo at q3
  cases hn : itNext it G' i with
  | none => rw [hn] at q3; exact q3.elim
  | some o =>
    rw [hn] at q3
    cases o with
    | none => exact .inl ⟨hJ.stop ρ' H' G' i (e2.trans e3) R3 hn, RQ.here (show RQ c (RZ c) ρ' H' (.ok (.ref G1.length) G') Q (atW W σ) from q3) R3 (rz_ref hDn)⟩
    | some z =>
      obtain ⟨hgo, hy⟩ := hJ.go ρ' H' G' i z (e2.trans e3) R3 hn
      refine .inr ⟨hgo, ?_⟩
      cases m with
      | zero => exact q3.elim
      | succ m =>
        refine ⟨fun H3 => ∃ ρ' G', Ext (ρ1 ++ [D]) (upd H1 D (.lst [])) ρ' H3 ∧ Rel c ρ' H3 G' ∧ RQ c (RZ c) ρ' H3 (lcGo it p t e G1.length (wipeZ l (own.map (·.2))) m (i + 1) G') Q (atW W σ), fun H3 h => ⟨m, Nat.lt_succ_self m, h⟩, fun x H2 hx => ?_⟩
        obtain ⟨e4, R4, rz⟩ := hy x H2 hx
        have hlw : RL c ρ' H2 (wipeZ l (own.map (·.2))) (wipe σ (own.map (·.2))) := (((hl1.mono e2).mono e3).mono e4).wipe _
        have q4 : RQ c (RZ c) ρ' H' (match patD G' p z (wipeZ l (own.map (·.2))) with
          | some l1 => match t l1 G' with
            | .ok true G2 => match e l1 G2 with
              | .ok y G3 => match lstAt G3 G1.length with
                | some acc => if acc.length < sizeLine then lcGo it p t e G1.length (wipeZ l (own.map (·.2))) m (i + 1) (G3.set G1.length (.lst (acc ++ [y]))) else .bad
                | none => .bad
              | _ => .bad
            | .ok false G2 => lcGo it p t e G1.length (wipeZ l (own.map (·.2))) m (i + 1) G2
            | _ => .bad
          | none => .bad) Q (atW W σ) := q3
        have eA := e3.trans e4
        have lift : ∀ {r : Zy.R Z} {ρ5 : List Addr} {H5 : Hp}, Ext ρ' H2 ρ5 H5 → RQ c (RZ c) ρ' H' r Q (atW W σ) → RQ c (RZ c) ρ5 H5 r Q (atW W σ) := by
          intro r ρ5 H5 e5 q
          cases r with
          | bad => exact q
          | ok z G' => exact fun ρ6 H6 v e6 => q ρ6 H6 v ((e4.trans e5).trans e6)
          | exc x G' => exact fun ρ6 H6 cl d e6 => q ρ6 H6 cl d ((e4.trans e5).trans e6)
        cases hpt : patD G' p z (wipeZ l (own.map (·.2))) with
        | none => simp only [hpt] at q4; exact q4.elim
        | some l1 =>
          simp only [hpt] at q4
          refine pat_ok hK R4 hpt hlw rz hp fun σ2 hl2 hw2 => ⟨?_, ρ', G', l1, R4, hl2, ?_⟩
          · rw [hw2]
            have : ∀ (own : List Nat) (σ : L2.St), wipe (wipe σ own) own = wipe σ own := by
              intro own
              induction own with
              | nil => intro σ; rfl
              | cons a r ih =>
                intro σ
                show ((wipe ((wipe σ r).set a none) r).set a none) = (wipe σ r).set a none
                by_cases ha : a ∈ r
                · rw [wipe_set ha, ih]
                · have aux : ∀ (r : List Nat) (σ : L2.St), a ∉ r → (wipe (σ.set a none) r) = (wipe σ r).set a none := by
                    intro r
                    induction r with
                    | nil => intro σ _; rfl
                    | cons b t ih2 =>
                      intro σ hb
                      unfold L2.wipe
                      rw [ih2 σ (fun z => hb (List.mem_cons_of_mem _ z))]
                      exact List.set_comm _ _ (fun e => hb (by rw [e]; exact List.mem_cons_self))
                  rw [aux r _ ha, ih, List.set_set]
            exact this _ _
          · cases ht : t l1 G' with
            | bad => simp only [ht] at q4; exact q4.elim
            | exc x G2 => simp only [ht] at q4; exact q4.elim
            | ok b G2 =>
              simp only [ht] at q4
              intro ρ5 H5 b' e5 R5 hb
              rw [show b' = b from hb]
              cases b with
              | false =>
                rw [if_neg Bool.false_ne_true]
                exact ⟨ρ5, G2, eA.trans e5, R5, lift e5 q4⟩
              | true =>
                rw [if_pos rfl]
                have q5 : RQ c (RZ c) ρ' H' (match e l1 G2 with
                  | .ok y G3 => match lstAt G3 G1.length with
                    | some acc => if acc.length < sizeLine then lcGo it p t e G1.length (wipeZ l (own.map (·.2))) m (i + 1) (G3.set G1.length (.lst (acc ++ [y]))) else .bad
                    | none => .bad
                  | _ => .bad) Q (atW W σ) := q4
                refine ⟨ρ5, G2, l1, R5, hl2.mono e5, ?_⟩
                cases he : e l1 G2 with
                | bad => simp only [he] at q5; exact q5.elim
                | exc x G3 => simp only [he] at q5; exact q5.elim
                | ok y G3 =>
                  simp only [he] at q5
                  intro ρ6 H6 v e6 R6 rv
                  cases hac : lstAt G3 G1.length with
                  | none => simp only [hac] at q5; exact q5.elim
                  | some acc =>
                    simp only [hac] at q5
                    split at q5
                    · rename_i hz
                      have hD6 : ρ6[G1.length]? = some D := pre_get (e4.trans (e5.trans e6)).pre hDn
                      obtain ⟨vs, g1, g2⟩ := R6.lstAt hac hD6
                      obtain ⟨R7, e7⟩ := R6.put (z := .lst (acc ++ [y])) (o := .lst (vs ++ [v])) hD6 ⟨_, rfl, g2.append (.cons rv .nil)⟩
                      exact ⟨vs, g1, by rw [← g2.length]; exact hz, ρ6, _, ((eA.trans e5).trans e6).trans e7, R7, lift ((e5.trans e6).trans e7) q5⟩
                    · exact q5.elim
theorem se_comp (hK : c.K = X.K) (hc : X.calm = true) (hN : X.N.Nodup) (hi : PI X tg iter (tI c W di)) (ok : BlkOk X.N X.env.scope scope own)
    (hg : ∀ (s : Shared) (H : Hp) (C : Addr) (cl : List (Str × Addr)) (fp : List Addr), PG (X.blk s H scope (compEnvC scope cl C X.env) fp) tg (patG X.K p)) (ht : ∀ (s : Shared) (H : Hp) (C : Addr) (cl : List (Str × Addr)) (fp : List Addr), PTs (X.blk s H scope (compEnvC scope cl C X.env) fp) ifs (tT c W0 t))
    (he : ∀ (s : Shared) (H : Hp) (C : Addr) (cl : List (Str × Addr)) (fp : List Addr), PE (X.blk s H scope (compEnvC scope cl C X.env) fp) elt (tE c W0 e)) (hs : ∀ x, foldedSetIterable iter X.env x = pure x) (hp : ∀ i ∈ p.slots, i ∈ own.map (·.2)) :
    PE X (.ListComp elt [⟨tg, iter, ifs, 0⟩] scope pos) (tE c W (dComp di p t e (own.map (·.2)))) :=
  (pe_lc hc hN hi ok hg ht he hs).weak fun σ H Q h => lc_read hK hp h
theorem ss_setComp (hK : c.K = X.K) (hc : X.calm = true) (hN : X.N.Nodup) {i : Nat} {y : Str} {py spos : Pos} (hy : X.N[i]? = some y) (hyl : X.env.scope.names.lookup y = some .local)
    (hsw : swapsWith (.ListComp elt [⟨tg, iter, ifs, 0⟩] scope pos) (some (.Name y py)) spos.line X.env = pure true) (hi : PI X tg iter (tI c W di)) (ok : BlkOk X.N X.env.scope scope own)
    (hg : ∀ (s : Shared) (H : Hp) (C : Addr) (cl : List (Str × Addr)) (fp : List Addr), PG (X.blk s H scope (compEnvC scope cl C X.env) fp) tg (patG X.K p)) (ht : ∀ (s : Shared) (H : Hp) (C : Addr) (cl : List (Str × Addr)) (fp : List Addr), PTs (X.blk s H scope (compEnvC scope cl C X.env) fp) ifs (tT c W0 t))
    (he : ∀ (s : Shared) (H : Hp) (C : Addr) (cl : List (Str × Addr)) (fp : List Addr), PE (X.blk s H scope (compEnvC scope cl C X.env) fp) elt (tE c W0 e)) (hs : ∀ x, foldedSetIterable iter X.env x = pure x) (hp : ∀ i ∈ p.slots, i ∈ own.map (·.2)) :
    PS X (.Assign [.Name y py] (.ListComp elt [⟨tg, iter, ifs, 0⟩] scope pos) spos) (tS c W (dAsg (dgName i) (dComp di p t e (own.map (·.2))))) :=
  (ps_setLc hc hN hy hyl hsw hi ok hg ht he hs).weak fun D σ H ⟨ρ, G, l, R, hl, q⟩ => by
    refine lc_read hK (W := W) hp ?_
    exact tE.st R hl q fun ρ1 H1 G1 z v e1 R1 l1 r1 q1 => (show RS c ρ1 H1 (.nx (l.set i (some z)) G1) D W from q1) ρ1 H1 _ (Ext.refl _ _) R1 (l1.set r1)
end
end Zy
end
section
set_option Elab.async false
set_option linter.all false
set_option maxRecDepth 100000
set_option maxHeartbeats 4000000
set_option autoImplicit false
/-! raise, try -/
namespace Zy
open PySem PySem.Spec PyProof.Rows L2

/-! ### clauses, with or without a name -/
abbrev HG := Value × Option Nat × (Addr → Value → Option Addr → TS)
def onSlot (i : Option Nat) (ts : Addr → Value → Option Addr → TS) (a : Addr) (cls : Value) (d : Option Addr) : TS := match i with
  | none => ts a cls d
  | some i => fun D σ H => ts a cls d { nx := fun σ' H' => D.nx (σ'.set i none) H', rt := D.rt, bk := fun σ' H' => D.bk (σ'.set i none) H', ct := fun σ' H' => D.ct (σ'.set i none) H' } (σ.set i (some (.ref a))) H
def wG (K : PySem.W.Frag) (Wout : WX) (D : Ends) : List HG → WX
  | [] => Wout
  | (c, i, ts) :: r => fun cls d σ H => ∃ b, PySem.W.exmOne K cls c = some b ∧ (b = true → ∀ a, H a = none → onSlot i ts a cls d D σ H) ∧ (b = false → wG K Wout D r cls d σ H)
def slotOf (X : Cx) : Option Str → Option Nat → Prop
  | none, none => True
  | some n, some i => X.N[i]? = some n ∧ X.env.kindOf n = some .local
  | _, _ => False
inductive HdsG (X : Cx) : List ExceptHandler → List HG → Prop
  | nil : HdsG X [] []
  | cons {x : Str} {n : Option Str} {i : Option Nat} {c : Value} {ts : Addr → Value → Option Addr → TS} {b₀ : Stmt} {suite : List Stmt} {np pos' : Pos} {hds : List ExceptHandler} {l : List HG} (hc : Names X x c) (hn : slotOf X n i)
      (hsu : ∀ (a : Addr) (oe : Obj) (cls : Value) (d : Option Addr) (pn : List (Addr × Obj)), Zc cls d oe → (∃ vs, oe.data = .fields vs) → PSs (X.suite a ((a, oe) :: pn)) (b₀ :: suite) (ts a cls d)) (r : HdsG X hds l) :
      HdsG X (.ExceptHandler (some (.Name x np)) n (b₀ :: suite) pos' :: hds) ((c, i, ts) :: l)
section
variable {X : Cx} {body : List Stmt} {h₀ : ExceptHandler} {hds : List ExceptHandler} {l : List HG} {pos : Pos} {tb : WX → TS} {Wout : WX}
theorem ps_try_gen (hs : X.stack = X.env :: X.outer) (hf : X.env.frame = some X.env.locals) (hN : X.N.Nodup) (tk : Takes X Wout)
    (hb : ∀ (W : WX) (pn : List (Addr × Obj)) (xe : Value → Shared → Prop), Takes (X.tr pn xe) W → PassesOwn (model X.prog X.w) X.A X.env xe → PSs (X.tr pn xe) body (tb W))
    (hh : HdsG X (h₀ :: hds) l) : PS X (.Try body (h₀ :: hds) [] [] pos) (fun D σ H => tb (wG X.K Wout D l) D σ H) := by
  refine ⟨fun pins s σ H D I h => ?_⟩
  have ok := I.ok
  have hfr : X.A.frames = some (X.env :: X.outer) := by rw [ok.frames, hs]
  refine wpAny_Try_except ?_
  refine wpAny_mono ((hb (wG X.K Wout D l) (X.pn ++ pins) (fun e s₁ => wpAny (model X.prog X.w) X.A (noteFrame e X.env) (fun _ s₂ => wpAny (model X.prog X.w) X.A (setFlight e none) (fun _ s₃ =>
    wpAny (model X.prog X.w) X.A (handleBy e X.env (h₀ :: hds)) (SP X pins D) X.xe s₃) X.xe s₂) X.xe s₁) (fun u s' xx => ?_) PassesOwn.looking).run [] s σ H D (I.toTry _) h) (fun f s1 hsp => ?_) (fun e s1 he => he)
  · -- the catch
    obtain ⟨a, B, sI, pins', σ', H', cls, d, rfl, J', nb, up, sky, na, os, ag, w⟩ := xx
    have J : Inv X pins σ' H' sI := J'.ofTry ok
    have sky' : Sky B (X.env :: X.outer) a (Zc cls d) X.env.locals s'.heap := by rw [← hs]; exact sky
    show wpAny (model X.prog X.w) X.A (noteFrame (.ref a) X.env) _ _ _
    refine Sky.land Zc.steady hfr hf sky' fun h3 fl3 up3 => ?_
    have J3 : Inv X pins σ' H' { s' with heap := h3 } := J.landed nb fl3.1 (up.trans up3) os ag
    obtain ⟨oe3, vs3, he3, hz3, hd3⟩ := fl3.there
    have notFr : ∀ {h : Heap} {o : Obj} {vs : Array Value}, h.FunFrames B (X.env :: X.outer) → h.get? a = some o → o.data = .fields vs → a ∉ frs (X.env :: X.outer) := fun {h o vs} ff e dd hm => by
      obtain ⟨_, o', e', hnf⟩ := ff.mem hm
      rw [e] at e'; cases e'
      exact hnf _ dd
    have nfr := notFr fl3.2.2.1 he3 hd3
    have nL : a ≠ X.env.locals := fun z => nfr (List.mem_filterMap.mpr ⟨X.env, List.mem_cons_self, by rw [hf, z]⟩)
    have nF : a ∉ X.fs := fun hm => by
      obtain ⟨e, he, q⟩ := List.mem_filterMap.mp hm
      exact nfr (List.mem_filterMap.mpr ⟨e, List.mem_cons_of_mem _ he, q⟩)
    have S3 := J3.suite he3 hd3 na nL nF
    have go : ∀ {hds' : List ExceptHandler} {l' : List HG}, HdsG X hds' l' → wG X.K Wout D l' cls d σ' H' →
        wpAny (model X.prog X.w) X.A (handleBy (.ref a) X.env hds') (SP X pins D) X.xe { s' with heap := h3 } := by
      intro hds' l' hk
      induction hk with
      | nil =>
        intro w
        refine wpAny_handleBy_nil ?_
        obtain ⟨k1, k2, k3, oe, vs, T, oT, ts', he, hz, hd, h1, hr⟩ := id fl3
        unfold PySem.passOn
        refine wpAny_bind (wpAny_field he hd h1 ?_)
        rw [if_neg (show ¬ ((Value.ref T == Value.none) = true) from by simp)]
        have fin : wpAny (model X.prog X.w) X.A (setFlight (.ref a) X.env.frame) (fun _ s4 => wpAny (model X.prog X.w) X.A (throw (.ref a) : Sem Flow) (SP X pins D) X.xe s4) X.xe { s' with heap := h3 } := by
          rw [hf]
          refine HandSPX.setFlight_upZ fl3 fun h4 hh4 up4 => wpAny_throw (tk _ _ ?_)
          exact ⟨a, B, sI, pins, σ', H', cls, d, rfl, J, nb, (up.trans up3).trans up4, .inr (.inr (by rw [hs]; exact hh4)), na, os, ag, w⟩
        first
          | exact wpAny_bind (wpAny_pure (wpAny_bind fin))
          | exact wpAny_bind fin
      | @cons x n i c ts b₀ suite np pos' hds2 l2 hc hn hsu r ih =>
        intro w
        obtain ⟨b, hb1, hyes, hno⟩ := w
        refine wpAny_handleBy_cons (codeAny_handlers_test ?_) (by intro q; cases q)
        have LT : PySem.W.Looks (model X.prog X.w) h3 (typeOf (.ref a)) cls := fun A Q E s k q => wpAny_typeOf_ref (k _ _ he3) (by rw [hz3.1]; exact q)
        have LM := PySem.W.exm_one (M := model X.prog X.w) (J3.kIn) LT hb1
        have test : ∀ {Q : Value → Shared → Prop} {E : Value → Shared → Prop}, Q c { s' with heap := h3 } → wpAny (model X.prog X.w) (X.A.mark (some (.ref a))) (eval (.Name x np) X.env) Q E { s' with heap := h3 } := fun {Q E} q => by
          obtain ⟨hg, hdbg, hm | ⟨hm, hv, hnn⟩⟩ := hc
          · exact ld_glob (X := X.suite a ((a, oe3) :: (X.pn ++ pins))) S3 hg hm q hdbg
          · exact ld_blt (X := X.suite a ((a, oe3) :: (X.pn ++ pins))) S3 hg hm hv q hnn hdbg
        refine test (LM.here ?_)
        cases b with
        | true =>
          cases n with
          | none =>
            cases i with
            | some i => exact hn.elim
            | none =>
              refine codeAny_handlers_suite ?_
              refine HandSPX.lands_againZ fl3 fun h4 fl4 up4 => ?_
              have J4 : Inv X pins σ' H' { s' with heap := h4 } := J.landed nb fl4.1 ((up.trans up3).trans up4) os ag
              obtain ⟨oe4, vs4, he4, hz4, hd4⟩ := fl4.there
              have S4 := J4.suite he4 hd4 na nL nF
              refine wpAny_mono ((hsu a oe4 cls d (X.pn ++ pins) hz4 ⟨_, hd4⟩).run [] _ _ H' _ S4 (hyes rfl a na)) (fun f s6 hsp => ?_) (fun _ _ z => False.elim z)
              cases f with
              | next =>
                obtain ⟨σ6, H6, S6, q6⟩ := hsp
                exact ⟨_, _, S6.unsuite ok, q6⟩
              | brk =>
                obtain ⟨σ6, H6, S6, q6⟩ := hsp
                exact ⟨_, _, S6.unsuite ok, q6⟩
              | cont =>
                obtain ⟨σ6, H6, S6, q6⟩ := hsp
                exact ⟨_, _, S6.unsuite ok, q6⟩
              | ret u =>
                obtain ⟨v6, σ6, H6, S6, r6, q6⟩ := hsp
                exact ⟨_, _, _, S6.unsuite ok, r6, q6⟩
          | some n =>
            cases i with
            | none => exact hn.elim
            | some i =>
              obtain ⟨hi, hln⟩ := hn
              have hloc : Loc X.env.scope n := .inl hln
              refine codeAny_handlers_suite_as ?_
              refine HandSPX.lands_againZ fl3 fun h4 fl4 up4 => ?_
              have J4 : Inv X pins σ' H' { s' with heap := h4 } := J.landed nb fl4.1 ((up.trans up3).trans up4) os ag
              obtain ⟨oe4, vs4, he4, hz4, hd4⟩ := fl4.there
              have S4 := J4.suite he4 hd4 na nL nF
              refine store_ok (X := X.suite a ((a, oe4) :: (X.pn ++ pins))) (v := .ref a) S4 hN hi hloc rfl (fun s5 S5 => ?_) (.inr hln)
              refine wpAny_mono ((hsu a oe4 cls d (X.pn ++ pins) hz4 ⟨_, hd4⟩).run [] s5 _ H' _ S5 (hyes rfl a na)) (fun f s6 hsp => ?_) (fun _ _ z => False.elim z)
              have end_ : ∀ {σ6 : L2.St} {H6 : Hp} {Q : Shared → Prop}, Inv (X.suite a ((a, oe4) :: (X.pn ++ pins))) [] σ6 H6 s6 → (∀ s7, Inv X pins (σ6.set i none) H6 s7 → Q s7) →
                  wpAny (model X.prog X.w) X.A (do bindName X.env n .none; unbindBehindTheSuite X.env n pos') (fun _ s7 => Q s7) X.xe s6 := fun {σ6 H6 Q} S6 hq => gone_ok (S6.unsuite ok) hN hi hln hq
              cases f with
              | next =>
                obtain ⟨σ6, H6, S6, q6⟩ := hsp
                exact end_ S6 fun s7 J7 => ⟨_, _, J7, q6⟩
              | brk =>
                obtain ⟨σ6, H6, S6, q6⟩ := hsp
                exact end_ S6 fun s7 J7 => ⟨_, _, J7, q6⟩
              | cont =>
                obtain ⟨σ6, H6, S6, q6⟩ := hsp
                exact end_ S6 fun s7 J7 => ⟨_, _, J7, q6⟩
              | ret u =>
                obtain ⟨v6, σ6, H6, S6, r6, q6⟩ := hsp
                exact end_ S6 fun s7 J7 => ⟨_, _, _, J7, r6, q6⟩
        | false =>
          show wpAny _ X.A (handleBy (.ref a) X.env hds2) _ _ _
          exact ih (hno rfl)
    exact go hh w
  · cases f with
    | next =>
      obtain ⟨σ', H', J', q⟩ := hsp
      exact wpAny_execs_nil ⟨σ', H', J'.ofTry ok, q⟩
    | brk =>
      obtain ⟨σ', H', J', q⟩ := hsp
      exact ⟨σ', H', J'.ofTry ok, q⟩
    | cont =>
      obtain ⟨σ', H', J', q⟩ := hsp
      exact ⟨σ', H', J'.ofTry ok, q⟩
    | ret u =>
      obtain ⟨v, σ', H', J', r, q⟩ := hsp
      exact ⟨v, σ', H', J'.ofTry ok, r, q⟩
end

/-! ### the meaning -/
def unEx : Option Z → Option Z
  | some .ex => none
  | o => o
def clr (l : L) : L := l.map unEx
structure HZ where
  k : XC
  i : Option Nat
  s : XR → DS
def S.gone (i : Nat) : S → S
  | .nx l G => .nx ((clr l).set i none) G
  | .bk l G => .bk ((clr l).set i none) G
  | .ct l G => .ct ((clr l).set i none) G
  | .rt z G => .rt z G
  | _ => .bad
def S.calm : S → S
  | .exc _ _ _ => .bad
  | r => r
def HZ.go (h : HZ) (x : XR) (l : L) (G : GH) : S := match h.i with
  | none => (h.s x l G).calm
  | some i => (h.s x ((clr l).set i (some .ex)) G).gone i
def dHs (sub : XC → XC → Option Bool) (x : XR) (l : L) (G : GH) : List HZ → S
  | [] => .exc x l G
  | h :: r => match sub x.cls h.k with
    | some true => h.go x l G
    | some false => dHs sub x l G r
    | none => .bad
def dTry (sub : XC → XC → Option Bool) (b : DS) (hs : List HZ) : DS := fun l G => match b l G with
  | .exc x l G => dHs sub x l G hs
  | r => r
section
variable {X : Cx} {c : C} {W : WX}
theorem C.at_back (c : C) (D : Dy) : (c.at_ D).at_ c.dy = c := rfl
/-- the caught exception's -/
abbrev Dy.exc (a : Addr) (d : Option Addr) (n : Option Nat) (D : Dy) : Dy := { xa := a, xd := d, xp := n, inv := D.inv, mono := D.mono }
theorem RL.clr {ρ : List Addr} {H : Hp} {l : L} {σ : L2.St} (r : RL c ρ H l σ) (D : Dy) : RL (c.at_ D) ρ H (Zy.clr l) σ := by
  refine ⟨by unfold Zy.clr; rw [List.length_map]; exact r.len, fun i z e => ?_⟩
  unfold Zy.clr at e
  rw [List.getElem?_map] at e
  cases q : l[i]? with
  | none => rw [q] at e; cases e
  | some o =>
    rw [q] at e
    have e' : unEx o = some z := Option.some.inj e
    cases o with
    | none => cases e'
    | some y =>
      obtain ⟨v, h1, h2⟩ := r.at_ i y q
      cases y with
      | ex => cases e'
      | _ =>
        cases e'
        refine ⟨v, h1, .inl (h2.resolve_right fun h => nomatch h.1).xa⟩
theorem RL.wipeAt {ρ : List Addr} {H : Hp} {l : L} {σ : L2.St} (r : RL c ρ H l σ) (i : Nat) : RL c ρ H (l.set i none) (σ.set i none) := r.unset i
/-- what a suite is asked: the exception x, its class told -/
def tSu (c : C) (s : XR → DS) : Addr → Value → Option Addr → TS := fun a cls d D σ H => ∃ x, cls = clsV c x.cls ∧ (x.pay = none → d = none) ∧ tS (c.at_ (.exc a d x.pay c.dy)) W0 (s x) D σ H
def tSuN (c : C) (s : XR → DS) : Addr → Value → Option Addr → TS := fun _ cls d D σ H => ∃ x, cls = clsV c x.cls ∧ (x.pay = none → d = none) ∧ tS c W0 (s x) D σ H
def hzT (c : C) (h : HZ) : HG := (clsV c h.k, h.i, match h.i with | none => tSuN c h.s | some _ => tSu c h.s)
theorem try_read {sub : XC → XC → Option Bool} (hsub : ∀ a b r, sub a b = some r → PySem.W.exmOne X.K (clsV c a) (clsV c b) = some r) {D : Ends} {W : WX} {x : XR} {ρ : List Addr} {H : Hp} {G : GH} {l : L} {σ : L2.St} {cls : Value} {d : Option Addr}
    (R : Rel c ρ H G) (hl : RL c ρ H l σ) (rx : RX c ρ x cls d) : ∀ {hs : List HZ}, RS c ρ H (dHs sub x l G hs) D W → wG X.K W D (hs.map (hzT c)) cls d σ H
  | [], h => (show RS c ρ H (.exc x l G) D W from h) ρ H σ cls d (Ext.refl _ _) R hl rx
  | hd :: r, h => by
    obtain ⟨e1, e2⟩ := rx
    unfold dHs at h
    cases q : sub x.cls hd.k with
    | none => simp only [q] at h; exact h.elim
    | some b =>
      refine ⟨b, by rw [e1]; exact hsub _ _ _ q, fun hb a na => ?_, fun hb => ?_⟩
      · subst hb
        simp only [q] at h
        unfold HZ.go at h
        cases hi : hd.i with
        | none =>
          simp only [hi] at h
          refine ⟨x, e1, fun hp => by rw [hp] at e2; exact e2, ρ, G, l, R, hl, ?_⟩
          cases hr : hd.s x l G with
          | bad => rw [hr] at h; exact h
          | exc x' l' G' => rw [hr] at h; exact h.elim
          | nx l' G' => rw [hr] at h; exact h
          | bk l' G' => rw [hr] at h; exact h
          | ct l' G' => rw [hr] at h; exact h
          | rt z G' => rw [hr] at h; exact h
        | some i =>
          simp only [hi] at h
          have pay : ∀ m, x.pay = some m → ∃ b, ρ[m]? = some b ∧ d = some b := fun m hm => by rw [hm] at e2; exact e2
          have R' : Rel (c.at_ (.exc a d x.pay c.dy)) ρ H G := R.xa pay R.iv
          have hl' : RL (c.at_ (.exc a d x.pay c.dy)) ρ H ((Zy.clr l).set i (some .ex)) (σ.set i (some (.ref a))) := by
            have r0 := hl.clr (.exc a d x.pay c.dy)
            refine ⟨by simp [r0.len], fun j z' e => ?_⟩
            by_cases hj : j = i
            · subst hj
              by_cases hlt : j < (Zy.clr l).length
              · rw [List.getElem?_set_self hlt] at e
                cases e
                exact ⟨.ref a, by rw [List.getElem?_set_self (by rw [← r0.len]; exact hlt)], .inr ⟨rfl, rfl⟩⟩
              · rw [List.getElem?_eq_none (by simpa using hlt)] at e; cases e
            · rw [List.getElem?_set_ne (Ne.symm hj)] at e ⊢
              exact r0.at_ j z' e
          refine ⟨x, e1, fun hp => by rw [hp] at e2; exact e2, ρ, G, _, R', hl', ?_⟩
          have back : ∀ {ρ2 H2 G2 l2 σ2}, Ext ρ H ρ2 H2 → Rel (c.at_ (.exc a d x.pay c.dy)) ρ2 H2 G2 → RL (c.at_ (.exc a d x.pay c.dy)) ρ2 H2 l2 σ2 → Rel c ρ2 H2 G2 ∧ RL c ρ2 H2 ((Zy.clr l2).set i none) (σ2.set i none) := by
            intro ρ2 H2 G2 l2 σ2 e R2 hl2
            have R3 : Rel ((c.at_ (.exc a d x.pay c.dy)).at_ c.dy) ρ2 H2 G2 := R2.xa (fun m hm => by
              obtain ⟨b, h1, h2⟩ := R.pay m hm
              exact ⟨b, pre_get e.pre h1, h2⟩) R2.iv
            have l3 : RL ((c.at_ (.exc a d x.pay c.dy)).at_ c.dy) ρ2 H2 (Zy.clr l2) σ2 := hl2.clr _
            exact ⟨R3, RL.unset (c := c) l3 i⟩
          cases hr : hd.s x ((Zy.clr l).set i (some .ex)) G with
          | bad => rw [hr] at h; exact h
          | exc x' l' G' => rw [hr] at h; exact h.elim
          | nx l' G' =>
            rw [hr] at h
            intro ρ2 H2 σ2 e R2 hl2
            obtain ⟨R3, l3⟩ := back e R2 hl2
            exact (show RS c ρ H (.nx ((Zy.clr l').set i none) G') D W from h) ρ2 H2 _ e R3 l3
          | bk l' G' =>
            rw [hr] at h
            intro ρ2 H2 σ2 e R2 hl2
            obtain ⟨R3, l3⟩ := back e R2 hl2
            exact (show RS c ρ H (.bk ((Zy.clr l').set i none) G') D W from h) ρ2 H2 _ e R3 l3
          | ct l' G' =>
            rw [hr] at h
            intro ρ2 H2 σ2 e R2 hl2
            obtain ⟨R3, l3⟩ := back e R2 hl2
            exact (show RS c ρ H (.ct ((Zy.clr l').set i none) G') D W from h) ρ2 H2 _ e R3 l3
          | rt z G' =>
            rw [hr] at h
            intro ρ2 H2 v e R2 rz
            have rz' : RZ ((c.at_ (.exc a d x.pay c.dy)).at_ c.dy) ρ2 H2 z v := rz.xa
            exact (show RS c ρ H (.rt z G') D W from h) ρ2 H2 v e (back (l2 := []) (σ2 := []) e R2 ⟨rfl, fun i z h => by simp at h⟩).1 rz'
      · subst hb
        simp only [q] at h
        exact try_read hsub R hl ⟨e1, e2⟩ h
variable {body : List Stmt} {hds : List ExceptHandler} {h₀ : ExceptHandler} {pos : Pos}
theorem ss_try {sub : XC → XC → Option Bool} (hsub : ∀ a b r, sub a b = some r → PySem.W.exmOne X.K (clsV c a) (clsV c b) = some r) (hs : X.stack = X.env :: X.outer) (hf : X.env.frame = some X.env.locals) (hN : X.N.Nodup) (tk : Takes X W) {db : DS} {hz : List HZ}
    (hb : ∀ (W : WX) (pn : List (Addr × Obj)) (xe : Value → Shared → Prop), Takes (X.tr pn xe) W → PassesOwn (model X.prog X.w) X.A X.env xe → PSs (X.tr pn xe) body (tS c W db))
    (hh : HdsG X (h₀ :: hds) (hz.map (hzT c))) : PS X (.Try body (h₀ :: hds) [] [] pos) (tS c W (dTry sub db hz)) :=
  (ps_try_gen hs hf hN tk hb hh).weak fun D σ H ⟨ρ, G, l, R, hl, q⟩ => by
    refine ⟨ρ, G, l, R, hl, ?_⟩
    unfold dTry at q
    cases hr : db l G with
    | exc x l' G' =>
      rw [hr] at q
      exact fun ρ2 H2 σ2 cl d e R2 l2 rx => try_read hsub R2 l2 rx (RS.ext e q)
    | bad => rw [hr] at q; exact q
    | nx l' G' => rw [hr] at q; exact q
    | bk l' G' => rw [hr] at q; exact q
    | ct l' G' => rw [hr] at q; exact q
    | rt z G' => rw [hr] at q; exact q
/-! ### raise -/
def dRaise (k : Nat) : DS := fun l G => .exc ⟨.own k, none⟩ l G
theorem ss_raise {x m : Str} {j k : Nat} {p p2 p3 : Pos} {bmB : List Value} {B newId initId : String} (hc : X.calm = true) (tk : Takes X W) (F : ExcBaseFacts B newId initId bmB) (q : PySem.W.excIn X.K (c.ca k) bmB newId = true) (gC : X.mg x = some (.ref (c.ca k))) (kC : PySem.W.keepIn X.K (.ref (c.ca k)) = true) (r : Raises X (.ref (c.ca k))) (hg : Gl X x)
    (hdb : (x == ("__debug__" : Str)) = false) : PS X (.Raise (some (.Call (.Name x p) [.Constant (.str m) j p2] [] p3)) none pos) (tS c W (dRaise k)) :=
  (ps_raise hc tk (pmk_own F q gC kC r hg hdb)).weak fun D σ H ⟨ρ, G, l, R, hl, q⟩ =>
    (show RS c ρ H (.exc ⟨.own k, none⟩ l G) D W from q) ρ H σ (.ref (c.ca k)) none (Ext.refl _ _) R hl ⟨rfl, rfl⟩
end
end Zy
end
section
set_option Elab.async false
set_option linter.all false
set_option maxRecDepth 100000
set_option maxHeartbeats 4000000
set_option autoImplicit false
/-! the text as data of our own, what it means, that it is the text -/
namespace Zy
open PySem PySem.Spec PyProof.Rows L2

inductive Bn where
  | len | abs | all | any | sum | max | min | isi
  deriving DecidableEq
inductive Mn where
  | append | extend | pop | index
  deriving DecidableEq
/-- what a global name is -/
inductive GK where
  | fn (k : Nat) | val (z : Z) | ty (n : String) | bf (b : Bn) | ex (k : Nat) | dct (es : List (List Nat × Z)) | lam (k : Nat) | rng
structure Tb where
  gl : List (Str × GK)
inductive E where
  | var (i : Nat) | cst (z : Z) | glb (j : Nat) | bin (op : Operator) (a b : E) | cmp (op : CmpOp) (a b : E) | chn (o1 o2 : CmpOp) (a b c : E) | neg (a : E) | not (a : E) | and (a r : E) | or (a r : E) | one (a : E) | ife (t a b : E)
  | tup (a : E) | lst (a : E) | call (j : Nat) (a : E) | bfn (j : Nat) (a : E) | ix (a b : E) | slc (a lo hi : E) | none_ | mth (m : Mn) (o a : E) | cpr (it : E) (p : Pat) (t e : E) (own : List Nat) | yes
  | wix (j : Nat) (a : E) | act (i : Nat) | isE (j : Nat) | dnew | dmk (a : E) | anil | acons (a r : E) | dnil | dcons (k v r : E) | rng1 (j : Nat) (a : E) | rng2 (j : Nat) (a : E) | lam (j : Nat) (e : E)
structure M where
  e : DE
  t : DT := dTru e
  a : DA := fun _ _ => .bad
  i : DI := dIter e
  o : L → GH → R (Option Int) := dPart e
  p : L → GH → R (List (Z × Z)) := fun _ _ => .bad
def badE : DE := fun _ _ => .bad
/-- what is called at a place: functions, functions that take a lambda, functions within a lambda, the lambda that was taken; the caught exception -/
structure Rt where
  cf : CF
  lf : Nat → (GH → R Z) → GH → R Z := fun _ _ _ => .bad
  low : CF := fun _ _ _ => .bad
  th : GH → R Z := fun _ => .bad
  x : Option XR := none
  sub : XC → XC → Option Bool := fun _ _ => none
  lv : Nat := 0
def Rt.lower (r : Rt) : Rt := { cf := r.low, sub := r.sub, lv := r.lv - 2 }
def bnZ : Bn → List Z → GH → R Z
  | .len => on1 zLen
  | .abs => on1 zAbs
  | .all => on1 zAll
  | .any => on1 zAny
  | .sum => on1 zSum
  | .max => on2 zMax2
  | .min => on2 zMin2
  | .isi => on2 zIsi
def tyZ (n : String) : List Z → GH → R Z := if n = "int" then on1 zInt else if n = "bool" then on1 zBool else if n = "tuple" then on1 zTuple else if n = "list" then on1 zList else fun _ _ => .bad
def mnZ : Mn → MF
  | .append => zAppend
  | .extend => zExtend
  | .pop => zPop
  | .index => zIndex
def mnN : Mn → Str
  | .append => "append"
  | .extend => "extend"
  | .pop => "pop"
  | .index => "index"
def mnT : Mn → List String
  | _ => ["list"]
def dWix (es : List (List Nat × Z)) (a : DE) : DE := fun l G => (a l G).bind fun x G1 => match x with
  | .str y => match es.lookup y with
    | some z => .ok z G1
    | none => .bad
  | _ => .bad
/-- isinstance(e, C), e the caught exception in slot i -/
def dIsE (sub : XC → XC → Option Bool) (x : Option XR) (k : XC) (i : Nat) : DE := fun l G => match x, l[i]? with
  | some x, some (some .ex) => match x.pay, x.cls, sub x.cls k with
    | none, .own _, some b => .ok (.bl b) G
    | _, _, _ => .bad
  | _, _ => .bad
def dNewD : DE := fun _ G => newO (.dK [] []) G
def keyZ : Z → Option Key
  | .int i => some (.inl i)
  | .str x => some (.inr ⟨x.toArray⟩)
  | _ => none
def mkKZ : List (Z × Z) → List Key → List Z → Option (List Key × List Z)
  | [], ks, zs => some (ks, zs)
  | (k, z) :: r, ks, zs => match keyZ k with
    | some k => if (ks.any fun j => @decide (j = k) (instDecidableEqSum j k)) then none else mkKZ r (ks ++ [k]) (zs ++ [z])
    | none => none
def dAct (i : Nat) (th : GH → R Z) : DE := fun l G => match l[i]? with
  | some (some .ex) => th G
  | _ => .bad
def ev (T : Tb) : E → Rt → Option Nat → M
  | .var i, r, xs => { e := dVar i }
  | .cst z, r, xs => { e := dC z }
  | .glb j, r, xs => { e := match T.gl[j]? with
    | some (_, .val z) => dC z
    | some (_, .ty n) => dC (.ty n)
    | _ => badE }
  | .bin op a b, r, xs => { e := dBin op (ev T a r xs).e (ev T b r xs).e }
  | .cmp op a b, r, xs => { e := dCmp op (ev T a r xs).e (ev T b r xs).e, t := uB (dCmp op (ev T a r xs).e (ev T b r xs).e) }
  | .chn o1 o2 a b c, r, xs => { e := dChn o1 o2 (ev T a r xs).e (ev T b r xs).e (ev T c r xs).e }
  | .neg a, r, xs => { e := dNeg (ev T a r xs).e }
  | .not a, r, xs => { e := dNot (ev T a r xs).e, t := uNot (ev T a r xs).t }
  | .and a b, r, xs => { e := dAnd (ev T a r xs).e (ev T b r xs).e, t := uAnd (ev T a r xs).t (ev T b r xs).t }
  | .or a b, r, xs => { e := dOr (ev T a r xs).e (ev T b r xs).e, t := uOr (ev T a r xs).t (ev T b r xs).t }
  | .one a, r, xs => { e := (ev T a r xs).e, t := (ev T a r xs).t }
  | .ife t a b, r, xs => { e := dIf (ev T t r xs).t (ev T a r xs).e (ev T b r xs).e }
  | .tup a, r, xs => { e := dTup (ev T a r xs).a }
  | .lst a, r, xs => { e := dLst (ev T a r xs).a }
  | .call j a, r, xs => { e := match T.gl[j]? with
    | some (_, .fn k) => dCall r.cf k (ev T a r xs).a
    | _ => badE }
  | .bfn j a, r, xs => { e := match T.gl[j]? with
    | some (_, .bf b) => dFn (bnZ b) (ev T a r xs).a
    | some (_, .ty n) => dFn (tyZ n) (ev T a r xs).a
    | _ => badE }
  | .ix a b, r, xs => { e := dIx (ev T a r xs).e (ev T b r xs).e }
  | .slc a lo hi, r, xs => { e := dSlc (ev T a r xs).e (ev T lo r xs).o (ev T hi r xs).o }
  | .none_, r, xs => { e := badE, o := dNoPart }
  | .mth m o a, r, xs => { e := dMth (mnZ m) (mnT m) (ev T o r xs).e (ev T a r xs).a }
  | .cpr it p t e own, r, xs => { e := dComp (ev T it r xs).i p (ev T t r xs).t (ev T e r xs).e own }
  | .yes, r, xs => { e := badE, t := dYes }
  | .wix j a, r, xs => { e := match T.gl[j]? with
    | some (_, .dct es) => dWix es (ev T a r xs).e
    | _ => badE }
  | .act i, r, xs => { e := dAct i r.th }
  | .isE j, r, xs => { e := match T.gl[j]?, xs with
    | some (_, .ex k), some i => dIsE r.sub r.x (.own k) i
    | some (_, .ty n), some i => dIsE r.sub r.x (.blt n) i
    | _, _ => badE }
  | .dnew, r, xs => { e := dNewD }
  | .dmk a, r, xs => { e := fun l G => ((ev T a r xs).p l (G ++ [.dK [] []])).bind fun ps G2 => match G2[G.length]?, mkKZ ps [] [] with
    | some (.dK [] []), some (ks, zs) => if ps.length ≤ 15 then .ok (.ref G.length) (G2.set G.length (.dK ks zs)) else .bad
    | _, _ => .bad }
  | .anil, r, xs => { e := badE, a := dNil }
  | .acons a b, r, xs => { e := badE, a := dCons (ev T a r xs).e (ev T b r xs).a }
  | .dnil, r, xs => { e := badE, p := fun _ G => .ok [] G }
  | .dcons k v b, r, xs => { e := badE, p := fun l G => ((ev T k r xs).e l G).bind fun x G1 => ((ev T v r xs).e l G1).bind fun y G2 => ((ev T b r xs).p l G2).bind fun ps G3 => .ok ((x, y) :: ps) G3 }
  | .rng1 _ a, r, xs => { e := badE, i := dRng1 (ev T a r xs).a }
  | .rng2 _ a, r, xs => { e := badE, i := dRng2 (ev T a r xs).a }
  | .lam j e, r, xs => { e := match T.gl[j]? with
    | some (_, .lam k) => fun l G => r.lf k (fun G' => (ev T e r.lower none).e l G') G
    | _ => badE }

/-! ### statements -/
inductive Gt where
  | nm (i : Nat) | tp (gs : Gt) | gnil | gcons (g gs : Gt) | sub (o i : E)
structure MG where
  g : DG
  gs : DGs := fun _ _ _ => .bad
  n : Nat := 0
def evG (T : Tb) (r : Rt) (xs : Option Nat) : Gt → MG
  | .nm i => { g := dgName i }
  | .tp gs => { g := dgTup (evG T r xs gs).n (evG T r xs gs).gs }
  | .gnil => { g := fun _ _ _ => .bad, gs := dgNil, n := 0 }
  | .gcons g gs => { g := fun _ _ _ => .bad, gs := dgCons (evG T r xs g).g (evG T r xs gs).gs, n := (evG T r xs gs).n + 1 }
  | .sub o i => { g := dgSub (ev T o r xs).e (ev T i r xs).e }
inductive St where
  | nil | cons (s r : St) | ret (e : E) | retN | exp (e : E) | asg (g : Gt) (e : E) | asgC (i : Nat) (e : E) | ife (t : E) (a b : St) | pass | brk | cnt | for_ (it : E) (g : Gt) (b : St) | while_ (t : E) (b : St) | raise_ (j : Nat) | try_ (b h : St) | hnil | hcons (j : Nat) (i : Option Nat) (b r : St)
  | par (i j : Nat) (a : E)
structure MS where
  s : DS
  h : List HZ := []
def dPar (i j : Nat) (a : DA) : DS := fun l G => (a l G).st l fun xs G1 => match xs with
  | [x, y] => .nx ((l.set i (some x)).set j (some y)) G1
  | _ => .bad
def badS : DS := fun _ _ => .bad
def evS (T : Tb) (xs : Option Nat) : St → Rt → MS
  | .nil, r => { s := dNop }
  | .cons a b, r => { s := dSeq (evS T xs a r).s (evS T xs b r).s }
  | .ret e, r => { s := dRet (ev T e r xs).e }
  | .retN, r => { s := dRetN }
  | .exp e, r => { s := dExp (ev T e r xs).e }
  | .asg g e, r => { s := dAsg (evG T r xs g).g (ev T e r xs).e }
  | .asgC i e, r => { s := dAsg (dgName i) (ev T e r xs).e }
  | .ife t a b, r => { s := dIfS (ev T t r xs).t (evS T xs a r).s (evS T xs b r).s }
  | .pass, r => { s := dNop }
  | .brk, r => { s := dBrk }
  | .cnt, r => { s := dCnt }
  | .for_ it g b, r => { s := dFor (ev T it r xs).i (evG T r xs g).g (evS T xs b r).s }
  | .while_ t b, r => { s := dWhile (ev T t r xs).t (evS T xs b r).s }
  | .raise_ j, r => { s := match T.gl[j]? with
    | some (_, .ex k) => dRaise k
    | _ => badS }
  | .try_ b h, r => { s := dTry r.sub (evS T xs b r).s (evS T xs h r).h }
  | .hnil, r => { s := badS, h := [] }
  | .hcons j i b rest, r => { s := badS, h := ⟨match T.gl[j]? with | some (_, .ex k) => .own k | _ => .blt "", i, fun x => (evS T i b { r with x := some x }).s⟩ :: (evS T xs rest r).h }
  | .par i j a, r => { s := dPar i j (ev T a r xs).a }
end Zy
end
section
set_option Elab.async false
set_option linter.all false
set_option maxRecDepth 100000
set_option maxHeartbeats 4000000
set_option autoImplicit false
namespace Zy
open PySem PySem.Spec PyProof.Rows L2

/-- the place: its names, may an exception be made here, the slot of the caught one, the slot of what is called -/
structure Sx where
  sc : Scope
  N : List Str
  cm : Bool := true
  xs : Option Nat := none
  act : Option Nat := none
  lm : Bool := false
inductive Syn where
  | e (x : Expr) | t (x : Expr) | w (x : Expr) | a (xs : List Expr) | i (x : Expr) | o (x : Option Expr) | c (xs : List Expr) | d (ks : List (Option Expr)) (vs : List Expr)
def okN (x : Str) : Bool := !(x == ("__debug__" : Str)) && (!(x == ("__classdict__" : Str)) && !(x == ("__name__" : Str)))
def glB (s : Sx) (x : Str) : Bool := decide (s.sc.names.lookup x = some .globalImplicit)
def visB (s : Sx) (x : Str) : Bool := match s.sc.names.lookup x with
  | some .local => true
  | some .cell => true
  | some .free => true
  | _ => false
def plainT : Expr → Bool
  | .UnaryOp .Not _ _ => false
  | .BoolOp _ _ _ => false
  | .IfExp _ _ _ _ => false
  | .Compare _ _ _ _ => false
  | _ => true
def notSet : Expr → Bool
  | .Set _ _ _ => false
  | _ => true
def notStar : Expr → Bool
  | .Starred _ _ => false
  | _ => true
def notCall : Expr → Bool
  | .Call _ _ _ _ => false
  | _ => true
def notSlice : Expr → Bool
  | .Slice _ _ _ _ => false
  | .Tuple _ _ _ => false
  | _ => true
def gen (core : Expr → Bool) : Syn → Bool
  | .e x => core x
  | .t x => core x && plainT x
  | .i x => core x && notSet x
  | .o (some x) => core x
  | .c [x] => core x && plainT x
  | _ => false
def bnId : Bn → String
  | .len => "len"
  | .abs => "abs"
  | .all => "all"
  | .any => "any"
  | .sum => "sum"
  | .max => "max"
  | .min => "min"
  | .isi => "isinstance"
def bnCalm : Bn → Bool
  | .len => false
  | .abs => false
  | .isi => false
  | _ => true
def ownC (N : List Str) : List Nat → Option (List (Str × Nat))
  | [] => some []
  | i :: r => match N[i]?, ownC N r with
    | some x, some l => some ((x, i) :: l)
    | _, _ => none
mutual
def patC (sc : Scope) (N : List Str) (fnc : Str → Bool) : Pat → Expr → Bool
  | .nm i, .Name x _ => decide (N[i]? = some x) && (match sc.names.lookup x with
    | some .local => true
    | some .cell => fnc x
    | _ => false)
  | .tp ps, .Tuple es _ _ => patsC sc N fnc ps es
  | _, _ => false
def patsC (sc : Scope) (N : List Str) (fnc : Str → Bool) : Pats → List Expr → Bool
  | .nil, [] => true
  | .cons p ps, e :: es => notStar e && (patC sc N fnc p e && patsC sc N fnc ps es)
  | _, _ => false
end
/-- the block's place -/
def Sx.blk (s : Sx) (scope : Scope) : Sx := { sc := relS scope s.sc, N := s.N, cm := s.cm, lm := s.lm }
def noArgs : Arguments → Bool
  | ⟨[], [], none, [], [], none, []⟩ => true
  | _ => false
def chk (T : Tb) : E → Sx → Syn → Bool
  | .var i, s => gen fun x => match x with
    | .Name n _ => decide (s.N[i]? = some n) && (visB s n && okN n)
    | _ => false
  | .cst z, s => gen fun x => match x, z with
    | .Constant (.int i) _ _, .int j => decide (i = j)
    | .Constant (.bool i) _ _, .bl j => decide (i = j)
    | .Constant .none _ _, .non => true
    | .Constant (.str w) _ _, .str y => decide (y = w.cps.toList) && decide (y.length ≤ 10000)
    | _, _ => false
  | .glb j, s => gen fun x => match x with
    | .Name n _ => (match T.gl[j]? with
      | some (n', .val _) => decide (n = n') && (glB s n && okN n)
      | some (n', .ty _) => decide (n = n') && (glB s n && okN n)
      | _ => false)
    | _ => false
  | .bin op a b, s => gen fun x => match x with
    | .BinOp l op' r _ => decide (op = op') && (chk T a s (.e l) && chk T b s (.e r))
    | _ => false
  | .cmp op a b, s => fun y => match y with
    | .e (.Compare l [op'] [r] _) => decide (op = op') && ((behindInMarks op r == false) && (chk T a s (.e l) && chk T b s (.e r)))
    | .t (.Compare l [op'] [r] _) => decide (op = op') && ((behindInMarks op r == false) && (chk T a s (.e l) && chk T b s (.e r)))
    | .c [.Compare l [op'] [r] _] => decide (op = op') && ((behindInMarks op r == false) && (chk T a s (.e l) && chk T b s (.e r)))
    | _ => false
  | .chn o1 o2 a b c, s => fun y => match y with
    | .e (.Compare l [p1, p2] [m, r] _) => (decide (o1 = p1) && decide (o2 = p2)) && ((lastMarks [o1, o2] [m, r] == false) && (chk T a s (.e l) && (chk T b s (.e m) && chk T c s (.e r))))
    | _ => false
  | .neg a, s => gen fun x => match x with
    | .UnaryOp .USub x _ => chk T a s (.e x)
    | _ => false
  | .not a, s => fun y => match y with
    | .e (.UnaryOp .Not x _) => chk T a s (.e x)
    | .t (.UnaryOp .Not x _) => chk T a s (.t x)
    | .c [.UnaryOp .Not x _] => chk T a s (.t x)
    | _ => false
  | .and a r, s => fun y => match y with
    | .e (.BoolOp .And (x :: x2 :: rest) p) => chk T a s (.e x) && chk T r s (.e (.BoolOp .And (x2 :: rest) p))
    | .w (.BoolOp .And (x :: x2 :: rest) p) => chk T a s (.t x) && chk T r s (.w (.BoolOp .And (x2 :: rest) p))
    | .t (.BoolOp .And (x :: x2 :: rest) p) => chk T a s (.t x) && chk T r s (.w (.BoolOp .And (x2 :: rest) p))
    | .c [.BoolOp .And (x :: x2 :: rest) p] => chk T a s (.t x) && chk T r s (.w (.BoolOp .And (x2 :: rest) p))
    | _ => false
  | .or a r, s => fun y => match y with
    | .e (.BoolOp .Or (x :: x2 :: rest) p) => chk T a s (.e x) && chk T r s (.e (.BoolOp .Or (x2 :: rest) p))
    | .w (.BoolOp .Or (x :: x2 :: rest) p) => chk T a s (.t x) && chk T r s (.w (.BoolOp .Or (x2 :: rest) p))
    | .t (.BoolOp .Or (x :: x2 :: rest) p) => chk T a s (.t x) && chk T r s (.w (.BoolOp .Or (x2 :: rest) p))
    | .c [.BoolOp .Or (x :: x2 :: rest) p] => chk T a s (.t x) && chk T r s (.w (.BoolOp .Or (x2 :: rest) p))
    | _ => false
  | .one a, s => fun y => match y with
    | .e (.BoolOp _ [x] _) => chk T a s (.e x)
    | .w (.BoolOp _ [x] _) => chk T a s (.t x)
    | _ => false
  | .ife t a b, s => gen fun x => match x with
    | .IfExp t' l r _ => chk T t s (.t t') && (chk T a s (.e l) && chk T b s (.e r))
    | _ => false
  | .tup a, s => gen fun x => match x with
    | .Tuple es _ _ => chk T a s (.a es)
    | _ => false
  | .lst a, s => gen fun x => match x with
    | .List es _ => chk T a s (.a es)
    | _ => false
  | .call j a, s => gen fun x => match x with
    | .Call (.Name n _) es [] _ => (match T.gl[j]? with
      | some (n', .fn _) => decide (n = n') && (s.cm && (glB s n && (okN n && (es.all notStar && chk T a s (.a es)))))
      | _ => false)
    | _ => false
  | .bfn j a, s => gen fun x => match x with
    | .Call (.Name n _) (e :: es) [] _ => (match T.gl[j]? with
      | some (n', .bf b) => decide (n = n') && ((!bnCalm b || s.cm) && (glB s n && (okN n && ((e :: es).all notStar && chk T a s (.a (e :: es))))))
      | some (n', .ty _) => decide (n = n') && (glB s n && (okN n && ((e :: es).all notStar && chk T a s (.a (e :: es)))))
      | _ => false)
    | _ => false
  | .ix a b, s => gen fun x => match x with
    | .Subscript l r _ => notSlice r && (chk T a s (.e l) && chk T b s (.e r))
    | _ => false
  | .slc a lo hi, s => gen fun x => match x with
    | .Subscript l (.Slice p q none _) _ => chk T a s (.e l) && (chk T lo s (.o p) && chk T hi s (.o q))
    | _ => false
  | .none_, s => fun y => match y with
    | .o none => true
    | _ => false
  | .mth m o a, s => gen fun x => match x with
    | .Call (.Attribute o' n apos) es [] cpos => decide (n = mnN m) && (notCall o' && (decide (es.length < 20) && ((apos.endLine == cpos.line) && (es.all notStar && (chk T o s (.e o') && chk T a s (.a es))))))
    | _ => false
  | .cpr it p t e own, s => gen fun x => match x with
    | .ListComp elt [⟨tg, iter, ifs, 0⟩] scope _ => (s.cm && s.xs.isNone) && (match ownC s.N own with
      | some ow => blkC s.N s.sc scope ow && (p.slots.all (fun i => own.contains i) && (patC (relS scope s.sc) s.N (fun x => scope.names.lookup x == some .cell) p tg && (chk T it s (.i iter) && (chk T t (s.blk scope) (.c ifs) && chk T e (s.blk scope) (.e elt)))))
      | none => false)
    | _ => false
  | .yes, s => fun y => match y with
    | .c [] => true
    | _ => false
  | .wix j a, s => gen fun x => match x with
    | .Subscript (.Name n _) r _ => (match T.gl[j]? with
      | some (n', .dct _) => decide (n = n') && (notSlice r && (glB s n && (okN n && chk T a s (.e r))))
      | _ => false)
    | _ => false
  | .act i, s => gen fun x => match x with
    | .Call (.Name n _) [] [] _ => decide (s.act = some i) && (decide (s.N[i]? = some n) && (visB s n && okN n))
    | _ => false
  | .isE j, s => gen fun x => match x, s.xs with
    | .Call (.Name f _) [.Name n _, .Name k _] [] _, some i => (match T.gl[j]? with
      | some (k', .ex _) => decide (f = ("isinstance" : Str)) && (glB s f && (decide (s.N[i]? = some n) && (visB s n && (okN n && (decide (k = k') && (glB s k && okN k))))))
      | some (k', .ty _) => decide (f = ("isinstance" : Str)) && (glB s f && (decide (s.N[i]? = some n) && (visB s n && (okN n && (decide (k = k') && (glB s k && okN k))))))
      | _ => false)
    | _, _ => false
  | .dnew, s => gen fun x => match x with
    | .Dict [] [] _ => true
    | _ => false
  | .dmk a, s => gen fun x => match x with
    | .Dict (k :: ks) vs _ => decide ((k :: ks).length = vs.length) && (decide ((k :: ks).length ≤ 15) && ((k :: ks).all (·.isSome) && chk T a s (.d (k :: ks) vs)))
    | _ => false
  | .anil, s => fun y => match y with
    | .a [] => true
    | _ => false
  | .acons a r, s => fun y => match y with
    | .a (x :: xs) => notStar x && (chk T a s (.e x) && chk T r s (.a xs))
    | _ => false
  | .dnil, s => fun y => match y with
    | .d [] [] => true
    | _ => false
  | .dcons k v r, s => fun y => match y with
    | .d (some x :: ks) (w :: vs) => chk T k s (.e x) && (chk T v s (.e w) && chk T r s (.d ks vs))
    | _ => false
  | .rng1 j a, s => fun y => match y with
    | .i (.Call (.Name n _) [x] [] _) => (match T.gl[j]? with
      | some (n', .rng) => decide (n = n') && (decide (n = ("range" : Str)) && (glB s n && (notStar x && chk T a s (.a [x]))))
      | _ => false)
    | _ => false
  | .rng2 j a, s => fun y => match y with
    | .i (.Call (.Name n _) [x, x2] [] _) => (match T.gl[j]? with
      | some (n', .rng) => decide (n = n') && (decide (n = ("range" : Str)) && (glB s n && (notStar x && (notStar x2 && chk T a s (.a [x, x2])))))
      | _ => false)
    | _ => false
  | .lam j e, s => gen fun x => match x with
    | .Call (.Name n _) [.Lambda params body scope _] [] _ => (match T.gl[j]? with
      | some (n', .lam _) => decide (n = n') && ((s.cm && s.lm) && (glB s n && (okN n && (LamX.lamSB s.sc scope && (noArgs params && chk T e { sc := scope, N := s.N } (.e body))))))
      | _ => false)
    | _ => false

/-! ### what a place must keep -/
/-- a def that takes a lambda without parameters -/
def LamR (P : Program) (w : World) (K : PySem.W.Frag) (mg : Str → Option Value) (base : Heap) (c : C) (d : Nat) (g : Addr) (lf : (GH → R Z) → GH → R Z) : Prop :=
  ∀ (D : Dy) (A : Around) (outer : List Env) (s : Shared) (H : Hp) (f : Addr) (th : GH → R Z) (ρ : List Addr) (G : GH) (Q : VK) (E : XK), Room d A → Env0 P w K mg base A outer s H → D.xa = f → Rel (c.at_ D) ρ H G →
    (∀ (N : List Str) (qg : Str) (sg : Scope) (cdg : Value) (Eg : XK) (W : WX) (pn : List (Addr × Obj)) (xe : Value → Shared → Prop) (a : Str) (i : Nat) (p1 p2 : Pos), N[i]? = some a → Vis sg a → okN a = true → Takes ((cxOf (L2.CX P w) P w K mg base N qg sg g cdg A outer s H Eg).tr pn xe) W →
      PE ((cxOf (L2.CX P w) P w K mg base N qg sg g cdg A outer s H Eg).tr pn xe) (.Call (.Name a p1) [] [] p2) (tE (c.at_ D) W (dAct i th))) →
    RQ (c.at_ D) (RZ (c.at_ D)) ρ H (lf th G) Q E → codeAny (model P w) A (.call (.ref g) ⟨[.ref f], []⟩) (CR (L2.CX P w) outer P w H s Q E) s
def GlOk (r : Rt) (c : C) (cm : Bool) (X : Cx) (x : Str) : GK → Prop
  | .fn k => X.mg x = some (.ref (c.fa k)) ∧ PySem.W.keepIn X.K (.ref (c.fa k)) = true ∧ (cm = true → FnR X.prog X.w X.K X.mg X.base (L2.CX X.prog X.w) r.lv (c.fa k) (spR c (r.cf k)) ∧ ∀ d, r.lv = d + 2 → FnR X.prog X.w X.K X.mg X.base (L2.CX X.prog X.w) d (c.fa k) (spR c (r.low k)))
  | .val z => ∃ u v, X.mg x = some u ∧ RelV v u ∧ ∀ ρ H, RZ c ρ H z v
  | .ty n => X.mg x = none ∧ bootBuiltins x = some (.type n)
  | .bf b => X.mg x = none ∧ bootBuiltins x = some (.builtin (bnId b))
  | .ex k => X.mg x = some (.ref (c.ca k)) ∧ PySem.W.keepIn X.K (.ref (c.ca k)) = true ∧ Raises X (.ref (c.ca k)) ∧ ∃ bm B newId initId, ExcBaseFacts B newId initId bm ∧ PySem.W.excIn X.K (c.ca k) bm newId = true
  | .dct es => ∃ p, X.mg x = some (.ref p) ∧ ∀ y z, es.lookup y = some z → ∃ v, KDct X.K X.w p ⟨y.toArray⟩ v ∧ ∀ ρ H, RZ c ρ H z v
  | .lam k => X.mg x = some (.ref (c.fa k)) ∧ PySem.W.keepIn X.K (.ref (c.fa k)) = true ∧ (cm = true → LamR X.prog X.w X.K X.mg X.base c r.lv (c.fa k) (r.lf k))
  | .rng => X.mg x = none
structure XOk (T : Tb) (r : Rt) (s : Sx) (c : C) (X : Cx) (W : WX) : Prop where
  hK : c.K = X.K
  hu : X.A.units + 60 < cLine
  sc : X.env.scope = s.sc
  N : X.N = s.N
  nd : s.N.Nodup
  cm : s.cm = true → X.calm = true
  tk : Takes X W
  gl : ∀ (j : Nat) x g, T.gl[j]? = some (x, g) → GlOk r c s.cm X x g
  act : ∀ i, s.act = some i → ∀ a p1 p2, s.N[i]? = some a → Vis X.env.scope a → okN a = true → PE X (.Call (.Name a p1) [] [] p2) (tE c W (dAct i r.th))
  exs : ∀ i x k, s.xs = some i → r.x = some x → x.pay = none → x.cls = .own k → ExcC X.K (c.ca k) → CallR X (.builtin "isinstance") (rIsE X.K (c.ca k) c.dy.xa)
  room : s.cm = true → Room r.lv X.A
  lmk : s.lm = true → 2 ≤ r.lv ∧ ∃ cd P, X.env.code = .ref cd ∧ LamX.TabB X.base X.mg cd P ∧ (P, X.env.qual ++ "<lambda>") ∈ c.T ∧ ∀ p ∈ c.T, p.1 = P → p.2 = X.env.qual ++ "<lambda>"
  isI : X.mg "isinstance" = none
  sub : ∀ a b t, r.sub a b = some t → PySem.W.exmOne X.K (clsV c a) (clsV c b) = some t ∧ ∀ j, a = .own j → PySem.W.kitOne X.K (.ref (c.ca j)) (clsV c b) = some t ∧ ExcC X.K (c.ca j)
def Good (X : Cx) (c : C) (W : WX) : Syn → M → Prop
  | .e x, m => PE X x (tE c W m.e)
  | .t x, m => PT X x (tT c W m.t)
  | .w x, m => PW X x (tT c W m.t)
  | .a xs, m => PA X xs (tA c W m.a)
  | .i x, m => (∀ tg, PI X tg x (tI c W m.i)) ∧ ∀ v, foldedSetIterable x X.env v = pure v
  | .o x, m => PO X x (tOI c W m.o)
  | .c xs, m => PTs X xs (tT c W m.t)
  | .d ks vs, m => ∀ pos, ∃ trs, PPs X pos ks vs trs ∧ ∀ σ H Q, (∃ ρ G l, Rel c ρ H G ∧ RL c ρ H l σ ∧ RQ c (fun ρ H (zs : List (Z × Z)) (vs : List (V × V)) => RZs c ρ H (zs.map (·.1)) (vs.map (·.1)) ∧ RZs c ρ H (zs.map (·.2)) (vs.map (·.2))) ρ H (m.p l G) Q (atW W σ)) → tPairs trs σ H Q
end Zy
end
section
set_option Elab.async false
set_option linter.all false
set_option maxRecDepth 100000
set_option maxHeartbeats 4000000
set_option autoImplicit false
namespace Zy
open PySem PySem.Spec PyProof.Rows L2 LamX
theorem extN_ext {ρ : List Addr} {H H1 : Hp} (e : ExtN H H1) : Ext ρ H ρ H1 := by
  refine ⟨List.prefix_refl _, fun a xs h => ?_, fun a o u h => ?_, fun a b q h => ?_⟩
  · rcases h with h | ⟨o, h⟩
    · exact .inl (e _ _ h fun _ z => nomatch z)
    · exact .inr ⟨o, e _ _ h fun _ z => nomatch z⟩
  · exact e _ _ h fun _ z => nomatch z
  · exact e _ _ h fun _ z => by unfold CodeO at z; cases z
theorem extN_rel {c : C} {ρ : List Addr} {H H1 : Hp} {G : GH} (e : ExtN H H1) (t : Tabs c.T H1) (R : Rel c ρ H G) : Rel c ρ H1 G := by
  have ex : Ext ρ H ρ H1 := extN_ext e
  refine ⟨R.nd, R.len, fun n a o h1 h2 => ?_, t, R.pay, c.dy.mono ex R.iv⟩
  have ro := R.ob n a o h1 h2
  obtain ⟨u, h3, _, _, h4, _⟩ := ro.trk
  have := e a u h3 h4
  rw [this, ← h3]
  exact ro.mono ex
/-- what holds while a lambda is handed down -/
def lamDy (c : C) (l : L) (σ : L2.St) (f c' : Addr) (q : Str) : Dy where
  xa := f
  inv := fun ρ H => RL c ρ H l σ ∧ H c' = some (CodeO c' q) ∧ c.dy.inv ρ H ∧ ∀ m, c.dy.xp = some m → ∃ b, ρ[m]? = some b ∧ c.dy.xd = some b
  mono := fun e h => ⟨h.1.mono e, e.st.code _ _ _ h.2.1, c.dy.mono e h.2.2.1, fun m hm => let ⟨b, h1, h2⟩ := h.2.2.2 m hm; ⟨b, pre_get e.pre h1, h2⟩⟩
section
variable {c : C} {l : L} {σ : L2.St} {f c' : Addr} {q : Str}
theorem lamDy_up {ρ : List Addr} {H : Hp} {G : GH} (R : Rel c ρ H G) (h : (lamDy c l σ f c' q).inv ρ H) : Rel (c.at_ (lamDy c l σ f c' q)) ρ H G := R.xa (fun m hm => nomatch hm) h
theorem lamDy_dn {ρ : List Addr} {H : Hp} {G : GH} (R : Rel (c.at_ (lamDy c l σ f c' q)) ρ H G) : Rel c ρ H G := by
  have q1 : Rel ((c.at_ (lamDy c l σ f c' q)).at_ c.dy) ρ H G := R.xa (fun m hm => R.iv.2.2.2 m hm) R.iv.2.2.1
  exact q1
theorem rz_back {D : Dy} {ρ : List Addr} {H : Hp} {z : Z} {v : V} (r : RZ (c.at_ D) ρ H z v) : RZ c ρ H z v := by
  have q1 : RZ ((c.at_ D).at_ c.dy) ρ H z v := r.xa
  exact q1
theorem rx_at {D : Dy} {ρ : List Addr} {x : XR} {cls : Value} {d : Option Addr} : RX (c.at_ D) ρ x cls d ↔ RX c ρ x cls d := by
  unfold RX
  rw [show clsV (c.at_ D) x.cls = clsV c x.cls by cases x.cls <;> rfl]
theorem rq_up {ρ : List Addr} {H : Hp} {r : Zy.R Z} {Q : VK} {E : QW} (hi : (lamDy c l σ f c' q).inv ρ H) (h : RQ (c.at_ (lamDy c l σ f c' q)) (RZ (c.at_ (lamDy c l σ f c' q))) ρ H r Q E) : RQ c (RZ c) ρ H r Q E := by
  cases r with
  | bad => exact h
  | ok z G => exact fun ρ' H' v e R rz => h ρ' H' v e (lamDy_up R ((lamDy c l σ f c' q).mono e hi)) rz.xa
  | exc x G => exact fun ρ' H' cl d e R rx => h ρ' H' cl d e (lamDy_up R ((lamDy c l σ f c' q).mono e hi)) (rx_at.mpr rx)
theorem rq_dn {ρ : List Addr} {H : Hp} {r : Zy.R Z} {Q : VK} {E : QW} (h : RQ c (RZ c) ρ H r Q E) : RQ (c.at_ (lamDy c l σ f c' q)) (RZ (c.at_ (lamDy c l σ f c' q))) ρ H r Q E := by
  cases r with
  | bad => exact h
  | ok z G => exact fun ρ' H' v e R rz => h ρ' H' v e (lamDy_dn R) (rz_back rz)
  | exc x G => exact fun ρ' H' cl d e R rx => h ρ' H' cl d e (lamDy_dn R) (rx_at.mp rx)
end
section
variable {X : Cx} {c : C} {W : WX}
theorem se_act {k i : Nat} {g : Addr} {db : DE} {pins : List (Addr × Obj)} {σ : L2.St} {H : Hp} {s : Shared} {f c' : Addr} {pm ctv : Value} {params : Arguments} {body : Expr} {scope : Scope} {l : L}
    (hr : Room (k + 2) X.A) (L : LamS X.env.scope scope) (I : Inv X pins σ H s)
    (hf : s.heap.get? f = some (PySem.W.kla_obj "<lambda>" (X.env.qual ++ "<lambda>") params body scope (cloFrom X.env.cells scope.names []) pm c' ctv)) (hfn : H f = none) (hfr : f ∉ frs X.stack)
    (hbind : bindArgs (PySem.W.kla_fn "<lambda>" (X.env.qual ++ "<lambda>") params body scope (cloFrom X.env.cells scope.names []) pm (.ref c') ctv) ⟨[], []⟩ = pure [])
    (hbody : ∀ (A : Around) (outer : List Env) (s : Shared) (H : Hp) (E : XK), Room k (A.deeper (lamEnv X scope s.heap.objs.size f c')) → PE (lamCx X A outer s H E scope f c') body (tE c (fun cls d _ H => E cls d H) db))
    {N : List Str} {qg : Str} {sg : Scope} {cdg : Value} {Eg : XK} {W' : WX} {pn : List (Addr × Obj)} {xe : Value → Shared → Prop} {a : Str} {p1 p2 : Pos} (hN : N[i]? = some a) (hv : Vis sg a) (hn : (a == ("__debug__" : Str)) = false) (hcd : (a == ("__classdict__" : Str)) = false)
    (tk : Takes ((cxOf (L2.CX X.prog X.w) X.prog X.w X.K X.mg X.base N qg sg g cdg X.A X.stack s H Eg).tr pn xe) W') :
    PE ((cxOf (L2.CX X.prog X.w) X.prog X.w X.K X.mg X.base N qg sg g cdg X.A X.stack s H Eg).tr pn xe) (.Call (.Name a p1) [] [] p2) (tE (c.at_ (lamDy c l σ f c' (X.env.qual ++ "<lambda>"))) W' (dAct i fun G => db l G)) := by
  refine ⟨fun pinsZ sZ σZ HZ Q IZ ⟨ρZ, GZ, lZ, RZ', hlZ, qZ⟩ => ?_⟩
  unfold dAct at qZ
  split at qZ
  case h_2 => exact qZ.elim
  rename_i hli
  obtain ⟨v0, hs0, hv0⟩ := hlZ.at_ _ _ hli
  have hv1 := hv0.resolve_left fun h => by unfold RZ at h; exact h
  obtain ⟨_, rfl⟩ := hv1
  have hs : σZ[i]? = some (some (.ref f)) := hs0
  have hc : HZ c' = some (CodeO c' (X.env.qual ++ "<lambda>")) := RZ'.iv.2.1
  refine wpAny_Call_Name_kw (thn ((pe_var (pos := p1) (i := i) hN hv hn hcd).run pinsZ sZ σZ HZ (fun v H1 => v = .ref f ∧ H1 = HZ) IZ ⟨.ref f, hs, rfl, rfl⟩) fun u s1 ⟨v, H1, I1, r1, q1⟩ => ?_)
  obtain ⟨ev, eH⟩ := q1
  subst ev
  rw [eH] at I1
  obtain rfl : u = Value.ref f := r1
  have of1 : s1.heap.get? f = some (PySem.W.kla_obj "<lambda>" (X.env.qual ++ "<lambda>") params body scope (cloFrom X.env.cells scope.names []) pm c' ctv) := I1.base.keep f _ hf hfn hfr (fun z => nomatch (show f ∈ ([] : List Addr) from z))
  refine PySem.W.callWith_F0 ⟨_, _, _, _, of1⟩ ?_
  have un : Un (frs X.stack) [] H HZ s.heap s1.heap := I1.base
  obtain ⟨⟨oc, vs, t, hoc, hdc, hvc⟩, _, _⟩ := I1.hok c' _ hc
  have hr2 : Room (k + 1) (X.A.deeper (envOfC qg sg s.heap.objs.size g cdg)) := hr.deeper _
  have rc : codeAny (model X.prog X.w) (X.A.deeper (envOfC qg sg s.heap.objs.size g cdg)) (.call (.ref f) ⟨[], []⟩) (CR (L2.CX X.prog X.w) (envOfC qg sg s.heap.objs.size g cdg :: X.stack) X.prog X.w HZ s1 Q (atW W' σZ)) s1 := by
    refine PySem.W.kla_callFunE hr2.depth of1 rfl L.co L.gen rfl ⟨c', oc, vs, t, rfl, hoc, hdc, hvc⟩ ?_
    rw [hbind]
    refine wpAny_pure (wpAny_newFunctionEnv (fun y hy => (L.own y hy).2) (fun y hy => absurd hy (by simp)) (fun h₁ hns hsb => ⟨I1.nolimit.fresh _ hsb, ?_⟩) L.kind)
    show codeAny _ _ (.expr body (lamEnv X scope s1.heap.objs.size f c')) _ _
    have kp : ∀ b o, s1.heap.get? b = some o → h₁.get? b = some o := fun b o e => hsb.extBut b o (Nat.ne_of_lt (Heap.lt_size e)) (Heap.get?_push_of_some _ e)
    have J : Inv (lamCx X (X.A.deeper (envOfC qg sg s.heap.objs.size g cdg)) (envOfC qg sg s.heap.objs.size g cdg :: X.stack) s1 HZ (atW W' σZ) scope f c') [] σ HZ { s1 with heap := h₁, toks := s1.toks + ([] : List (Str × Value)).length } :=
      lam_start2 I L I1.env0 hr2.hd un hns kp
    have ht : tE c (fun cls d _ H => atW W' σZ cls d H) db σ HZ Q := ⟨ρZ, GZ, l, lamDy_dn RZ', RZ'.iv.1, rq_up RZ'.iv qZ⟩
    refine PySem.W.kla_codeExpr (wpAny_mono ((hbody _ _ s1 HZ (atW W' σZ) (hr2.deeper _)).run [] _ _ HZ Q J ht) (fun v s' hq => ?_) fun e s' hq => hq)
    obtain ⟨w', H', J', rv, q⟩ := hq
    exact ⟨w', H', J'.os, J'.bare, J'.base, J'.hok, rv, q⟩
  refine wpAny_call (codeAny_mono rc fun r s' hq => ?_)
  cases r with
  | error e => exact passAt tk σZ pinsZ HZ s1 e s' I1 hq
  | ok fl =>
    cases fl with
    | ret u => exact I1.after hq
    | next => exact False.elim hq
    | brk => exact False.elim hq
    | cont => exact False.elim hq
theorem se_lam {k : Nat} {g cc P : Addr} {x : Str} {lf : (GH → R Z) → GH → R Z} {db : DE} {params : Arguments} {body : Expr} {scope : Scope} {p lpos pos : Pos} (F : LamR X.prog X.w X.K X.mg X.base c (k + 2) g lf) (hr : Room (k + 2) X.A) (tk : Takes X W) (hg : Gl X x) (hm : X.mg x = some (.ref g)) (hk : PySem.W.keepIn X.K (.ref g) = true)
    (TB : TabB X.base X.mg cc P) (hcode : X.env.code = .ref cc) (hmT : (P, X.env.qual ++ "<lambda>") ∈ c.T) (hu : ∀ p ∈ c.T, p.1 = P → p.2 = X.env.qual ++ "<lambda>") (L : LamS X.env.scope scope) (hdef : defaultsOf params X.env = ([], []))
    (hbind : ∀ (q : Str) (cl : List (Str × Addr)) (pm cv ctv : Value), bindArgs (PySem.W.kla_fn "<lambda>" q params body scope cl pm cv ctv) ⟨[], []⟩ = pure [])
    (hbody : ∀ (A : Around) (outer : List Env) (s : Shared) (H : Hp) (E : XK) (f c' : Addr), Room k (A.deeper (lamEnv X scope s.heap.objs.size f c')) → PE (lamCx X A outer s H E scope f c') body (tE c (fun cls d _ H => E cls d H) db))
    (hdb : (x == ("__debug__" : Str)) = false) : PE X (.Call (.Name x p) [.Lambda params body scope lpos] [] pos) (tE c W fun l G => lf (fun G' => db l G') G) := by
  refine ⟨fun pins s σ H Q I ⟨ρ, G, l, R, hl, q⟩ => ?_⟩
  refine wpAny_Call_Name_kw (ld_glob I hg hm ?_ hdb)
  refine PySem.W.callWith_K (h₀ := X.base) I.ok.mod.kin hk ?_ (by rfl) (by rfl)
  show wpAny _ _ (spliced ((false, eval (.Lambda params body scope lpos) X.env) :: backTo pos (starEach [] X.env))) _ _ s
  refine Calls.spliced_cons (lam_make2 I TB hcode hmT hu R.tabs hdef (L.has I.ok) fun f c' pm' ctv H1 s' I1 eN T1 hf hfn hfr hco => ?_)
  refine Calls.spliced_nil ⟨I1.kIn, ?_⟩
  have e1 : Ext ρ H ρ H1 := extN_ext eN
  have R1 : Rel c ρ H1 G := extN_rel eN T1 R
  have hi : (lamDy c l σ f c' (X.env.qual ++ "<lambda>")).inv ρ H1 := ⟨hl.mono e1, hco, R1.iv, R1.pay⟩
  replace q : RQ c (RZ c) ρ H (lf (fun G' => db l G') G) Q (atW W σ) := q
  have q1 : RQ c (RZ c) ρ H1 (lf (fun G' => db l G') G) Q (atW W σ) := by
    cases hr2 : lf (fun G' => db l G') G with
    | bad => rw [hr2] at q; exact q
    | ok z G' => rw [hr2] at q; exact fun ρ' H' v e => q ρ' H' v (e1.trans e)
    | exc x G' => rw [hr2] at q; exact fun ρ' H' cl d e => q ρ' H' cl d (e1.trans e)
  have rc := F (lamDy c l σ f c' (X.env.qual ++ "<lambda>")) X.A X.stack s' H1 f (fun G' => db l G') ρ G Q (atW W σ) hr I1.env0 rfl (lamDy_up R1 hi)
    (fun N qg sg cdg Eg W' pn xe a i p1 p2 hN hv hn tk' => by
      have hn1 : (a == ("__debug__" : Str)) = false := by unfold okN at hn; rw [Bool.and_eq_true] at hn; simpa using hn.1
      have hn2 : (a == ("__classdict__" : Str)) = false := by unfold okN at hn; rw [Bool.and_eq_true, Bool.and_eq_true] at hn; simpa using hn.2.1
      exact se_act hr L I1 hf hfn hfr (hbind _ _ _ _ _) (fun A outer s H E hr3 => hbody A outer s H E f c' hr3) hN hv hn1 hn2 tk') (rq_dn q1)
  refine wpAny_call (codeAny_mono rc fun r s2 hq => ?_)
  cases r with
  | error e => exact passAt tk σ pins H1 s' e s2 I1 hq
  | ok fl =>
    cases fl with
    | ret u => exact I1.after hq
    | next => exact False.elim hq
    | brk => exact False.elim hq
    | cont => exact False.elim hq
end
end Zy
end
section
set_option Elab.async false
set_option linter.all false
set_option maxRecDepth 100000
set_option maxHeartbeats 4000000
set_option autoImplicit false
namespace Zy
open PySem PySem.Spec PyProof.Rows L2

theorem ba {a b : Bool} (h : (a && b) = true) : a = true ∧ b = true := Bool.and_eq_true_iff.mp h
theorem okN_d {x : Str} (h : okN x = true) : (x == ("__debug__" : Str)) = false := by
  unfold okN at h; obtain ⟨h1, _⟩ := ba h; simpa using h1
theorem okN_c {x : Str} (h : okN x = true) : (x == ("__classdict__" : Str)) = false := by
  unfold okN at h; obtain ⟨_, h2⟩ := ba h; obtain ⟨h1, _⟩ := ba h2; simpa using h1
theorem okN_n {x : Str} (h : okN x = true) : x ≠ ("__name__" : Str) := by
  unfold okN at h; obtain ⟨_, h2⟩ := ba h; obtain ⟨_, h1⟩ := ba h2
  intro e; rw [e] at h1; simp at h1
theorem plainT_ok {x : Expr} (h : plainT x = true) (env : Env) : ∀ whole, isTrue x env whole = (do let v ← whole; standAt x.pos; holding [v] (truthy v)) := by
  intro whole
  unfold plainT at h
  split at h <;> try cases h
  cases x with
  | UnaryOp op a p =>
    cases op with
    | Not => rename_i h1 _ _ _; exact absurd rfl (h1 a p)
    | _ => rfl
  | BoolOp op a p => rename_i h1 _ _; exact absurd rfl (h1 op a p)
  | IfExp a b d p => rename_i h1 _; exact absurd rfl (h1 a b d p)
  | Compare a b d p => rename_i h1; exact absurd rfl (h1 a b d p)
  | _ => rfl
theorem notSet_ok {x : Expr} (h : notSet x = true) (env : Env) : ∀ v, foldedSetIterable x env v = pure v := by
  intro v
  cases x with
  | Set a b d => cases h
  | _ => rfl
theorem notStar_ok {x : Expr} (h : notStar x = true) : ∀ a p, x ≠ .Starred a p := by
  intro a p e; subst e; cases h
theorem notSlice_ok {x : Expr} (h : notSlice x = true) : PlainIx x := by
  intro o i
  cases x with
  | Slice a b d e => cases h
  | Tuple a b d => cases h
  | _ => rfl
theorem all_star {es : List Expr} (h : es.all notStar = true) : ∀ e ∈ es, ∀ a p, e ≠ .Starred a p := fun e he => notStar_ok (List.all_eq_true.mp h e he)
theorem notCall_ok {o : Expr} (h : notCall o = true) (name : Str) (env : Env) (w : Sem Value) : attributeBase o name env w = w := by
  cases o with
  | Call a b d e => cases h
  | _ => rfl
section
variable {T : Tb} {r : Rt} {s : Sx} {X : Cx} {c : C} {W : WX}
theorem visB_ok {n : Str} (h : visB s n = true) (e : X.env.scope = s.sc) : Vis X.env.scope n := by
  unfold visB at h
  rw [e]
  split at h
  · rename_i q; exact .inl q
  · rename_i q; exact .inr (.inl q)
  · rename_i q; exact .inr (.inr q)
  · cases h
theorem glB_ok {x : Str} (h : glB s x = true) (e : X.env.scope = s.sc) : Gl X x := by
  show X.env.scope.names.lookup x = _
  rw [e]; exact of_decide_eq_true h
theorem gen_ok (hK : c.K = X.K) {core : Expr → Bool} {d : DE} {y : Syn} (h : gen core y = true) (k : ∀ x, core x = true → PE X x (tE c W d)) : Good X c W y { e := d } := by
  cases y with
  | e x => exact k x h
  | t x =>
    obtain ⟨h1, h2⟩ := ba h
    exact st_tru hK (k x h1) (plainT_ok h2 _)
  | i x =>
    obtain ⟨h1, h2⟩ := ba h
    exact ⟨fun tg => si_iter hK (k x h1), notSet_ok h2 _⟩
  | o x =>
    cases x with
    | none => cases h
    | some x => exact so_some (k x h)
  | c xs =>
    match xs, h with
    | [x], h =>
      obtain ⟨h1, h2⟩ := ba h
      exact pts_one (st_tru hK (k x h1) (plainT_ok h2 _))
    | [], h => cases h
    | _ :: _ :: _, h => cases h
  | w x => cases h
  | a xs => cases h
  | d a b => cases h
theorem XOk.blk (ok : XOk T r s c X W) (s1 : Shared) (H : Hp) (scope : Scope) (cl : List (Str × Addr)) (C : Addr) (fp : List Addr) : XOk T r (s.blk scope) c (X.blk s1 H scope (compEnvC scope cl C X.env) fp) W0 where
  hK := ok.hK
  hu := ok.hu
  sc := by rw [show (s.blk scope).sc = relS scope s.sc from rfl, ← ok.sc]; rfl
  N := ok.N
  nd := ok.nd
  cm := ok.cm
  tk := LamX.takes0
  gl := fun j x g h => by
    have q := ok.gl j x g h
    cases g <;> exact q
  act := fun i h => by cases h
  room := ok.room
  lmk := ok.lmk
  exs := fun i x D h => by cases h
  isI := ok.isI
  sub := ok.sub
theorem ownC_ok {N : List Str} : ∀ {l : List Nat} {ow : List (Str × Nat)}, ownC N l = some ow → ow.map (·.2) = l
  | [], ow, h => by cases h; rfl
  | i :: r, ow, h => by
    unfold ownC at h
    split at h
    · rename_i x l e1 e2
      cases h
      rw [List.map_cons, ownC_ok e2]
    · cases h
theorem pats_len {fnc : Str → Bool} {sc : Scope} {N : List Str} (env : Env) : ∀ {ps : Pats} {es : List Expr}, patsC sc N fnc ps es = true → (assignEach es env).length = ps.len ∧ (assignEach es env).findIdx? (·.1) = none
  | .nil, [], h => ⟨rfl, rfl⟩
  | .nil, _ :: _, h => by unfold patsC at h; cases h
  | .cons p ps, [], h => by unfold patsC at h; cases h
  | .cons p ps, e :: es, h => by
    unfold patsC at h
    obtain ⟨h1, h2⟩ := ba h
    obtain ⟨_, h3⟩ := ba h2
    obtain ⟨h4, h5⟩ := pats_len env h3
    have he : assignEach (e :: es) env = (false, assign e env) :: assignEach es env := by
      cases e with
      | Starred a p => cases h1
      | _ => rfl
    rw [he]
    refine ⟨by rw [List.length_cons, h4]; rfl, ?_⟩
    rw [List.findIdx?_cons]
    simp [h5]
mutual
theorem patC_ok {fnc : Str → Bool} (hc : X.calm = true) (nd : X.N.Nodup) (hf : ∀ x, fnc x = true → X.fn x = true) : ∀ {p : Pat} {e : Expr}, patC X.env.scope X.N fnc p e = true → PG X e (patG X.K p)
  | .nm i, e, h => by
    cases e with
    | Name x pos =>
      unfold patC at h
      obtain ⟨h1, h2⟩ := ba h
      unfold patG
      split at h2
      · rename_i q; exact pg_name nd (of_decide_eq_true h1) (.inl q) (.inr q)
      · rename_i q; exact pg_name nd (of_decide_eq_true h1) (.inr q) (.inl (hf _ h2))
      · cases h2
    | _ => unfold patC at h; cases h
  | .tp ps, e, h => by
    cases e with
    | Tuple es k pos =>
      unfold patC at h
      obtain ⟨h3, h4⟩ := pats_len X.env h
      unfold patG
      have hp := patsC_ok hc nd hf h
      exact (pg_tup hc hp h3 h4).or (pg_unl hc hp h3 h4)
    | _ => unfold patC at h; cases h
theorem patsC_ok {fnc : Str → Bool} (hc : X.calm = true) (nd : X.N.Nodup) (hf : ∀ x, fnc x = true → X.fn x = true) : ∀ {ps : Pats} {es : List Expr}, patsC X.env.scope X.N fnc ps es = true → PGs X es (patGs X.K ps)
  | .nil, [], h => by unfold patGs; exact pgs_nil
  | .nil, _ :: _, h => by unfold patsC at h; cases h
  | .cons p ps, [], h => by unfold patsC at h; cases h
  | .cons p ps, e :: es, h => by
    unfold patsC at h
    obtain ⟨h1, h2⟩ := ba h
    obtain ⟨h3, h4⟩ := ba h2
    unfold patGs
    refine pgs_cons (patC_ok hc nd hf h3) (patsC_ok hc nd hf h4) ?_
    cases e with
    | Starred a p => cases h1
    | _ => rfl
end
end
end Zy
end
section
set_option Elab.async false
set_option linter.all false
set_option maxRecDepth 100000
set_option maxHeartbeats 4000000
set_option autoImplicit false
namespace Zy
open PySem PySem.Spec PyProof.Rows L2
section
variable {T : Tb} {r : Rt} {X : Cx} {c : C} {W : WX}
theorem _root_.L2.PTs.weak {es : List Expr} {t t' : TT} (h : PTs X es t) (w : ∀ σ H Q, t' σ H Q → t σ H Q) : PTs X es t' := ⟨fun pins s σ H Q I q => h.run pins s σ H Q I (w σ H Q q)⟩
theorem badF {P : Program} {w : World} {K : PySem.W.Frag} {mg : Str → Option Value} {base : Heap} {CX : CXT} {d : Nat} {f : Addr} : FnR P w K mg base CX d f (spR c fun _ _ => .bad) := fun A outer s H us vs Q E _ _ _ ⟨ρ, G, zs, _, _, q⟩ => q.elim
theorem badL {P : Program} {w : World} {K : PySem.W.Frag} {mg : Str → Option Value} {base : Heap} {d : Nat} {f : Addr} : LamR P w K mg base c d f (fun _ _ => .bad) := fun D A outer s H f th ρ G Q E _ _ _ _ _ q => q.elim
theorem nil_args {a : E} {s : Sx} {xs : Option Nat} (h : chk T a s (.a []) = true) : (ev T a r xs).a = dNil := by
  cases a <;> first | rfl | (unfold chk at h; first | cases h | (simp [gen] at h))
theorem bnOk (hK : c.K = X.K) (b : Bn) (hc : bnCalm b = true → X.calm = true) : CallR X (.builtin (bnId b)) (rzs c (bnZ b)) := by
  cases b with
  | len => exact callz_len hK
  | abs => exact callz_abs
  | all => exact callz_all hK (hc rfl)
  | any => exact callz_any hK (hc rfl)
  | sum => exact callz_sum hK (hc rfl)
  | max => exact callz_max2 (hc rfl)
  | min => exact callz_min2 (hc rfl)
  | isi => exact callz_isi hK
theorem badR {g : List Z → GH → Zy.R Z} (hg : ∀ zs G, g zs G = .bad) {u : Value} : CallR X u (rzs c g) := by
  intro pins s σ H xs us Q I r h
  obtain ⟨W, ρ, G, zs, R, hz, q⟩ := h
  rw [hg] at q
  exact q.elim
theorem tyOk (hK : c.K = X.K) (n : String) : CallR X (.type n) (rzs c (tyZ n)) := by
  unfold tyZ
  split
  · rename_i h; subst h; exact callz_int
  · split
    · rename_i h; subst h; exact callz_bool
    · split
      · rename_i h; subst h; exact callz_tuple hK
      · split
        · rename_i h; subst h; exact callz_list hK
        · exact badR fun _ _ => rfl
theorem mnOk (hK : c.K = X.K) (hu : X.A.units + 60 < cLine) (m : Mn) : ∀ t ∈ mnT m, MthOk X c t (mnN m) (mnZ m t) := by
  cases m with
  | append => exact ok_append
  | extend => exact ok_extend
  | pop => exact ok_pop
  | index => exact ok_index hK hu
theorem few_ok (env : Env) (cpos : Pos) : ∀ {es : List Expr}, es.all notStar = true → (backTo cpos (starEach es env)).all (fun x => !x.1) = true
  | [], _ => rfl
  | e :: es, h => by
    rw [List.all_cons] at h
    obtain ⟨h1, h2⟩ := ba h
    rw [starEach_plain env (notStar_ok h1)]
    have := few_ok env cpos (es := es) h2
    simpa [backTo] using this
theorem se_wix (hK : c.K = X.K) {n : Str} {p pos : Pos} {e : Expr} {es : List (List Nat × Z)} {d : DE} (hg : Gl X n) (hd : (n == ("__debug__" : Str)) = false) {a : Addr} (hm : X.mg n = some (.ref a)) (hv : ∀ y z, es.lookup y = some z → ∃ v, KDct X.K X.w a ⟨y.toArray⟩ v ∧ ∀ ρ H, RZ c ρ H z v) (he : PE X e (tE c W d)) (hs : PlainIx e) :
    PE X (.Subscript (.Name n p) e pos) (tE c W (dWix es d)) :=
  (pe_ix ix_kdict (pe_glob (v := .ref a) hg hm rfl hd) he hs).weak fun σ H Q ⟨ρ, G, l, R, hl, q⟩ => tE.bind R hl q fun ρ1 H1 G1 x v e1 R1 l1 r1 q1 => by
    cases x <;> (try exact q1.elim)
    rename_i y
    obtain ⟨_, rfl⟩ := un_str r1
    have q2 : RQ c (RZ c) ρ1 H1 (match es.lookup y with | some z => .ok z G1 | none => .bad) Q (atW W σ) := q1
    cases hl : es.lookup y with
    | none => rw [hl] at q2; exact q2.elim
    | some z =>
      rw [hl] at q2
      obtain ⟨w, k1, k2⟩ := hv y z hl
      exact ⟨a, _, w, rfl, rfl, k1, RQ.here (show RQ c (RZ c) ρ1 H1 (.ok z G1) Q (atW W σ) from q2) R1 (k2 _ _)⟩
theorem se_dnew {pos : Pos} : PE X (.Dict [] [] pos) (tE c W dNewD) := pe_dnewK.weak fun σ H Q ⟨ρ, G, l, R, hl, q⟩ => fun p hp => by
  obtain ⟨R1, e1⟩ := R.new (z := .dK [] []) (o := .dK []) hp ⟨[], rfl, .nil, rfl⟩
  exact (show RQ c (RZ c) ρ H (.ok (.ref G.length) (G ++ [.dK [] []])) Q (atW W σ) from q) _ _ _ e1 R1 (rz_ref (by rw [← R.len]; exact get_new ρ p))
theorem se_isE {sx : Sx} (ok : XOk T r sx c X W) {f n k : Str} {p1 p2 p3 pos : Pos} {i : Nat} {kk : XC} {v0 : V} (hi : sx.xs = some i) (hf : f = ("isinstance" : Str)) (hgf : Gl X f) (hN : sx.N[i]? = some n) (hv : Vis X.env.scope n) (hn : okN n = true) (hk : PE X (.Name k p3) (fun _ H Q => Q v0 H)) (hv0 : ∀ u, RelV v0 u → u = clsV c kk) :
    PE X (.Call (.Name f p1) [.Name n p2, .Name k p3] [] pos) (tE c W (dIsE r.sub r.x kk i)) := by
  subst hf
  refine ⟨fun pins s σ H Q I ⟨ρ, G, l, R, hl, q⟩ => ?_⟩
  unfold dIsE at q
  split at q
  · rename_i x hx hli
    split at q
    · rename_i j b hp hj hs
      obtain ⟨v, h1, h2⟩ := hl.at_ _ _ hli
      have h3 := h2.resolve_left fun h => by unfold RZ at h; exact h
      obtain ⟨_, rfl⟩ := h3
      obtain ⟨hsub, hE⟩ := (ok.sub _ _ _ hs).2 j hj
      have rule := ok.exs i x j hi hx hp hj hE
      refine (pe_callB (t := tCons (tVar i) (tCons (fun _ H Q => Q v0 H) tNil)) rule hgf ok.isI PyProof.Rows.boot_isinstance (pa_cons (pe_var (by rw [ok.N]; exact hN) hv (okN_d hn) (okN_c hn)) (pa_cons hk pa_nil))).run pins s σ H Q I ?_
      exact ⟨_, h1, v0, clsV c kk, b, rfl, hv0, hsub, q.here R rz_bl⟩
    · exact q.elim
  · exact q.elim
theorem rz_pairs {ρ : List Addr} {H : Hp} : ∀ {ps : List (Z × Z)} {ks ks' : List Key} {zs zs' : List Z} {vs : List V} {qs : List (V × V)}, mkKZ ps ks zs = some (ks', zs') → RZs c ρ H (ps.map (·.1)) (qs.map (·.1)) → RZs c ρ H (ps.map (·.2)) (qs.map (·.2)) → RZs c ρ H zs vs → ks.length = zs.length →
    ∃ (kvs : List (Key × V)), qs = kvs.map (fun kv => (kV kv.1, kv.2)) ∧ kvs.length = ps.length ∧ ∃ vs', mergeK (ks.zip vs) kvs = ks'.zip vs' ∧ RZs c ρ H zs' vs' ∧ ks'.length = zs'.length
  | [], ks, ks', zs, zs', vs, qs, h, h1, h2, hv, hl => by
    unfold mkKZ at h; cases h
    have := h1.nil_
    cases qs with
    | cons _ _ => cases this
    | nil => exact ⟨[], rfl, rfl, vs, rfl, hv, hl⟩
  | (k, z) :: r, ks, ks', zs, zs', vs, qs, h, h1, h2, hv, hl => by
    unfold mkKZ at h
    split at h
    · rename_i key hk
      cases qs with
      | nil => have := h1.length; cases this
      | cons q qs =>
        rw [List.map_cons, List.map_cons] at h1 h2
        unfold RZs at h1 h2
        obtain ⟨v1, r1, e1, g1, g2⟩ := h1
        obtain ⟨v2, r2, e2, g3, g4⟩ := h2
        cases e1; cases e2
        have hq1 : q.1 = kV key := by
          cases k with
          | int i => cases hk; exact un_int g1
          | str x => cases hk; obtain ⟨_, e⟩ := un_str g1; exact e
          | _ => cases hk
        have hlen : ks.length = vs.length := hl.trans hv.length
        split at h
        · cases h
        rename_i hnot
        have hno : key ∉ ks := fun z => hnot (List.any_eq_true.mpr ⟨key, z, decide_eq_true rfl⟩)
        have vno : ∀ (ks : List Key) (vs : List V), key ∉ ks → valV (ks.zip vs) key = none := by
          intro ks
          induction ks with
          | nil => intro vs _; rfl
          | cons a t ih =>
            intro vs hn
            cases vs with
            | nil => rfl
            | cons v vs =>
              rw [List.zip_cons_cons, valV_neg (fun e => hn (by rw [← show a = key from e]; exact List.mem_cons_self))]
              exact ih vs fun z => hn (List.mem_cons_of_mem _ z)
        have s1 : putK (ks.zip vs) key q.2 = (ks ++ [key]).zip (vs ++ [q.2]) := by
          rw [putK_new _ (vno ks vs hno), List.zip_append hlen]; rfl
        obtain ⟨kvs, e3, e4, vs', e5, e6, e7⟩ := rz_pairs (vs := vs ++ [q.2]) h g2 g4 (hv.append (.cons g3 .nil)) (by simp [hl])
        refine ⟨(key, q.2) :: kvs, ?_, by rw [List.length_cons, List.length_cons, e4], vs', ?_, e6, e7⟩
        · rw [List.map_cons, e3]
          show q :: _ = (kV key, q.2) :: _
          rw [← hq1]
        · show mergeK (putK (ks.zip vs) key q.2) kvs = _
          rw [s1]; exact e5
    · cases h

theorem GlOk.low {r : Rt} {c : C} {X : Cx} {x : Str} {g : GK} {k : Nat} (h : GlOk r c true X x g) (hk : r.lv = k + 2) (A : Around) (outer : List Env) (s : Shared) (H : Hp) (E : XK) (scope : Scope) (f c' : Addr) : GlOk r.lower c true (LamX.lamCx X A outer s H E scope f c') x g := by
  have hl : r.lower.lv = k := by show r.lv - 2 = k; omega
  cases g with
  | fn j => exact ⟨h.1, h.2.1, fun _ => ⟨by rw [hl]; exact (h.2.2 rfl).2 k hk, fun d hd => badF⟩⟩
  | lam j => exact ⟨h.1, h.2.1, fun _ => badL⟩
  | _ => exact h
theorem chk_ok : ∀ (e : E) {r : Rt} {s : Sx} {X : Cx} {c : C} {W : WX} {y : Syn}, XOk T r s c X W → chk T e s y = true → Good X c W y (ev T e r s.xs)
  | .var i, r, s, X, c, W, y, ok, h => gen_ok ok.hK h fun x h => by
    split at h
    · rename_i n p
      obtain ⟨h1, h2⟩ := ba h
      obtain ⟨h3, h4⟩ := ba h2
      exact se_var (by rw [ok.N]; exact of_decide_eq_true h1) (visB_ok h3 ok.sc) (okN_d h4) (okN_c h4)
    · cases h
  | .cst z, r, s, X, c, W, y, ok, h => gen_ok ok.hK h fun x h => by
    split at h
    · rename_i i _ _ j
      obtain rfl := of_decide_eq_true h
      exact se_int
    · rename_i i _ _ j
      obtain rfl := of_decide_eq_true h
      exact se_bl
    · exact se_non
    · obtain ⟨h1, h2⟩ := ba h
      obtain rfl := of_decide_eq_true h1
      have h3 := of_decide_eq_true h2
      refine se_str ?_
      show Array.size _ ≤ sizeLine
      rw [Array.length_toList] at h3
      rw [sizeLine_eq]; omega
    · cases h
  | .glb j, r, s, X, c, W, y, ok, h => gen_ok ok.hK h fun x h => by
    split at h
    · rename_i n p
      split at h
      · rename_i n' z hg
        obtain ⟨h1, h2⟩ := ba h
        obtain ⟨h3, h4⟩ := ba h2
        obtain rfl := of_decide_eq_true h1
        obtain ⟨u, v, g1, g2, g3⟩ := ok.gl _ _ _ hg
        try simp only [hg]
        exact se_glob (glB_ok h3 ok.sc) g1 g2 g3 (okN_d h4)
      · rename_i n' z hg
        obtain ⟨h1, h2⟩ := ba h
        obtain ⟨h3, h4⟩ := ba h2
        obtain rfl := of_decide_eq_true h1
        obtain ⟨g1, g2⟩ := ok.gl _ _ _ hg
        try simp only [hg]
        exact se_ty (glB_ok h3 ok.sc) g1 g2 (okN_n h4) (okN_d h4)
      · cases h
    · cases h
  | .bin op a b, r, s, X, c, W, y, ok, h => gen_ok ok.hK h fun x h => by
    split at h
    · obtain ⟨h1, h2⟩ := ba h
      obtain ⟨h3, h4⟩ := ba h2
      obtain rfl := of_decide_eq_true h1
      exact se_bin ok.hK (chk_ok a ok h3) (chk_ok b ok h4)
    · cases h
  | .cmp op a b, r, s, X, c, W, y, ok, h => by
    unfold chk at h
    split at h
    · obtain ⟨h1, h2⟩ := ba h
      obtain ⟨h3, h4⟩ := ba h2
      obtain ⟨h5, h6⟩ := ba h4
      obtain rfl := of_decide_eq_true h1
      exact se_cmp ok.hK ok.hu (chk_ok a ok h5) (chk_ok b ok h6) (beq_iff_eq.mp h3)
    · obtain ⟨h1, h2⟩ := ba h
      obtain ⟨h3, h4⟩ := ba h2
      obtain ⟨h5, h6⟩ := ba h4
      obtain rfl := of_decide_eq_true h1
      exact st_cmp ok.hK ok.hu (chk_ok a ok h5) (chk_ok b ok h6) (beq_iff_eq.mp h3)
    · obtain ⟨h1, h2⟩ := ba h
      obtain ⟨h3, h4⟩ := ba h2
      obtain ⟨h5, h6⟩ := ba h4
      obtain rfl := of_decide_eq_true h1
      exact pts_one (st_cmp ok.hK ok.hu (chk_ok a ok h5) (chk_ok b ok h6) (beq_iff_eq.mp h3))
    · cases h
  | .chn o1 o2 a b d, r, s, X, c, W, y, ok, h => by
    unfold chk at h
    split at h
    · obtain ⟨h1, h2⟩ := ba h
      obtain ⟨h3, h4⟩ := ba h2
      obtain ⟨h5, h6⟩ := ba h4
      obtain ⟨h7, h8⟩ := ba h6
      obtain ⟨k1, k2⟩ := ba h1
      obtain rfl := of_decide_eq_true k1
      obtain rfl := of_decide_eq_true k2
      exact se_chn ok.hK ok.hu (chk_ok a ok h5) (chk_ok b ok h7) (chk_ok d ok h8) (beq_iff_eq.mp h3)
    · cases h
  | .neg a, r, s, X, c, W, y, ok, h => gen_ok ok.hK h fun x h => by
    split at h
    · exact se_neg (chk_ok a ok h)
    · cases h
  | .not a, r, s, X, c, W, y, ok, h => by
    unfold chk at h
    split at h
    · exact se_not ok.hK (chk_ok a ok h)
    · exact st_not (chk_ok a ok h)
    · exact pts_one (st_not (chk_ok a ok h))
    · cases h
  | .and a b, r, s, X, c, W, y, ok, h => by
    unfold chk at h
    split at h
    · obtain ⟨h1, h2⟩ := ba h
      exact se_and ok.hK (chk_ok a ok h1) (chk_ok b ok h2)
    · obtain ⟨h1, h2⟩ := ba h
      exact st_and (chk_ok a ok h1) (chk_ok b ok h2)
    · obtain ⟨h1, h2⟩ := ba h
      exact (st_and (chk_ok a ok h1) (chk_ok b ok h2)).pt
    · obtain ⟨h1, h2⟩ := ba h
      exact pts_one (st_and (chk_ok a ok h1) (chk_ok b ok h2)).pt
    · cases h
  | .or a b, r, s, X, c, W, y, ok, h => by
    unfold chk at h
    split at h
    · obtain ⟨h1, h2⟩ := ba h
      exact se_or ok.hK (chk_ok a ok h1) (chk_ok b ok h2)
    · obtain ⟨h1, h2⟩ := ba h
      exact st_or (chk_ok a ok h1) (chk_ok b ok h2)
    · obtain ⟨h1, h2⟩ := ba h
      exact (st_or (chk_ok a ok h1) (chk_ok b ok h2)).pt
    · obtain ⟨h1, h2⟩ := ba h
      exact pts_one (st_or (chk_ok a ok h1) (chk_ok b ok h2)).pt
    · cases h
  | .one a, r, s, X, c, W, y, ok, h => by
    unfold chk at h
    split at h
    · exact se_one (chk_ok a ok h)
    · rename_i op _ _
      cases op with
      | And => exact st_and1 (chk_ok a ok h)
      | Or => exact st_or1 (chk_ok a ok h)
    · cases h
  | .ife t a b, r, s, X, c, W, y, ok, h => gen_ok ok.hK h fun x h => by
    split at h
    · obtain ⟨h1, h2⟩ := ba h
      obtain ⟨h3, h4⟩ := ba h2
      exact se_if (chk_ok t ok h1) (chk_ok a ok h3) (chk_ok b ok h4)
    · cases h
  | .tup a, r, s, X, c, W, y, ok, h => gen_ok ok.hK h fun x h => by
    split at h
    · exact se_tup (chk_ok a ok h)
    · cases h
  | .lst a, r, s, X, c, W, y, ok, h => gen_ok ok.hK h fun x h => by
    split at h
    · exact se_lst (chk_ok a ok h)
    · cases h
  | .call j a, r, s, X, c, W, y, ok, h => gen_ok ok.hK h fun x h => by
    split at h
    · rename_i n p es pos
      split at h
      · rename_i n' k hg
        obtain ⟨h1, h2⟩ := ba h
        obtain ⟨hcm, h2⟩ := ba h2
        obtain ⟨h3, h4⟩ := ba h2
        obtain ⟨h5, h6⟩ := ba h4
        obtain ⟨h7, h8⟩ := ba h6
        obtain rfl := of_decide_eq_true h1
        obtain ⟨g1, g2, g3⟩ := ok.gl _ _ _ hg
        obtain ⟨F, _⟩ := g3 hcm
        have hr := ok.room hcm
        try simp only [hg]
        have hA : PA X es (tA c W (ev T a r s.xs).a) := chk_ok a ok h8
        cases es with
        | nil =>
          rw [nil_args h8]
          exact se_call0 F hr ok.tk (glB_ok h3 ok.sc) g1 g2 (okN_d h5)
        | cons e es =>
          rw [List.all_cons] at h7
          obtain ⟨k1, k2⟩ := ba h7
          exact se_call F hr ok.tk (glB_ok h3 ok.sc) g1 g2 hA (okN_d h5) (starEach_plain _ (notStar_ok k1)) (starEach_none _ _ (all_star k2))
      · cases h
    · cases h
  | .bfn j a, r, s, X, c, W, y, ok, h => gen_ok ok.hK h fun x h => by
    split at h
    · rename_i n p e es pos
      split at h
      · rename_i n' b hg
        obtain ⟨h1, h2⟩ := ba h
        obtain ⟨h3, h4⟩ := ba h2
        obtain ⟨h5, h6⟩ := ba h4
        obtain ⟨h7, h8⟩ := ba h6
        obtain ⟨h9, h10⟩ := ba h8
        obtain rfl := of_decide_eq_true h1
        obtain ⟨g1, g2⟩ := ok.gl _ _ _ hg
        try simp only [hg]
        rw [List.all_cons] at h9
        obtain ⟨k1, k2⟩ := ba h9
        refine se_callB (bnOk ok.hK b fun hb => ok.cm ?_) (glB_ok h5 ok.sc) g1 g2 (chk_ok a ok h10) (okN_n h7) (okN_d h7) (starEach_plain _ (notStar_ok k1)) (starEach_none _ _ (all_star k2))
        rw [hb] at h3
        simpa using h3
      · rename_i n' t hg
        obtain ⟨h1, h2⟩ := ba h
        obtain ⟨h5, h6⟩ := ba h2
        obtain ⟨h7, h8⟩ := ba h6
        obtain ⟨h9, h10⟩ := ba h8
        obtain rfl := of_decide_eq_true h1
        obtain ⟨g1, g2⟩ := ok.gl _ _ _ hg
        try simp only [hg]
        rw [List.all_cons] at h9
        obtain ⟨k1, k2⟩ := ba h9
        exact se_callTy (tyOk ok.hK t) (glB_ok h5 ok.sc) g1 g2 (chk_ok a ok h10) (okN_n h7) (okN_d h7) (starEach_plain _ (notStar_ok k1)) (starEach_none _ _ (all_star k2))
      · cases h
    · cases h
  | .ix a b, r, s, X, c, W, y, ok, h => gen_ok ok.hK h fun x h => by
    split at h
    · obtain ⟨h1, h2⟩ := ba h
      obtain ⟨h3, h4⟩ := ba h2
      exact se_ix ok.hK (chk_ok a ok h3) (chk_ok b ok h4) (notSlice_ok h1)
    · cases h
  | .slc a lo hi, r, s, X, c, W, y, ok, h => gen_ok ok.hK h fun x h => by
    split at h
    · obtain ⟨h1, h2⟩ := ba h
      obtain ⟨h3, h4⟩ := ba h2
      exact se_slc ok.hK (chk_ok a ok h1) (chk_ok lo ok h3) (chk_ok hi ok h4)
    · cases h
  | .none_, r, s, X, c, W, y, ok, h => by
    unfold chk at h
    split at h
    · exact so_none
    · cases h
  | .mth m o a, r, s, X, c, W, y, ok, h => gen_ok ok.hK h fun x h => by
    split at h
    · rename_i o' n apos es cpos
      obtain ⟨h1, h2⟩ := ba h
      obtain ⟨h3, h4⟩ := ba h2
      obtain ⟨h5, h6⟩ := ba h4
      obtain ⟨h7, h8⟩ := ba h6
      obtain ⟨h9, h10⟩ := ba h8
      obtain ⟨h11, h12⟩ := ba h10
      obtain rfl := of_decide_eq_true h1
      have h5' := of_decide_eq_true h5
      have hA : PA X es (tA c W (ev T a r s.xs).a) := chk_ok a ok h12
      cases es with
      | nil =>
        show PE X _ (tE c W (dMth (mnZ m) (mnT m) (ev T o r s.xs).e (ev T a r s.xs).a))
        rw [nil_args h12]
        exact se_mth0 ok.hK (mnOk ok.hK ok.hu m) (chk_ok o ok h11) (notCall_ok h3 _ _ _) h7
      | cons e es =>
        have h9' := h9
        rw [List.all_cons] at h9
        obtain ⟨k1, k2⟩ := ba h9
        refine se_mth ok.hK (mnOk ok.hK ok.hu m) (chk_ok o ok h11) hA (notCall_ok h3 _ _ _) ?_ h7 (starEach_plain _ (notStar_ok k1)) (starEach_none _ _ (all_star k2))
        rw [few_ok _ _ h9']
        simp only [Bool.true_and, Bool.and_eq_true, decide_eq_true_eq]
        exact ⟨rfl, by show (e :: es).length + 0 + 0 < 30; omega⟩
    · cases h
  | .cpr it p t e own, r, s, X, c, W, y, ok, h => gen_ok ok.hK h fun x h => by
    split at h
    · rename_i elt tg iter ifs scope pos
      obtain ⟨h1, h2⟩ := ba h
      split at h2
      · rename_i ow ho
        obtain ⟨h3, h4⟩ := ba h2
        obtain ⟨h5, h6⟩ := ba h4
        obtain ⟨h7, h8⟩ := ba h6
        obtain ⟨h9, h10⟩ := ba h8
        obtain ⟨h11, h12⟩ := ba h10
        have e2 := ownC_ok ho
        obtain ⟨h1, hxs⟩ := ba h1
        have hxs := Option.isNone_iff_eq_none.mp hxs
        obtain ⟨i1, i2⟩ : (∀ tg, PI X tg iter (tI c W (ev T it r s.xs).i)) ∧ ∀ v, foldedSetIterable iter X.env v = pure v := chk_ok it ok h9
        have q := se_comp (X := X) (c := c) (W := W) (tg := tg) (iter := iter) (elt := elt) (ifs := ifs) (scope := scope) (own := ow) (di := (ev T it r s.xs).i) (p := p) (t := (ev T t r none).t) (e := (ev T e r none).e) (pos := pos) ok.hK (ok.cm h1) (by rw [ok.N]; exact ok.nd) (i1 tg)
          (blkOk_by (by rw [ok.N, ok.sc]; exact h3)) (fun s1 H C cl fp => ?_) (fun s1 H C cl fp => chk_ok t (ok.blk s1 H scope cl C fp) h11) (fun s1 H C cl fp => chk_ok e (ok.blk s1 H scope cl C fp) h12) i2 (fun i hi => by rw [e2]; exact List.contains_iff_mem.mp (List.all_eq_true.mp h5 i hi))
        · rw [e2] at q; rw [hxs] at q ⊢; exact q
        · refine patC_ok (X := X.blk s1 H scope (compEnvC scope cl C X.env) fp) (fnc := fun x => scope.names.lookup x == some .cell) (ok.cm h1) (by show X.N.Nodup; rw [ok.N]; exact ok.nd) (fun x hx => hx) ?_
          have := (ok.blk s1 H scope cl C fp).sc
          rw [this, show (X.blk s1 H scope (compEnvC scope cl C X.env) fp).N = s.N from ok.N]
          exact h7
      · cases h2
    · cases h
  | .yes, r, s, X, c, W, y, ok, h => by
    unfold chk at h
    split at h
    · exact pts_nil.weak fun σ H Q ⟨ρ, G, l, R, hl, q⟩ => (show RQ c rB ρ H (.ok true G) Q (atW W σ) from q) ρ H true (Ext.refl _ _) R rfl
    · cases h
  | .wix j a, r, s, X, c, W, y, ok, h => gen_ok ok.hK h fun x h => by
    split at h
    · split at h
      · rename_i hg
        obtain ⟨h1, h2⟩ := ba h
        obtain ⟨h3, h4⟩ := ba h2
        obtain ⟨h5, h6⟩ := ba h4
        obtain ⟨h7, h8⟩ := ba h6
        obtain rfl := of_decide_eq_true h1
        obtain ⟨p, g1, g2⟩ := ok.gl _ _ _ hg
        try simp only [hg]
        exact se_wix ok.hK (glB_ok h5 ok.sc) (okN_d h7) g1 g2 (chk_ok a ok h8) (notSlice_ok h3)
      · cases h
    · cases h
  | .act i, r, s, X, c, W, y, ok, h => gen_ok ok.hK h fun x h => by
    split at h
    · obtain ⟨h1, h2⟩ := ba h
      obtain ⟨h3, h4⟩ := ba h2
      obtain ⟨h5, h6⟩ := ba h4
      exact ok.act i (of_decide_eq_true h1) _ _ _ (of_decide_eq_true h3) (visB_ok h5 ok.sc) h6
    · cases h
  | .isE j, r, s, X, c, W, y, ok, h => gen_ok ok.hK h fun x h => by
    split at h
    · rename_i i hi
      split at h
      · rename_i hg
        obtain ⟨h1, h2⟩ := ba h
        obtain ⟨h3, h4⟩ := ba h2
        obtain ⟨h5, h6⟩ := ba h4
        obtain ⟨h7, h8⟩ := ba h6
        obtain ⟨h9, h10⟩ := ba h8
        obtain ⟨h11, h12⟩ := ba h10
        obtain ⟨h13, h14⟩ := ba h12
        have e1 := of_decide_eq_true h1
        obtain rfl := of_decide_eq_true h11
        obtain ⟨g1, g2, _⟩ := ok.gl _ _ _ hg
        simp only [hg, hi]
        exact se_isE (kk := .own _) ok hi e1 (glB_ok h3 ok.sc) (of_decide_eq_true h5) (visB_ok h7 ok.sc) h9 (pe_glob (v := .ref _) (glB_ok h13 ok.sc) g1 rfl (okN_d h14)) fun u h => h
      · rename_i hg
        obtain ⟨h1, h2⟩ := ba h
        obtain ⟨h3, h4⟩ := ba h2
        obtain ⟨h5, h6⟩ := ba h4
        obtain ⟨h7, h8⟩ := ba h6
        obtain ⟨h9, h10⟩ := ba h8
        obtain ⟨h11, h12⟩ := ba h10
        obtain ⟨h13, h14⟩ := ba h12
        have e1 := of_decide_eq_true h1
        obtain rfl := of_decide_eq_true h11
        obtain ⟨g1, g2⟩ := ok.gl _ _ _ hg
        simp only [hg, hi]
        exact se_isE (kk := .blt _) ok hi e1 (glB_ok h3 ok.sc) (of_decide_eq_true h5) (visB_ok h7 ok.sc) h9 (pe_bltn (v := .ty _) (glB_ok h13 ok.sc) g1 g2 rfl (okN_n h14) (okN_d h14)) fun u h => h
      · cases h
    · cases h
  | .dnew, r, s, X, c, W, y, ok, h => gen_ok ok.hK h fun x h => by
    split at h
    · exact se_dnew
    · cases h
  | .dmk a, r, s, X, c, W, y, ok, h => gen_ok ok.hK h fun x h => by
    split at h
    · rename_i k ks vs pos
      obtain ⟨h1, h2⟩ := ba h
      obtain ⟨h3, h4⟩ := ba h2
      obtain ⟨h5, h6⟩ := ba h4
      obtain ⟨trs, hp, ht⟩ := (show ∀ pos, _ from chk_ok a ok h6) pos
      refine (pe_disp hp h5 (of_decide_eq_true h1) (List.cons_ne_nil _ _) (of_decide_eq_true h3)).weak fun σ H Q ⟨ρ, G, l, R, hl, q⟩ => fun p hpn => ?_
      obtain ⟨R1, e1⟩ := R.new (z := .dK [] []) (o := .dK []) hpn ⟨[], rfl, .nil, rfl⟩
      refine ht σ _ _ ⟨_, _, l, R1, hl.mono e1, ?_⟩
      have q' : RQ c (RZ c) ρ H (((ev T a r s.xs).p l (G ++ [.dK [] []])).bind fun ps G2 => match G2[G.length]?, mkKZ ps [] [] with
        | some (.dK [] []), some (ks, zs) => if ps.length ≤ 15 then .ok (.ref G.length) (G2.set G.length (.dK ks zs)) else .bad
        | _, _ => .bad) Q (atW W σ) := q
      cases hr : (ev T a r s.xs).p l (G ++ [.dK [] []]) with
      | bad => rw [hr] at q'; exact q'
      | exc x G2 => rw [hr] at q'; exact fun ρ2 H2 cl d e2 => q' ρ2 H2 cl d (e1.trans e2)
      | ok ps G2 =>
        rw [hr] at q'
        intro ρ2 H2 qs e2 R2 hq
        have q2 : RQ c (RZ c) ρ H (match G2[G.length]?, mkKZ ps [] [] with
          | some (.dK [] []), some (ks, zs) => if ps.length ≤ 15 then .ok (.ref G.length) (G2.set G.length (.dK ks zs)) else .bad
          | _, _ => .bad) Q (atW W σ) := q'
        split at q2
        · rename_i ks2 zs2 hG hm
          split at q2
          · rename_i h15
            have hD : ρ2[G.length]? = some p := pre_get e2.pre (by rw [← R.len]; exact get_new ρ p)
            obtain ⟨b, g1, vs1, g2, g3, g4⟩ := R2.at hG
            rw [hD] at g1; cases g1
            obtain ⟨kvs, f1, f2, vs2, f3, f4, f5⟩ := rz_pairs (vs := []) hm hq.1 hq.2 .nil rfl
            refine ⟨g2, kvs, f1, by rw [f2]; exact h15, ?_⟩
            obtain ⟨R3, e3⟩ := R2.put (z := .dK ks2 zs2) (o := .dK (mergeK [] kvs)) hD ⟨vs2, by rw [show mergeK [] kvs = ks2.zip vs2 from f3], f4, f5⟩
            exact q2 ρ2 _ _ ((e1.trans e2).trans e3) R3 (rz_ref hD)
          · exact q2.elim
        · exact q2.elim
    · cases h
  | .anil, r, s, X, c, W, y, ok, h => by
    unfold chk at h
    split at h
    · exact sa_nil
    · cases h
  | .acons a b, r, s, X, c, W, y, ok, h => by
    unfold chk at h
    split at h
    · obtain ⟨h1, h2⟩ := ba h
      obtain ⟨h3, h4⟩ := ba h2
      exact sa_cons (chk_ok a ok h3) (chk_ok b ok h4) (starEach_plain _ (notStar_ok h1))
    · cases h
  | .dnil, r, s, X, c, W, y, ok, h => by
    unfold chk at h
    split at h
    · exact fun pos => ⟨[], pps_nil, fun σ H Q ⟨ρ, G, l, R, hl, q⟩ => q ρ H [] (Ext.refl _ _) R ⟨.nil, .nil⟩⟩
    · cases h
  | .dcons k v b, r, s, X, c, W, y, ok, h => by
    unfold chk at h
    split at h
    · obtain ⟨h1, h2⟩ := ba h
      obtain ⟨h3, h4⟩ := ba h2
      intro pos
      obtain ⟨trs, hp, ht⟩ := (show ∀ pos, _ from chk_ok b ok h4) pos
      refine ⟨(tE c W (ev T k r s.xs).e, tE c W (ev T v r s.xs).e) :: trs, pps_cons (chk_ok k ok h1) (chk_ok v ok h3) hp, fun σ H Q ⟨ρ, G, l, R, hl, q⟩ => ?_⟩
      refine tE.bind R hl q fun ρ1 H1 G1 x xv e1 R1 l1 r1 q1 => tE.bind R1 l1 q1 fun ρ2 H2 G2 z zv e2 R2 l2 r2 q2 => ?_
      refine ht σ H2 _ ⟨ρ2, G2, l, R2, l2, RQ.imp (RQ.bind q2) (fun ps H3 ⟨ρ3, G3, zs, e3, R3, rp, q3⟩ => ?_) fun _ _ _ h => h⟩
      exact q3 ρ3 H3 ((xv, zv) :: ps) (Ext.refl _ _) R3 ⟨.cons ((r1.mono e2).mono e3) rp.1, .cons (r2.mono e3) rp.2⟩
    · cases h
  | .rng1 j a, r, s, X, c, W, y, ok, h => by
    unfold chk at h
    split at h
    · split at h
      · rename_i hg
        obtain ⟨h1, h2⟩ := ba h
        obtain ⟨h3, h4⟩ := ba h2
        obtain ⟨h5, h6⟩ := ba h4
        obtain ⟨h7, h8⟩ := ba h6
        obtain rfl := of_decide_eq_true h1
        obtain rfl := of_decide_eq_true h3
        have g1 := ok.gl _ _ _ hg
        exact ⟨fun tg => si_rng1 (glB_ok h5 ok.sc) g1 (chk_ok a ok h8) (starEach_plain _ (notStar_ok h7)), fun v => rfl⟩
      · cases h
    · cases h
  | .rng2 j a, r, s, X, c, W, y, ok, h => by
    unfold chk at h
    split at h
    · split at h
      · rename_i hg
        obtain ⟨h1, h2⟩ := ba h
        obtain ⟨h3, h4⟩ := ba h2
        obtain ⟨h5, h6⟩ := ba h4
        obtain ⟨h7, h8⟩ := ba h6
        obtain ⟨h9, h10⟩ := ba h8
        obtain rfl := of_decide_eq_true h1
        obtain rfl := of_decide_eq_true h3
        have g1 := ok.gl _ _ _ hg
        refine ⟨fun tg => si_rng2 (glB_ok h5 ok.sc) g1 (chk_ok a ok h10) ?_ (starEach_plain _ (notStar_ok h9)), fun v => rfl⟩
        rw [starEach_plain _ (notStar_ok h7), starEach_plain _ (notStar_ok h9)]; rfl
      · cases h
    · cases h
  | .lam j e, r, s, X, c, W, y, ok, h => gen_ok ok.hK h fun x h => by
    split at h
    · rename_i n p params body scope lpos pos
      split at h
      · rename_i n' k hg
        obtain ⟨h1, h2⟩ := ba h
        obtain ⟨h3, h4⟩ := ba h2
        obtain ⟨h5, h6⟩ := ba h4
        obtain ⟨h7, h8⟩ := ba h6
        obtain ⟨h9, h10⟩ := ba h8
        obtain ⟨h11, h12⟩ := ba h10
        obtain ⟨hcm, hlm⟩ := ba h3
        obtain rfl := of_decide_eq_true h1
        obtain ⟨g1, g2, g3⟩ := ok.gl _ _ _ hg
        obtain ⟨hlv, cd, P, k1, k2, k3, k4⟩ := ok.lmk hlm
        have L : LamX.LamS X.env.scope scope := LamX.lamS_by (by rw [ok.sc]; exact h9)
        have hr := ok.room hcm
        try simp only [hg]
        obtain ⟨a1, a2, a3, a4, a5, a6, a7⟩ := params
        unfold noArgs at h11
        split at h11
        case h_2 => cases h11
        rename_i heq
        cases heq
        · obtain ⟨k, hk⟩ : ∃ k, r.lv = k + 2 := ⟨r.lv - 2, by omega⟩
          refine se_lam (k := k) (db := (ev T e r.lower none).e) (hk ▸ g3 hcm) (hk ▸ hr) ok.tk (glB_ok h5 ok.sc) g1 g2 k2 k1 k3 k4 L rfl (fun _ _ _ _ _ => rfl) (fun A outer s1 H E f c' hr2 => ?_) (okN_d h7)
          refine chk_ok e (r := r.lower) (s := { sc := scope, N := s.N }) (y := .e body) ?_ h12
          exact {
            hK := ok.hK
            hu := by
              have := hr2.un
              show (A.deeper _).units + 60 < cLine
              omega
            sc := rfl
            N := ok.N
            nd := ok.nd
            cm := fun _ => rfl
            tk := takes_of rfl rfl rfl rfl
            gl := fun j x g hj => by
              have q := ok.gl j x g hj
              rw [hcm] at q
              exact q.low hk A outer s1 H E scope f c'
            act := fun i h => nomatch h
            exs := fun i x k h => nomatch h
            room := fun _ => by show Room (r.lv - 2) _; rw [show r.lv - 2 = k by omega]; exact hr2
            lmk := fun h => nomatch h
            isI := ok.isI
            sub := ok.sub }
      · cases h
    · cases h
end
end Zy
end
section
set_option Elab.async false
set_option linter.all false
set_option maxRecDepth 100000
set_option maxHeartbeats 4000000
set_option autoImplicit false
namespace Zy
open PySem PySem.Spec PyProof.Rows L2

inductive SynG where
  | g (x : Expr) | gs (xs : List Expr)
def locB (s : Sx) (x : Str) : Bool := match s.sc.names.lookup x with
  | some .local => true
  | some .cell => true
  | _ => false
def isComp : Expr → Bool
  | .ListComp _ _ _ _ => true
  | .SetComp _ _ _ _ => true
  | .DictComp _ _ _ _ _ => true
  | _ => false
def isName : Expr → Bool
  | .Name _ _ => true
  | _ => false
def noSwap : Expr → Expr → Bool
  | .Tuple ts _ _, .Tuple vs _ _ => !(ts.length == 2 || ts.length == 3) || vs.all (foldedForSure 8)
  | .List ts _, .Tuple vs _ _ => !(ts.length == 2 || ts.length == 3) || vs.all (foldedForSure 8)
  | _, _ => true
def chkG (T : Tb) : Gt → Sx → SynG → Bool
  | .nm i, s => fun y => match y with
    | .g (.Name x _) => decide (s.N[i]? = some x) && locB s x
    | _ => false
  | .tp gs, s => fun y => match y with
    | .g (.Tuple es _ _) => s.cm && chkG T gs s (.gs es)
    | _ => false
  | .gnil, s => fun y => match y with
    | .gs [] => true
    | _ => false
  | .gcons g gs, s => fun y => match y with
    | .gs (e :: es) => notStar e && (chkG T g s (.g e) && chkG T gs s (.gs es))
    | _ => false
  | .sub o i, s => fun y => match y with
    | .g (.Subscript a b _) => notSlice b && (chk T o s (.e a) && chk T i s (.e b))
    | _ => false
inductive SynS where
  | s (x : Stmt) | ss (xs : List Stmt) | h (xs : List ExceptHandler)
def parB (s : Sx) (x y : Str) (px py : Pos) (a b : Expr) : Bool :=
  decide (s.sc.kind = .function) && (decide (s.sc.names.lookup x = some .local) && (decide (s.sc.names.lookup y = some .local) && (decide (px.line = py.line) && (!decide (x = y) && (notStar a && (notStar b && (!([a, b].all (foldedForSure 8)) && !([a, b].all (constantsAlone 8)))))))))
def setB (s : Sx) (x : Str) (px : Pos) (e : Expr) : Bool := match e with
  | .ListComp _ [⟨_, _, _, 0⟩] scope pos => decide (s.sc.kind = .function) && (decide (s.sc.names.lookup x = some .local) && ((px.line == pos.line) && !(scope.names.any fun q => q.1 == x && (q.2 == .local || q.2 == .cell))))
  | _ => false
def chkS (T : Tb) : St → Sx → SynS → Bool
  | .nil, s => fun y => match y with
    | .ss [] => true
    | _ => false
  | .cons a b, s => fun y => match y with
    | .ss (x :: xs) => chkS T a s (.s x) && chkS T b s (.ss xs)
    | _ => false
  | .ret e, s => fun y => match y with
    | .s (.Return (some x) _) => chk T e s (.e x)
    | _ => false
  | .retN, s => fun y => match y with
    | .s (.Return none _) => true
    | _ => false
  | .exp e, s => fun y => match y with
    | .s (.Expr x _) => !isComp x && chk T e s (.e x)
    | _ => false
  | .asg g e, s => fun y => match y with
    | .s (.Assign [tg] x _) => (!isComp x || !isName tg) && (noSwap tg x && (notStar tg && (chkG T g s (.g tg) && chk T e s (.e x))))
    | _ => false
  | .asgC i e, s => fun y => match y with
    | .s (.Assign [.Name x px] v _) => setB s x px v && (decide (s.N[i]? = some x) && chk T e s (.e v))
    | _ => false
  | .ife t a b, s => fun y => match y with
    | .s (.If x p q _) => chk T t s (.t x) && (chkS T a s (.ss p) && chkS T b s (.ss q))
    | _ => false
  | .pass, s => fun y => match y with
    | .s (.Pass _) => true
    | _ => false
  | .brk, s => fun y => match y with
    | .s (.Break _) => true
    | _ => false
  | .cnt, s => fun y => match y with
    | .s (.Continue _) => true
    | _ => false
  | .for_ it g b, s => fun y => match y with
    | .s (.For tg x body [] _) => s.cm && (chk T it s (.i x) && (chkG T g s (.g tg) && chkS T b s (.ss body)))
    | _ => false
  | .while_ t b, s => fun y => match y with
    | .s (.While x body [] _) => s.cm && (chk T t s (.t x) && chkS T b s (.ss body))
    | _ => false
  | .raise_ j, s => fun y => match y with
    | .s (.Raise (some (.Call (.Name n _) [.Constant (.str _) _ _] [] _)) none _) => (match T.gl[j]? with
      | some (n', .ex _) => decide (n = n') && (s.cm && (glB s n && okN n))
      | _ => false)
    | _ => false
  | .try_ b h, s => fun y => match y with
    | .s (.Try body (h₀ :: hds) [] [] _) => s.cm && (chkS T b s (.ss body) && chkS T h s (.h (h₀ :: hds)))
    | _ => false
  | .hnil, s => fun y => match y with
    | .h [] => true
    | _ => false
  | .hcons j i b r, s => fun y => match y with
    | .h (.ExceptHandler (some (.Name x _)) n (b₀ :: suite) _ :: hds) => (match T.gl[j]? with
      | some (n', .ex _) => decide (x = n') && (glB s x && (okN x && ((match n, i with
        | none, none => true
        | some m, some i => decide (s.N[i]? = some m) && decide (s.sc.names.lookup m = some .local)
        | _, _ => false) && (chkS T b { s with cm := false, xs := i, act := none, lm := false } (.ss (b₀ :: suite)) && chkS T r s (.h hds)))))
      | _ => false)
    | _ => false
  | .par i j a, s => fun y => match y with
    | .s (.Assign [.Tuple [.Name x px, .Name y py] _ _] (.Tuple [e1, e2] _ _) _) => s.cm && (parB s x y px py e1 e2 && (decide (s.N[i]? = some x) && (decide (s.N[j]? = some y) && (!decide (i = j) && chk T a s (.a [e1, e2])))))
    | _ => false
structure XS (T : Tb) (r : Rt) (s : Sx) (c : C) (X : Cx) (W : WX) : Prop where
  ok : XOk T r s c X W
  stk : X.stack = X.env :: X.outer
  fr : X.env.frame = some X.env.locals
  pw : s.cm = true → PassesOwn (model X.prog X.w) X.A X.env X.xe
  fn : ∀ x, X.fn x = true
  xs0 : s.cm = true → s.xs = none
  act : ∀ i, s.act = some i → ∀ a p1 p2 W' pn xe, s.N[i]? = some a → Vis X.env.scope a → okN a = true → Takes (X.tr pn xe) W' → PE (X.tr pn xe) (.Call (.Name a p1) [] [] p2) (tE c W' (dAct i r.th))
def GoodG (X : Cx) (c : C) (W : WX) : SynG → MG → Prop
  | .g x, m => PG X x (tG c W m.g)
  | .gs xs, m => PGs X xs (tGs c W m.gs) ∧ (assignEach xs X.env).length = m.n ∧ (assignEach xs X.env).findIdx? (·.1) = none
def GoodS (X : Cx) (c : C) (W : WX) : SynS → MS → Prop
  | .s x, m => PS X x (tS c W m.s)
  | .ss xs, m => PSs X xs (tS c W m.s)
  | .h xs, m => HdsG X xs (m.h.map (hzT c))
section
variable {T : Tb}
theorem locB_ok {s : Sx} {X : Cx} {x : Str} (h : locB s x = true) (e : X.env.scope = s.sc) : Loc X.env.scope x := by
  unfold locB at h
  rw [e]
  split at h
  · rename_i q; exact .inl q
  · rename_i q; exact .inr q
  · cases h
theorem noSwap_ok {tg e : Expr} {env : Env} (h : noSwap tg e = true) : swappedStores [tg] e env = pure none := by
  have key : ∀ (ts vs : List Expr), (!(ts.length == 2 || ts.length == 3) || vs.all (foldedForSure 8)) = true →
      (do
        if !(ts.length == 2 || ts.length == 3) || vs.length != ts.length || env.blockKind != .function then return none
        if vs.any fun | .Starred .. => true | _ => false then return none
        let line := (ts.head?.map (·.pos.line)).getD 0
        let names := ts.filterMap fun
          | .Name id pos => if env.kindOf id == some .local && pos.line == line then some id else none
          | _ => none
        if names.length != ts.length || names.eraseDups.length != names.length then return none
        if vs.all (foldedForSure 8) then return none
        if vs.all (constantsAlone 8) then unsupported "assign.tuple-of-constant-expressions:order-of-the-stores"
        return some names : Sem (Option (List Str))) = pure none := by
    intro ts vs h
    rw [Bool.or_eq_true] at h
    rcases h with h | h
    · rw [h]; simp
    · simp only [h, if_true]
      split
      · rfl
      · split
        · rfl
        · split <;> rfl
  cases tg with
  | Tuple ts k p =>
    cases e with
    | Tuple vs k2 p2 => exact key ts vs h
    | _ => rfl
  | List ts p =>
    cases e with
    | Tuple vs k2 p2 => exact key ts vs h
    | _ => rfl
  | _ => cases e <;> rfl
theorem noComp_ok {x : Expr} {tg : Option Expr} {n : Nat} {env : Env} (h : isComp x = false) : swapsWith x tg n env = pure false := by
  cases x with
  | ListComp a b d e => cases h
  | SetComp a b d e => cases h
  | DictComp a b d e f => cases h
  | _ => rfl
theorem noComp2_ok {x tg : Expr} {n : Nat} {env : Env} (h : isName tg = false) : swapsWith x (some tg) n env = pure false := by
  cases tg with
  | Name a b => cases h
  | _ => cases x <;> rfl
theorem swaps_ok {x : Str} {px pos : Pos} {n : Nat} {env : Env} {s : Sx} {e : Expr} (hs : env.scope = s.sc) (h : setB s x px e = true) : ∃ elt tg iter ifs scope pos, e = .ListComp elt [⟨tg, iter, ifs, 0⟩] scope pos ∧ env.scope.names.lookup x = some .local ∧ swapsWith e (some (.Name x px)) n env = pure true := by
  unfold setB at h
  split at h
  · rename_i elt tg iter ifs scope pos
    obtain ⟨h1, h2⟩ := ba h
    obtain ⟨h3, h4⟩ := ba h2
    obtain ⟨h5, h6⟩ := ba h4
    have e1 := of_decide_eq_true h1
    have e2 := of_decide_eq_true h3
    refine ⟨elt, tg, iter, ifs, scope, pos, rfl, by rw [hs]; exact e2, ?_⟩
    have k1 : env.blockKind = .function := by unfold Env.blockKind; rw [hs, e1]; rfl
    have k2 : env.kindOf x = some .local := by show env.scope.names.lookup x = _; rw [hs]; exact e2
    show (pure (env.blockKind == .function && env.kindOf x == some .local && px.line == pos.line && !(scope.names.any fun (n, k) => n == x && (k == .local || k == .cell))) : Sem Bool) = pure true
    rw [k1, k2, h5]
    have h6' : (!(scope.names.any fun (n, k) => n == x && (k == .local || k == .cell))) = true := h6
    rw [h6']; rfl
  · cases h
theorem par_ok {s : Sx} {x y : Str} {px py : Pos} {a b : Expr} {env : Env} {kt k2 : Nat} {pt pt2 : Pos} (hs : env.scope = s.sc) (h : parB s x y px py a b = true) : swappedStores [.Tuple [.Name x px, .Name y py] kt pt] (.Tuple [a, b] k2 pt2) env = pure (some [x, y]) := by
  unfold parB at h
  obtain ⟨h1, h⟩ := ba h
  obtain ⟨h2, h⟩ := ba h
  obtain ⟨h3, h⟩ := ba h
  obtain ⟨h4, h⟩ := ba h
  obtain ⟨h5, h⟩ := ba h
  obtain ⟨h6, h⟩ := ba h
  obtain ⟨h7, h⟩ := ba h
  obtain ⟨h8, h9⟩ := ba h
  have e1 := of_decide_eq_true h1
  have e2 := of_decide_eq_true h2
  have e3 := of_decide_eq_true h3
  have e4 := of_decide_eq_true h4
  have hxy : x ≠ y := by simpa using h5
  have k1 : env.blockKind = .function := by unfold Env.blockKind; rw [hs, e1]; rfl
  have k2 : env.kindOf x = some .local := by show env.scope.names.lookup x = _; rw [hs]; exact e2
  have k3 : env.kindOf y = some .local := by show env.scope.names.lookup y = _; rw [hs]; exact e3
  have n1 : ([a, b].any fun | .Starred .. => true | _ => false) = false := by
    have s1 : (match (generalizing := false) a with | .Starred .. => true | _ => false) = false := by cases a <;> first | rfl | cases h6
    have s2 : (match (generalizing := false) b with | .Starred .. => true | _ => false) = false := by cases b <;> first | rfl | cases h7
    rw [List.any_cons, List.any_cons, List.any_nil]
    rw [s1, s2]; rfl
  have n2 : ([a, b].all (foldedForSure 8)) = false := by
    cases q : [a, b].all (foldedForSure 8) with
    | false => rfl
    | true => rw [q] at h8; cases h8
  have n3 : ([a, b].all (constantsAlone 8)) = false := by
    cases q : [a, b].all (constantsAlone 8) with
    | false => rfl
    | true => rw [q] at h9; cases h9
  have nm : ([Expr.Name x px, Expr.Name y py].filterMap fun e => match e with
      | .Name id pos => if (env.kindOf id == some .local && pos.line == px.line) = true then some id else none
      | _ => none) = [x, y] := by
    simp [k2, k3, e4]
  have dd : [x, y].eraseDups = [x, y] := by
    simp [List.eraseDups_cons, hxy.symm, Ne.symm hxy]
  unfold swappedStores
  simp only [k1]
  refine (if_neg ?_).trans ?_
  · exact Bool.false_ne_true
  refine (if_neg ?_).trans ?_
  · exact fun q => Bool.false_ne_true (n1.symm.trans q)
  simp only [List.head?_cons, Option.map_some, Option.getD_some, Expr.pos]
  erw [nm]
  rw [dd]
  refine (if_neg ?_).trans ?_
  · exact Bool.false_ne_true
  refine (if_neg ?_).trans ?_
  · exact fun q => Bool.false_ne_true (n2.symm.trans q)
  refine (if_neg ?_).trans ?_
  · exact fun q => Bool.false_ne_true (n3.symm.trans q)
  rfl
theorem chkG_ok {r : Rt} : ∀ (g : Gt) {s : Sx} {X : Cx} {c : C} {W : WX} {y : SynG}, XS T r s c X W → chkG T g s y = true → GoodG X c W y (evG T r s.xs g)
  | .nm i, s, X, c, W, y, ok, h => by
    unfold chkG at h
    split at h
    · obtain ⟨h1, h2⟩ := ba h
      exact sg_name (by rw [ok.ok.N]; exact ok.ok.nd) (by rw [ok.ok.N]; exact of_decide_eq_true h1) (locB_ok h2 ok.ok.sc) (.inl (ok.fn _))
    · cases h
  | .tp gs, s, X, c, W, y, ok, h => by
    unfold chkG at h
    split at h
    · obtain ⟨h1, h2⟩ := ba h
      obtain ⟨g1, g2, g3⟩ := (show _ ∧ _ ∧ _ from chkG_ok gs ok h2)
      exact sg_tup ok.ok.hK (ok.ok.cm h1) g1 g2 g3
    · cases h
  | .gnil, s, X, c, W, y, ok, h => by
    unfold chkG at h
    split at h
    · exact ⟨sgs_nil, rfl, rfl⟩
    · cases h
  | .gcons g gs, s, X, c, W, y, ok, h => by
    unfold chkG at h
    split at h
    · rename_i e es
      obtain ⟨h1, h2⟩ := ba h
      obtain ⟨h3, h4⟩ := ba h2
      have g0 : PG X e (tG c W (evG T r s.xs g).g) := chkG_ok g ok h3
      obtain ⟨g1, g2, g3⟩ := (show _ ∧ _ ∧ _ from chkG_ok gs ok h4)
      have he : assignEach (e :: es) X.env = (false, assign e X.env) :: assignEach es X.env := by
        cases e with
        | Starred a p => cases h1
        | _ => rfl
      refine ⟨sgs_cons g0 g1 (pgs_cons g0 g1 (by rw [he]; rfl)), ?_, ?_⟩
      · rw [he, List.length_cons, g2]; rfl
      · rw [he, List.findIdx?_cons]; simp [g3]
    · cases h
  | .sub o i, s, X, c, W, y, ok, h => by
    unfold chkG at h
    split at h
    · rename_i a b p
      obtain ⟨h1, h2⟩ := ba h
      obtain ⟨h3, h4⟩ := ba h2
      have g1 : PE X a (tE c W (ev T o r s.xs).e) := chk_ok o ok.ok h3
      have g2 : PE X b (tE c W (ev T i r s.xs).e) := chk_ok i ok.ok h4
      refine sg_sub g1 g2 (pg_sub g1 g2 set_list ?_)
      intro v
      cases b with
      | Slice a b d e => cases h1
      | _ => rfl
    · cases h
end
end Zy
end
section
set_option Elab.async false
set_option linter.all false
set_option maxRecDepth 100000
set_option maxHeartbeats 4000000
set_option autoImplicit false
namespace Zy
open PySem PySem.Spec PyProof.Rows L2
section
variable {T : Tb}
theorem GlOk.tr {r : Rt} {c : C} {cm : Bool} {X : Cx} {x : Str} {g : GK} (h : GlOk r c cm X x g) (pn : List (Addr × Obj)) (xe : Value → Shared → Prop) : GlOk r c cm (X.tr pn xe) x g := by
  cases g <;> exact h
theorem XS.tr {r : Rt} {s : Sx} {c : C} {X : Cx} {W W' : WX} (ok : XS T r s c X W) (hcm : s.cm = true) {pn : List (Addr × Obj)} {xe : Value → Shared → Prop} (tk : Takes (X.tr pn xe) W') (hp : PassesOwn (model X.prog X.w) X.A X.env xe) : XS T r s c (X.tr pn xe) W' where
  ok := {
    hK := ok.ok.hK
    hu := ok.ok.hu
    sc := ok.ok.sc
    N := ok.ok.N
    nd := ok.ok.nd
    cm := ok.ok.cm
    tk := tk
    gl := fun j x g h => (ok.ok.gl j x g h).tr pn xe
    act := fun i hi a p1 p2 ha hv hn => ok.act i hi a p1 p2 W' pn xe ha hv hn tk
    room := ok.ok.room
    lmk := ok.ok.lmk
    exs := fun i x k h => by rw [ok.xs0 hcm] at h; cases h
    isI := ok.ok.isI
    sub := ok.ok.sub }
  stk := ok.stk
  fr := ok.fr
  pw := fun _ => hp
  fn := ok.fn
  xs0 := ok.xs0
  act := fun i hi a p1 p2 W2 pn2 xe2 ha hv hn tk2 => ok.act i hi a p1 p2 W2 pn2 xe2 ha hv hn tk2
theorem GlOk.suite {r r' : Rt} {c : C} {D : Dy} {cm : Bool} {X : Cx} {x : Str} {g : GK} (h : GlOk r c cm X x g) (a : Addr) (pn : List (Addr × Obj)) : GlOk r' (c.at_ D) false (X.suite a pn) x g := by
  cases g with
  | fn k => exact ⟨h.1, h.2.1, fun z => nomatch z⟩
  | val z =>
    obtain ⟨u, v, h1, h2, h3⟩ := h
    exact ⟨u, v, h1, h2, fun ρ H => (h3 ρ H).xa⟩
  | ty n => exact h
  | bf b => exact h
  | ex k => exact h
  | dct es =>
    obtain ⟨p, h1, h2⟩ := h
    exact ⟨p, h1, fun y z e => let ⟨v, k1, k2⟩ := h2 y z e; ⟨v, k1, fun ρ H => (k2 ρ H).xa⟩⟩
  | lam k => exact ⟨h.1, h.2.1, fun z => nomatch z⟩
  | rng => exact h
theorem clsV_at (c : C) (D : Dy) (x : XC) : clsV (c.at_ D) x = clsV c x := by cases x <;> rfl
theorem XS.suite {r : Rt} {s : Sx} {c : C} {X : Cx} {W : WX} (ok : XS T r s c X W) {i : Option Nat} {x : XR} {D : Dy} {a : Addr} {oe : Obj} {pn : List (Addr × Obj)} {cls : Value} {d : Option Addr} (hz : Zc cls d oe) (hf : ∃ vs, oe.data = .fields vs) (hcls : cls = clsV c x.cls) (hd : x.pay = none → d = none) (ha : i ≠ none → D.xa = a) :
    XS T { r with x := some x } { s with cm := false, xs := i, act := none, lm := false } (c.at_ D) (X.suite a ((a, oe) :: pn)) W0 where
  ok := {
    hK := ok.ok.hK
    hu := ok.ok.hu
    sc := ok.ok.sc
    N := ok.ok.N
    nd := ok.ok.nd
    cm := fun z => nomatch z
    tk := LamX.takes0
    gl := fun j x g h => (ok.ok.gl j x g h).suite a _
    act := fun i hi => nomatch hi
    exs := fun j x' k hj hx hp hc hE => by
      have hx' : some x = some x' := hx
      cases hx'
      have e1 : cls = .ref (c.ca k) := by rw [hcls, hc]; rfl
      have e2 := hd hp
      subst e1 e2
      have hj' : i = some j := hj
      have e3 : D.xa = a := ha (by rw [hj']; exact fun z => nomatch z)
      have q := call_isE (X := X) (a := a) (D := c.ca k) (pn := pn) (show ExcC X.K (c.ca k) from hE) hz hf
      show CallR (X.suite a ((a, oe) :: pn)) _ (rIsE X.K (c.ca k) D.xa)
      rw [e3]
      exact q
    room := fun z => nomatch z
    lmk := fun z => nomatch z
    isI := ok.ok.isI
    sub := fun a b t h => by
      obtain ⟨h1, h2⟩ := ok.ok.sub a b t h
      rw [clsV_at, clsV_at]
      exact ⟨h1, h2⟩ }
  stk := ok.stk
  fr := ok.fr
  pw := fun z => nomatch z
  fn := ok.fn
  xs0 := fun z => nomatch z
  act := fun i hi => nomatch hi
theorem _root_.L2.PSs.ex {X : Cx} {xs : List Stmt} {ι : Type} {t : ι → TS} {P : ι → Prop} (h : ∀ i, P i → PSs X xs (t i)) : PSs X xs (fun D σ H => ∃ i, P i ∧ t i D σ H) := ⟨fun pins s σ H D I ⟨i, hp, q⟩ => (h i hp).run pins s σ H D I q⟩
theorem chkS_ok : ∀ (st : St) {r : Rt} {s : Sx} {X : Cx} {c : C} {W : WX} {y : SynS}, XS T r s c X W → chkS T st s y = true → GoodS X c W y (evS T s.xs st r)
  | .nil, r, s, X, c, W, y, ok, h => by
    unfold chkS at h
    split at h
    · exact sss_nil
    · cases h
  | .cons a b, r, s, X, c, W, y, ok, h => by
    unfold chkS at h
    split at h
    · obtain ⟨h1, h2⟩ := ba h
      exact sss_cons (chkS_ok a ok h1) (chkS_ok b ok h2)
    · cases h
  | .ret e, r, s, X, c, W, y, ok, h => by
    unfold chkS at h
    split at h
    · exact ss_ret (chk_ok e ok.ok h)
    · cases h
  | .retN, r, s, X, c, W, y, ok, h => by
    unfold chkS at h
    split at h
    · exact ss_retN
    · cases h
  | .exp e, r, s, X, c, W, y, ok, h => by
    unfold chkS at h
    split at h
    · obtain ⟨h1, h2⟩ := ba h
      exact ss_exp (chk_ok e ok.ok h2) (noComp_ok (by simpa using h1))
    · cases h
  | .asg g e, r, s, X, c, W, y, ok, h => by
    unfold chkS at h
    split at h
    · rename_i tg x p
      obtain ⟨h1, h2⟩ := ba h
      obtain ⟨h3, h4⟩ := ba h2
      obtain ⟨h5, h6⟩ := ba h4
      obtain ⟨h7, h8⟩ := ba h6
      refine ss_asg (chk_ok e ok.ok h8) (chkG_ok g ok h7) ?_ (noSwap_ok h3) ?_
      · show swapsWith x (some tg) p.line X.env = pure false
        rw [Bool.or_eq_true] at h1
        rcases h1 with h1 | h1
        · exact noComp_ok (by simpa using h1)
        · exact noComp2_ok (by simpa using h1)
      · cases tg with
        | Starred a p => cases h5
        | _ => rfl
    · cases h
  | .asgC i e, r, s, X, c, W, y, ok, h => by
    unfold chkS at h
    split at h
    · rename_i x px v p
      obtain ⟨h1, h2⟩ := ba h
      obtain ⟨h3, h4⟩ := ba h2
      obtain ⟨elt, tg, iter, ifs, scope, pos, rfl, k1, k2⟩ := swaps_ok (n := p.line) (pos := p) ok.ok.sc h1
      cases e with
      | cpr it pt t el own =>
        have h4' : ((s.cm && s.xs.isNone) && (match ownC s.N own with
          | some ow => blkC s.N s.sc scope ow && (pt.slots.all (fun i => own.contains i) && (patC (relS scope s.sc) s.N (fun x => scope.names.lookup x == some .cell) pt tg && (chk T it s (.i iter) && (chk T t (s.blk scope) (.c ifs) && chk T el (s.blk scope) (.e elt)))))
          | none => false)) = true := h4
        obtain ⟨g1, g2⟩ := ba h4'
        obtain ⟨g1, hxs⟩ := ba g1
        have hxs := Option.isNone_iff_eq_none.mp hxs
        split at g2
        · rename_i ow ho
          obtain ⟨q3, q4⟩ := ba g2
          obtain ⟨q5, q6⟩ := ba q4
          obtain ⟨q7, q8⟩ := ba q6
          obtain ⟨q9, q10⟩ := ba q8
          obtain ⟨q11, q12⟩ := ba q10
          have e2 := ownC_ok ho
          obtain ⟨i1, i2⟩ : (∀ tg, PI X tg iter (tI c W (ev T it r s.xs).i)) ∧ ∀ v, foldedSetIterable iter X.env v = pure v := chk_ok it ok.ok q9
          have q := ss_setComp (X := X) (c := c) (W := W) (tg := tg) (iter := iter) (elt := elt) (ifs := ifs) (scope := scope) (own := ow) (di := (ev T it r s.xs).i) (p := pt) (t := (ev T t r none).t) (e := (ev T el r none).e) (pos := pos) (py := px) (spos := p) ok.ok.hK (ok.ok.cm g1) (by rw [ok.ok.N]; exact ok.ok.nd)
            (i := i) (y := x) (by rw [ok.ok.N]; exact of_decide_eq_true h3) k1 k2 (i1 tg)
            (blkOk_by (by rw [ok.ok.N, ok.ok.sc]; exact q3)) (fun s1 H C cl fp => ?_) (fun s1 H C cl fp => chk_ok t (ok.ok.blk s1 H scope cl C fp) q11) (fun s1 H C cl fp => chk_ok el (ok.ok.blk s1 H scope cl C fp) q12) i2 (fun i hi => by rw [e2]; exact List.contains_iff_mem.mp (List.all_eq_true.mp q5 i hi))
          · rw [e2] at q; rw [hxs] at q ⊢; exact q
          · refine patC_ok (X := X.blk s1 H scope (compEnvC scope cl C X.env) fp) (fnc := fun x => scope.names.lookup x == some .cell) (ok.ok.cm g1) (by show X.N.Nodup; rw [ok.ok.N]; exact ok.ok.nd) (fun x hx => hx) ?_
            have := (ok.ok.blk s1 H scope cl C fp).sc
            rw [this, show (X.blk s1 H scope (compEnvC scope cl C X.env) fp).N = s.N from ok.ok.N]
            exact q7
        · cases g2
      | _ => first | cases h4 | (exfalso; revert h4; unfold chk; first | (intro z; cases z; done) | (simp [gen]; done))
    · cases h
  | .ife t a b, r, s, X, c, W, y, ok, h => by
    unfold chkS at h
    split at h
    · obtain ⟨h1, h2⟩ := ba h
      obtain ⟨h3, h4⟩ := ba h2
      exact ss_if (chk_ok t ok.ok h1) (chkS_ok a ok h3) (chkS_ok b ok h4)
    · cases h
  | .pass, r, s, X, c, W, y, ok, h => by
    unfold chkS at h
    split at h
    · exact ss_pass
    · cases h
  | .brk, r, s, X, c, W, y, ok, h => by
    unfold chkS at h
    split at h
    · exact ss_break
    · cases h
  | .cnt, r, s, X, c, W, y, ok, h => by
    unfold chkS at h
    split at h
    · exact ss_cont
    · cases h
  | .for_ it g b, r, s, X, c, W, y, ok, h => by
    unfold chkS at h
    split at h
    · rename_i tg x body p
      obtain ⟨h1, h2⟩ := ba h
      obtain ⟨h3, h4⟩ := ba h2
      obtain ⟨h5, h6⟩ := ba h4
      obtain ⟨i1, i2⟩ : (∀ tg, PI X tg x (tI c W (ev T it r s.xs).i)) ∧ ∀ v, foldedSetIterable x X.env v = pure v := chk_ok it ok.ok h3
      exact ss_for (ok.pw h1) (ok.ok.cm h1) (i1 tg) (chkG_ok g ok h5) (chkS_ok b ok h6) i2
    · cases h
  | .while_ t b, r, s, X, c, W, y, ok, h => by
    unfold chkS at h
    split at h
    · obtain ⟨h1, h2⟩ := ba h
      obtain ⟨h3, h4⟩ := ba h2
      exact ss_while (ok.pw h1) (chk_ok t ok.ok h3) (chkS_ok b ok h4)
    · cases h
  | .raise_ j, r, s, X, c, W, y, ok, h => by
    unfold chkS at h
    split at h
    · split at h
      · rename_i hg
        obtain ⟨h1, h2⟩ := ba h
        obtain ⟨h3, h4⟩ := ba h2
        obtain ⟨h5, h6⟩ := ba h4
        obtain rfl := of_decide_eq_true h1
        obtain ⟨g1, g2, g3, bm, B, n1, n2, F, g4⟩ := ok.ok.gl _ _ _ hg
        show PS X _ (tS c W (evS T s.xs (.raise_ j) r).s)
        simp only [evS, hg]
        exact ss_raise (ok.ok.cm h3) ok.ok.tk F g4 g1 g2 g3 (glB_ok h5 ok.ok.sc) (okN_d h6)
      · cases h
    · cases h
  | .try_ b hh, r, s, X, c, W, y, ok, h => by
    unfold chkS at h
    split at h
    · obtain ⟨h1, h2⟩ := ba h
      obtain ⟨h3, h4⟩ := ba h2
      exact ss_try (fun a b t q => (ok.ok.sub a b t q).1) ok.stk ok.fr (by rw [ok.ok.N]; exact ok.ok.nd) ok.ok.tk (fun W' pn xe tk hp => chkS_ok b (ok.tr h1 tk hp) h3) (chkS_ok hh ok h4)
    · cases h
  | .hnil, r, s, X, c, W, y, ok, h => by
    unfold chkS at h
    split at h
    · exact .nil
    · cases h
  | .hcons j i b rest, r, s, X, c, W, y, ok, h => by
    unfold chkS at h
    split at h
    · rename_i x np n b₀ suite pos hds
      split at h
      · rename_i hg
        obtain ⟨h1, h2⟩ := ba h
        obtain ⟨h3, h4⟩ := ba h2
        obtain ⟨h5, h6⟩ := ba h4
        obtain ⟨h7, h8⟩ := ba h6
        obtain ⟨h9, h10⟩ := ba h8
        obtain rfl := of_decide_eq_true h1
        obtain ⟨g1, g2, _⟩ := ok.ok.gl _ _ _ hg
        have hrest : HdsG X hds ((evS T s.xs rest r).h.map (hzT c)) := chkS_ok rest ok h10
        show HdsG X _ (((evS T s.xs (.hcons j i b rest) r).h).map (hzT c))
        simp only [evS, hg, List.map_cons]
        refine .cons ⟨glB_ok h3 ok.ok.sc, okN_d h5, .inl g1⟩ ?_ (fun a oe cls d pn hz hf => ?_) hrest
        · cases n with
          | none =>
            cases i with
            | none => trivial
            | some i => cases h7
          | some m =>
            cases i with
            | none => cases h7
            | some i =>
              obtain ⟨k1, k2⟩ := ba h7
              exact ⟨by rw [ok.ok.N]; exact of_decide_eq_true k1, by show X.env.scope.names.lookup m = _; rw [ok.ok.sc]; exact of_decide_eq_true k2⟩
        · cases i with
          | none =>
            refine ⟨fun pins s1 σ H D I ⟨x, hcls, hd, q⟩ => ?_⟩
            have hs := chkS_ok b (XS.suite (i := none) (x := x) (D := c.dy) (a := a) (pn := pn) (d := d) ok hz hf hcls hd (fun z => absurd rfl z)) h9
            exact (show PSs _ _ _ from hs).run pins s1 σ H D I q
          | some i =>
            refine ⟨fun pins s1 σ H D I ⟨x, hcls, hd, q⟩ => ?_⟩
            have hs := chkS_ok b (XS.suite (i := some i) (x := x) (D := .exc a d x.pay c.dy) (a := a) (pn := pn) ok hz hf hcls hd (fun _ => rfl)) h9
            exact (show PSs _ _ _ from hs).run pins s1 σ H D I q
      · cases h
    · cases h
  | .par i j a, r, s, X, c, W, y, ok, h => by
    unfold chkS at h
    split at h
    · obtain ⟨h1, h2⟩ := ba h
      obtain ⟨h3, h4⟩ := ba h2
      obtain ⟨h5, h6⟩ := ba h4
      obtain ⟨h7, h8⟩ := ba h6
      obtain ⟨h9, h10⟩ := ba h8
      have hp := h3
      unfold parB at h3
      obtain ⟨k1, h3⟩ := ba h3
      obtain ⟨k2, h3⟩ := ba h3
      obtain ⟨k3, h3⟩ := ba h3
      refine (ps_par (ok.ok.cm h1) (by rw [ok.ok.N]; exact ok.ok.nd) (i := i) (j := j) (by rw [ok.ok.N]; exact of_decide_eq_true h5) (by rw [ok.ok.N]; exact of_decide_eq_true h7) (by simpa using h9) (by rw [ok.ok.sc]; exact of_decide_eq_true k2) (by rw [ok.ok.sc]; exact of_decide_eq_true k3) (chk_ok a ok.ok h10) (par_ok ok.ok.sc hp) rfl).weak
        fun D σ H ⟨ρ, G, l, R, hl, q⟩ => ?_
      refine ⟨ρ, G, l, R, hl, RQ.of_st hl q fun ρ1 H1 G1 zs vs e1 R1 l1 r1 q1 => ?_⟩
      split at q1
      · obtain ⟨v, w, rfl, rv, rw'⟩ := r1.two
        exact ⟨v, w, rfl, q1 ρ1 H1 _ (Ext.refl _ _) R1 ((l1.set rv).set rw')⟩
      · exact q1.elim
    · cases h
end
end Zy
end
section
set_option Elab.async false
set_option linter.all false
set_option maxRecDepth 100000
set_option maxHeartbeats 4000000
set_option autoImplicit false
/-! defs -/
namespace Zy
open PySem PySem.Spec PyProof.Rows L2

structure Fd where
  d : He.DefD
  N : List Str
  np : Nat
  star : Bool := false
  act : Bool := false
  lm : Bool := false
  body : St
def Fd.ps (f : Fd) : List Str := f.N.take f.np
def Fd.pv (f : Fd) : Str := f.N.getD f.np ""
def Fd.sx (f : Fd) : Sx := { sc := f.d.scope, N := f.N, act := if f.act then some 0 else none, lm := f.lm }
def fdB (T : Tb) (f : Fd) : Bool := C8.scC f.N (if f.star then f.ps ++ [f.pv] else f.ps) f.d.scope && (decide (f.ps.length = f.np) && (decide (f.d.dfl.length = 0) && (decide (f.d.kwd.length = 0) && (chkS T f.body f.sx (.ss f.d.body) &&
  (if f.act then !f.star && (decide (f.np = 1) && decide (0 < f.N.length)) else true)))))
/-- the end of a body, as the def's result -/
def S.fin : S → R Z
  | .rt z G => .ok z G
  | .nx _ G => .ok .non G
  | .exc x _ G => .exc x G
  | _ => .bad
def stL (n : Nat) (zs : List Z) : L := zs.map some ++ List.replicate (n - zs.length) none
def dFun (T : Tb) (f : Fd) (r : Rt) : List Z → GH → R Z := fun zs G =>
  if f.star then (if f.np ≤ zs.length ∧ zs.length ≤ sizeLine then ((evS T none f.body r).s (stL f.N.length (zs.take f.np ++ [.tup (zs.drop f.np)])) G).fin else .bad)
  else (if zs.length = f.np then ((evS T none f.body r).s (stL f.N.length zs) G).fin else .bad)
def dFunA (T : Tb) (f : Fd) (r : Rt) : GH → R Z := fun G => ((evS T none f.body r).s (stL f.N.length [.ex]) G).fin
structure Cd where
  cf : CF
  lf : Nat → (GH → R Z) → GH → R Z
def badC : Cd := ⟨fun _ _ _ => .bad, fun _ _ _ => .bad⟩
section
variable (T : Tb) (sub : XC → XC → Option Bool) (fs : List Fd)
def mkRt (d : Nat) (hi lo : Cd) : Rt := { cf := hi.cf, lf := hi.lf, low := lo.cf, sub := sub, lv := d }
def stepD (d : Nat) (hi lo : Cd) : Cd where
  cf := fun k => match fs[k]? with
    | some f => if f.act then fun _ _ => .bad else dFun T f (mkRt sub d hi lo)
    | none => fun _ _ => .bad
  lf := fun k th => match fs[k]? with
    | some f => if f.act then dFunA T f { mkRt sub d hi lo with th := th } else fun _ => .bad
    | none => fun _ => .bad
/-- what the defs do, calls nested at most d deep -/
def callD : Nat → Cd
  | 0 => badC
  | 1 => badC
  | 2 => badC
  | d + 3 => stepD T sub fs (d + 2) (callD (d + 2)) (callD d)
end
/-! ### soundness -/
def GlS (c : C) (X : Cx) (x : Str) : GK → Prop
  | .fn k => X.mg x = some (.ref (c.fa k)) ∧ PySem.W.keepIn X.K (.ref (c.fa k)) = true
  | .lam k => X.mg x = some (.ref (c.fa k)) ∧ PySem.W.keepIn X.K (.ref (c.fa k)) = true
  | g => GlOk { cf := fun _ _ _ => .bad } c false X x g
structure CxIs (X : Cx) (P : Program) (w : World) (K : PySem.W.Frag) (mg : Str → Option Value) (base : Heap) : Prop where
  prog : X.prog = P
  w : X.w = w
  K : X.K = K
  mg : X.mg = mg
  base : X.base = base
/-- what stands of the text -/
structure Tx (T : Tb) (sub : XC → XC → Option Bool) (fs : List Fd) (c : C) (P : Program) (w : World) (K : PySem.W.Frag) (mg : Str → Option Value) (base : Heap) : Prop where
  hK : c.K = K
  gl : ∀ D X, CxIs X P w K mg base → ∀ (j : Nat) x g, T.gl[j]? = some (x, g) → GlS (c.at_ D) X x g
  isI : mg "isinstance" = none
  sub : ∀ a b t, sub a b = some t → PySem.W.exmOne K (clsV c a) (clsV c b) = some t ∧ ∀ j, a = .own j → PySem.W.kitOne K (.ref (c.ca j)) (clsV c b) = some t ∧ ExcC K (c.ca j)
  fd : ∀ (k : Nat) f, fs[k]? = some f → ∃ fd, FunD K f.d.name f.d.qual f.d.params f.d.body f.d.scope [] [] (c.fa k) fd
  lm : ∀ (k : Nat) f, fs[k]? = some f → f.lm = true → ∀ oc od fd osl, K.lookup (c.fa k) = some ⟨oc, od, .func fd, osl⟩ → ∃ cd P, fd.code = .ref cd ∧ LamX.TabB base mg cd P ∧ (P, f.d.qual ++ ".<locals>." ++ "<lambda>") ∈ c.T ∧ ∀ p ∈ c.T, p.1 = P → p.2 = f.d.qual ++ ".<locals>." ++ "<lambda>"
/-- how a def binds -/
def Bd (f : Fd) : Prop := ∀ (kV doc pm : Value) (an : Option Addr) (cdv ct : Value),
  if f.star then ∀ us rest : List Value, us.length = f.np → bindArgs (PySem.W.fnOf f.d.name f.d.qual f.d.params f.d.body f.d.scope .none kV doc pm an cdv ct) ⟨us ++ rest, []⟩ = (newTuple rest >>= fun t => pure (f.ps.zip us ++ [(f.pv, t)]))
  else ∀ us : List Value, us.length = f.np → bindArgs (PySem.W.fnOf f.d.name f.d.qual f.d.params f.d.body f.d.scope .none kV doc pm an cdv ct) ⟨us, []⟩ = pure (f.ps.zip us)
section
variable {T : Tb} {sub : XC → XC → Option Bool} {fs : List Fd} {c : C} {P : Program} {w : World} {K : PySem.W.Frag} {mg : Str → Option Value} {base : Heap}
theorem stL_rel {ρ : List Addr} {H : Hp} {n : Nat} {zs : List Z} {vs : List V} (N : List Str) (hn : N.length = n) (r : RZs c ρ H zs vs) : RL c ρ H (stL n zs) (L2.start N vs) := by
  refine ⟨by unfold stL L2.start; simp [r.length, hn], fun i z e => ?_⟩
  unfold stL at e
  by_cases hi : i < zs.length
  · rw [List.getElem?_append_left (by simpa using hi), List.getElem?_map] at e
    cases q : zs[i]? with
    | none => rw [q] at e; cases e
    | some y =>
      rw [q] at e; cases e
      obtain ⟨v, h1, h2⟩ := r.get q
      refine ⟨v, ?_, .inl h2⟩
      unfold L2.start
      rw [List.getElem?_append_left (by rw [List.length_map, ← r.length]; exact hi), List.getElem?_map, h1]; rfl
  · rw [List.getElem?_append_right (by simpa using hi), List.getElem?_replicate] at e
    split at e <;> cases e
theorem fin_rs {ρ : List Addr} {H : Hp} {r : S} {Q : VK} {E : XK} (q : RQ c (RZ c) ρ H r.fin Q E) : RS c ρ H r { nx := fun _ H' => Q .non H', rt := Q } (fun cls d _ H => E cls d H) := by
  cases r with
  | nx l G => exact fun ρ' H' σ' e R hl => q ρ' H' .non e R rz_non
  | rt z G => exact fun ρ' H' v e R rz => q ρ' H' v e R rz
  | exc x l G => exact fun ρ' H' σ' cls d e R hl rx => q ρ' H' cls d e R rx
  | _ => exact q.elim
/-- the place of a def's body -/
theorem body_ok (tx : Tx T sub fs c P w K mg base) {f : Fd} {k d : Nat} (hk : fs[k]? = some f) {hi lo : Cd} {th : GH → R Z}
    (IH : (∀ k D, FnR P w K mg base (L2.CX P w) d (c.fa k) (spR (c.at_ D) (hi.cf k))) ∧ ∀ k, LamR P w K mg base c d (c.fa k) (hi.lf k)) (IL : ∀ d', d = d' + 2 → ∀ k D, FnR P w K mg base (L2.CX P w) d' (c.fa k) (spR (c.at_ D) (lo.cf k))) (h2 : 2 ≤ d)
    (hB : fdB T f = true) {oc kV doc pm cdv ct : Value} {od an : Option Addr} {osl : Array (Option Value)} (lk : K.lookup (c.fa k) = some ⟨oc, od, .func (PySem.W.fnOf f.d.name f.d.qual f.d.params f.d.body f.d.scope .none kV doc pm an cdv ct), osl⟩) (D : Dy) {A : Around} {outer : List Env} {s : Shared} {H : Hp} {E : XK} (hr : Room d (A.deeper (envOfC f.d.qual f.d.scope s.heap.objs.size (c.fa k) cdv)))
    (hact : f.act = true → ∀ a p1 p2 W' pn xe, f.N[0]? = some a → Vis f.d.scope a → okN a = true → Takes ((cxOf (L2.CX P w) P w K mg base f.N f.d.qual f.d.scope (c.fa k) cdv A outer s H E).tr pn xe) W' → PE ((cxOf (L2.CX P w) P w K mg base f.N f.d.qual f.d.scope (c.fa k) cdv A outer s H E).tr pn xe) (.Call (.Name a p1) [] [] p2) (tE (c.at_ D) W' (dAct 0 th))) :
    PSs (cxOf (L2.CX P w) P w K mg base f.N f.d.qual f.d.scope (c.fa k) cdv A outer s H E) f.d.body (tS (c.at_ D) (fun cls d _ H => E cls d H) (evS T none f.body { mkRt sub d hi lo with th := th }).s) := by
  unfold fdB at hB
  obtain ⟨b1, b2⟩ := Zy.ba hB
  obtain ⟨b3, b4⟩ := Zy.ba b2
  obtain ⟨b5, b6⟩ := Zy.ba b4
  obtain ⟨b7, b8⟩ := Zy.ba b6
  obtain ⟨b9, b10⟩ := Zy.ba b8
  have S := C8.fnScope_by b1
  have hgl : ∀ X, CxIs X P w K mg base → ∀ (j : Nat) x g, T.gl[j]? = some (x, g) → GlOk { mkRt sub d hi lo with th := th } (c.at_ D) true X x g := fun X hX j x g hj => by
    have q := tx.gl D X hX j x g hj
    obtain ⟨e1, e2, e3, e4, e5⟩ := hX
    subst e1 e2 e3 e4 e5
    cases g with
    | fn k => exact ⟨q.1, q.2, fun _ => ⟨IH.1 k D, fun d' hd => IL d' hd k D⟩⟩
    | lam k => exact ⟨q.1, q.2, fun _ D' A outer s H f th ρ G Q E h1 h2 h3 h4 h5 h6 => IH.2 k D' A outer s H f th ρ G Q E h1 h2 h3 h4 h5 h6⟩
    | val z => exact q
    | ty n => exact q
    | bf b => exact q
    | ex k => exact q
    | dct es => exact q
    | rng => exact q
  have tk0 : Takes (cxOf (L2.CX P w) P w K mg base f.N f.d.qual f.d.scope (c.fa k) cdv A outer s H E) (fun cls d _ H => E cls d H) := takes_of rfl rfl rfl rfl
  have hact' : ∀ i, f.sx.act = some i → f.act = true ∧ i = 0 := fun i hi => by
    cases ha : f.act with
    | false =>
      have hi' : (if f.act then some 0 else none) = some i := hi
      rw [ha] at hi'; cases hi'
    | true =>
      have hi' : (if f.act then some 0 else none) = some i := hi
      rw [ha] at hi'; cases hi'; exact ⟨rfl, rfl⟩
  refine (show PSs _ _ _ from chkS_ok (T := T) (s := f.sx) (r := { mkRt sub d hi lo with th := th }) f.body (y := .ss f.d.body) ?_ b9)
  exact {
    ok := {
      hK := tx.hK
      hu := by
        have := hr.un
        show (A.deeper _).units + 60 < cLine
        omega
      sc := rfl
      N := rfl
      nd := S.nd
      cm := fun _ => rfl
      tk := tk0
      gl := hgl _ ⟨rfl, rfl, rfl, rfl, rfl⟩
      act := fun i hi a p1 p2 ha hv hn => by
        obtain ⟨h1, rfl⟩ := hact' i hi
        exact hact h1 a p1 p2 _ [] _ ha hv hn tk0
      exs := fun i x k h => nomatch h
      room := fun _ => hr
      lmk := fun hl => by
        obtain ⟨cd, PP, g1, g2, g3, g4⟩ := tx.lm k f hk hl _ _ _ _ lk
        exact ⟨h2, cd, PP, g1, g2, g3, g4⟩
      isI := tx.isI
      sub := fun a b t h => by
        obtain ⟨h1, h2⟩ := tx.sub a b t h
        rw [clsV_at, clsV_at]
        exact ⟨h1, h2⟩ }
    stk := rfl
    fr := rfl
    pw := fun _ => passes_of rfl
    fn := fun _ => rfl
    xs0 := fun _ => rfl
    act := fun i hi a p1 p2 W' pn xe ha hv hn tk => by
      obtain ⟨h1, rfl⟩ := hact' i hi
      exact hact h1 a p1 p2 W' pn xe ha hv hn tk }
theorem callD_ok (tx : Tx T sub fs c P w K mg base) (hB : ∀ f ∈ fs, fdB T f = true) (hb : ∀ f ∈ fs, Bd f) : ∀ d, (∀ k D, FnR P w K mg base (L2.CX P w) d (c.fa k) (spR (c.at_ D) ((callD T sub fs d).cf k))) ∧ ∀ k, LamR P w K mg base c d (c.fa k) ((callD T sub fs d).lf k)
  | 0 => ⟨fun k D => badF, fun k => badL⟩
  | 1 => ⟨fun k D => badF, fun k => badL⟩
  | 2 => ⟨fun k D => badF, fun k => badL⟩
  | d + 3 => by
    have IH := callD_ok tx hB hb (d + 2)
    have IL := callD_ok tx hB hb d
    have IL' : ∀ d', d + 2 = d' + 2 → ∀ k D, FnR P w K mg base (L2.CX P w) d' (c.fa k) (spR (c.at_ D) ((callD T sub fs d).cf k)) := fun d' h k D => by
      obtain rfl : d' = d := by omega
      exact IL.1 k D
    refine ⟨fun k D => ?_, fun k => ?_⟩
    · show FnR P w K mg base (L2.CX P w) (d + 3) (c.fa k) (spR (c.at_ D) ((stepD T sub fs (d + 2) (callD T sub fs (d + 2)) (callD T sub fs d)).cf k))
      unfold stepD
      simp only
      cases hk : fs[k]? with
      | none => exact badF
      | some f =>
        simp only
        split
        · exact badF
        · rename_i hact
          have hm : f ∈ fs := List.mem_of_getElem? hk
          have hBf := hB f hm
          have hbf := hb f hm
          have hBf' := hBf
          unfold fdB at hBf'
          obtain ⟨b1, b2⟩ := Zy.ba hBf'
          obtain ⟨b3, b4⟩ := Zy.ba b2
          have S := C8.fnScope_by b1
          have e3 := of_decide_eq_true b3
          obtain ⟨fd, F⟩ := tx.fd k f hk
          obtain ⟨oc, od, dV, kV, doc, pm, an, cdv, ct, osl, rfl, lk, hcd, hD, _⟩ := F.ex
          obtain rfl : dV = .none := by
            rcases hD with ⟨_, h⟩ | ⟨h, _⟩
            · exact h
            · exact absurd rfl h
          have bd := hbf kV doc pm an cdv ct
          have hact0 : f.act = false := by simpa using hact
          cases hst : f.star with
          | false =>
            rw [hst] at bd S
            have FO := fn_of (CX := L2.CX P w) (P := P) (w := w) (mg := mg) (base := base) (N := f.N) (ps := f.ps) (k := d + 2) (sp := spR (c.at_ D) (dFun T f (mkRt sub (d + 2) (callD T sub fs (d + 2)) (callD T sub fs d)))) lk hcd S
              (fun vs H Q E ⟨ρ, G, zs, R, rz, q⟩ => by
                unfold dFun at q
                rw [hst] at q
                simp only [Bool.false_eq_true, if_false] at q
                split at q
                · rename_i hl; rw [← rz.length, hl, e3]
                · exact q.elim)
              (fun A outer s H vs Q E hr ⟨ρ, G, zs, R, rz, q⟩ => by
                refine ⟨_, body_ok tx hk (th := fun _ => .bad) IH IL' (by omega) hBf lk D hr (fun h => by rw [hact0] at h; cases h), ρ, G, stL f.N.length zs, R, stL_rel f.N rfl rz, ?_⟩
                unfold dFun at q
                rw [hst] at q
                simp only [Bool.false_eq_true, if_false] at q
                split at q
                · exact fin_rs q
                · exact q.elim)
            have FR := FO.raw (ds := []) (dvs := []) (Binds.all fun us hl => bd us (by rw [hl, e3])) .nil
            exact FR.imp fun vs H Q E q => by rw [List.append_nil]; exact q
          | true =>
            rw [hst] at bd S
            have FR := StX.fn_star (CX := L2.CX P w) (P := P) (w := w) (mg := mg) (base := base) (N := f.N) (ps := f.ps) (pv := f.pv) (k := d + 2) (sp := fun vs H Q E => ∃ ρ G zs, Rel (c.at_ D) ρ H G ∧ RZs (c.at_ D) ρ H zs vs ∧ RQ (c.at_ D) (RZ (c.at_ D)) ρ H ((evS T none f.body (mkRt sub (d + 2) (callD T sub fs (d + 2)) (callD T sub fs d))).s (stL f.N.length zs) G).fin Q E) lk hcd S StX.cxUp
              (fun us rest hl => bd us rest (by rw [hl, e3]))
              (fun A outer s H vs Q E hr ⟨ρ, G, zs, R, rz, q⟩ => ⟨_, body_ok tx hk (th := fun _ => .bad) IH IL' (by omega) hBf lk D hr (fun h => by rw [hact0] at h; cases h), ρ, G, stL f.N.length zs, R, stL_rel f.N rfl rz, fin_rs q⟩)
            refine FR.imp fun vs H Q E ⟨ρ, G, zs, R, rz, q⟩ => ?_
            unfold dFun at q
            rw [hst] at q
            simp only [if_true] at q
            split at q
            · rename_i hl
              have hlen := rz.length
              refine ⟨vs.take f.np, vs.drop f.np, (List.take_append_drop _ _).symm, by rw [List.length_take, e3]; omega, by rw [List.length_drop]; omega, fun p hp => ?_⟩
              obtain ⟨R1, e1⟩ := R.aside (o := .tup (vs.drop f.np)) hp
              refine ⟨ρ, G, zs.take f.np ++ [.tup (zs.drop f.np)], R1, ((rz.take f.np).mono e1).append (.cons ?_ .nil), ?_⟩
              · unfold RZ
                exact ⟨p, vs.drop f.np, rfl, .inl (.inl upd_same), (rz.drop f.np).mono e1⟩
              · cases hq : ((evS T none f.body (mkRt sub (d + 2) (callD T sub fs (d + 2)) (callD T sub fs d))).s (stL f.N.length (zs.take f.np ++ [.tup (zs.drop f.np)])) G).fin with
                | bad => rw [hq] at q; exact q
                | ok z G' => rw [hq] at q; exact fun ρ' H' v e => q ρ' H' v (e1.trans e)
                | exc x G' => rw [hq] at q; exact fun ρ' H' cl d e => q ρ' H' cl d (e1.trans e)
            · exact q.elim
    · show LamR P w K mg base c (d + 3) (c.fa k) ((stepD T sub fs (d + 2) (callD T sub fs (d + 2)) (callD T sub fs d)).lf k)
      unfold stepD
      simp only
      cases hk : fs[k]? with
      | none => exact badL
      | some f =>
        simp only
        cases hact : f.act with
        | false => simp only [Bool.false_eq_true, if_false]; exact badL
        | true =>
          simp only [if_true]
          have hm : f ∈ fs := List.mem_of_getElem? hk
          have hBf := hB f hm
          have hbf := hb f hm
          have hBf' := hBf
          unfold fdB at hBf'
          obtain ⟨b1, b2⟩ := Zy.ba hBf'
          obtain ⟨b3, b4⟩ := Zy.ba b2
          obtain ⟨b5, b6⟩ := Zy.ba b4
          obtain ⟨b7, b8⟩ := Zy.ba b6
          obtain ⟨b9, b10⟩ := Zy.ba b8
          rw [hact] at b10
          simp only [if_true] at b10
          obtain ⟨b11, b12⟩ := Zy.ba b10
          obtain ⟨b13, b14⟩ := Zy.ba b12
          have hst : f.star = false := by simpa using b11
          have e4 := of_decide_eq_true b13
          have e5 := of_decide_eq_true b14
          have S := C8.fnScope_by b1
          have e3 := of_decide_eq_true b3
          rw [hst] at S
          obtain ⟨fd, F⟩ := tx.fd k f hk
          obtain ⟨oc, od, dV, kV, doc, pm, an, cdv, ct, osl, rfl, lk, hcd, hD, _⟩ := F.ex
          obtain rfl : dV = .none := by
            rcases hD with ⟨_, h⟩ | ⟨h, _⟩
            · exact h
            · exact absurd rfl h
          have bd := hbf kV doc pm an cdv ct
          rw [hst] at bd
          intro D A outer s H fl th ρ G Q E hr e0 hxa R hact2 q
          refine LamX.run_ofS (N := f.N) (ps := f.ps) (us := [.ref fl]) (vs := [.ref fl]) lk hcd S hr e0 (.of_eq (bd [.ref fl] (by rw [e4]; rfl))) (.cons rfl .nil) (by rw [e3, e4]; rfl) fun hr' => ?_
          refine ⟨_, body_ok tx hk (th := th) IH IL' (by omega) hBf lk D hr' (fun _ a p1 p2 W' pn xe ha hv hn tk => hact2 f.N f.d.qual f.d.scope cdv E W' pn xe a 0 p1 p2 ha hv hn tk), ρ, G, stL f.N.length [.ex], R, ?_, fin_rs q⟩
          refine ⟨by unfold stL L2.start; simp, fun i z e => ?_⟩
          unfold stL at e
          cases i with
          | zero =>
            have e' : some (some Z.ex) = some (some z) := e
            cases e'
            exact ⟨.ref fl, rfl, .inr ⟨rfl, by show V.ref fl = .ref D.xa; rw [hxa]⟩⟩
          | succ i =>
            have e' : (List.replicate (f.N.length - 1) (none : Option Z))[i]? = some (some z) := e
            rw [List.getElem?_replicate] at e'
            split at e' <;> cases e'
end
end Zy
end
section
set_option Elab.async false
set_option linter.all false
set_option maxRecDepth 100000
set_option maxHeartbeats 4000000
set_option autoImplicit false
/-! the text's facts, the law's end -/
namespace Zy
open PySem PySem.Spec PyProof.Rows L2

/-! ### what is read of the written part -/
inductive Bx where
  | val | idx | ovf | ari | lkp | run | typ | exc
def Bx.bm : Bx → List Value
  | .val => [.type "ValueError", .type "Exception", .type "BaseException", .type "object"]
  | .idx => [.type "IndexError", .type "LookupError", .type "Exception", .type "BaseException", .type "object"]
  | .ovf => [.type "OverflowError", .type "ArithmeticError", .type "Exception", .type "BaseException", .type "object"]
  | .ari => [.type "ArithmeticError", .type "Exception", .type "BaseException", .type "object"]
  | .lkp => [.type "LookupError", .type "Exception", .type "BaseException", .type "object"]
  | .run => [.type "RuntimeError", .type "Exception", .type "BaseException", .type "object"]
  | .typ => [.type "TypeError", .type "Exception", .type "BaseException", .type "object"]
  | .exc => [.type "Exception", .type "BaseException", .type "object"]
def Bx.new : Bx → String
  | .val => "ValueError.__new__"
  | .idx => "IndexError.__new__"
  | .ovf => "OverflowError.__new__"
  | .ari => "ArithmeticError.__new__"
  | .lkp => "LookupError.__new__"
  | .run => "RuntimeError.__new__"
  | .typ => "TypeError.__new__"
  | .exc => "Exception.__new__"
theorem Bx.facts (b : Bx) : ∃ B i, ExcBaseFacts B b.new i b.bm := by
  cases b with
  | val => exact ⟨_, _, PySem.F.excBase_ValueError⟩
  | idx => exact ⟨_, _, PySem.F.excBase_IndexError⟩
  | ovf => exact ⟨_, _, PySem.F.excBase_OverflowError⟩
  | ari => exact ⟨_, _, PySem.F.excBase_ArithmeticError⟩
  | lkp => exact ⟨_, _, PySem.F.excBase_LookupError⟩
  | run => exact ⟨_, _, PySem.F.excBase_RuntimeError⟩
  | typ => exact ⟨_, _, PySem.F.excBase_TypeError⟩
  | exc => exact ⟨_, _, PySem.F.excBase_Exception⟩
structure TX where
  T : Tb
  fs : List Fd
  cl : List (Str × Bx)
  subL : List (XC × XC × Bool)
  ds : List (Str × List Str)
def TX.sub (t : TX) (a b : XC) : Option Bool := (t.subL.find? fun q => decide (q.1 = a) && decide (q.2.1 = b)).map (·.2.2)
def TX.at_ (t : TX) (k : Nat) : Str × Option Str := match t.fs[k]? with
  | some f => f.d.at_
  | none => ("", none)
def TX.cn (t : TX) (k : Nat) : Str := match t.cl[k]? with
  | some q => q.1
  | none => ""
def TX.lms (t : TX) : List Fd := t.fs.filter (·.lm)
def TX.c (t : TX) (K : PySem.W.Frag) : C where
  K := K
  fa := fun k => He.fAd K (t.at_ k)
  ca := fun k => He.ga K (t.cn k)
  T := t.lms.map fun f => ((He.cT K f.d.at_).2, f.d.qual ++ ".<locals>." ++ "<lambda>")
mutual
/-- the value u of the written part is z -/
def zOk (c : C) : Z → Value → Bool
  | .non, .none => true
  | .bl b, .bool d => b == d
  | .int i, .int j _ => decide (i = j)
  | .str x, .str y _ => decide (y.cps.toList = x) && decide (x.length ≤ 10000)
  | .tup xs, .ref a => (match c.K.lookup a with
    | some ⟨.type n, _, .seq its _, _⟩ => decide (n = "tuple") && (decide (its.size ≤ sizeLine) && zsOk c xs its.toList)
    | _ => false)
  | .rol xs, .ref a => (match c.K.lookup a with
    | some ⟨.type n, none, .seq its _, _⟩ => decide (n = "list") && (decide (its.size ≤ sizeLine) && zsOk c xs its.toList)
    | _ => false)
  | .ty n, .type m => decide (n = m)
  | _, _ => false
def zsOk (c : C) : List Z → List Value → Bool
  | [], [] => true
  | z :: zs, u :: us => zOk c z u && zsOk c zs us
  | _, _ => false
end
def eqO (a b : Option (Option Value)) : Bool := decide (a = b)
def glK (t : TX) (K : PySem.W.Frag) (x : Str) : GK → Bool
  | .fn k => eqO (PySem.W.nsIn K mainGlobals x) (some (some (.ref ((t.c K).fa k)))) && PySem.W.keepIn K (.ref ((t.c K).fa k))
  | .lam k => eqO (PySem.W.nsIn K mainGlobals x) (some (some (.ref ((t.c K).fa k)))) && PySem.W.keepIn K (.ref ((t.c K).fa k))
  | .val z => (match PySem.W.nsIn K mainGlobals x with
    | some (some u) => zOk (t.c K) z u
    | _ => false)
  | .ty n => eqO (PySem.W.nsIn K mainGlobals x) (some none) && decide (bootBuiltins x = some (.type n))
  | .bf b => eqO (PySem.W.nsIn K mainGlobals x) (some none) && decide (bootBuiltins x = some (.builtin (bnId b)))
  | .ex k => (match t.cl[k]? with
    | some q => eqO (PySem.W.nsIn K mainGlobals x) (some (some (.ref ((t.c K).ca k)))) && (PySem.W.keepIn K (.ref ((t.c K).ca k)) && (PySem.W.excIn K ((t.c K).ca k) q.2.bm q.2.new && (decide (PySem.W.subIn K (.ref ((t.c K).ca k)) (.type "BaseException") = some true) && decide (PySem.W.typeIn K (.ref ((t.c K).ca k)) = some (.type "type")))))
    | none => false)
  | .dct es => eqO (PySem.W.nsIn K mainGlobals x) (some (some (.ref (He.ga K x)))) && ((t.ds.any fun q => decide (q.1 = x)) && es.all fun q => match PySem.W.nsIn K (He.ga K x) ⟨q.1.toArray⟩ with
    | some (some u) => zOk (t.c K) q.2 u
    | _ => false)
  | .rng => eqO (PySem.W.nsIn K mainGlobals x) (some none)
def excCB (K : PySem.W.Frag) (D : Addr) : Bool := eqO (PySem.W.findIn K (.ref D) "__getattribute__") (some (some (.builtin "BaseException.__getattribute__"))) && (eqO (PySem.W.findIn K (.ref D) "__getattr__") (some none) && (decide (PySem.W.subIn K (.ref D) (.type "BaseException") = some true) && (PySem.W.hasDictIn K D &&
  (eqO (PySem.W.findIn K (.ref D) "__class__") (some (some (.builtin "object.__class__"))) && (eqO (PySem.W.specialIn K (.builtin "object.__class__") "__get__") (some (some (.builtin "getset_descriptor.__get__"))) && (decide (PySem.W.takesIn K (.builtin "object.__class__") = some true) && decide (PySem.W.mroIn K D (.type "object") = some true)))))))
def subK (t : TX) (K : PySem.W.Frag) (q : XC × XC × Bool) : Bool := decide (PySem.W.exmOne K (clsV (t.c K) q.1) (clsV (t.c K) q.2.1) = some q.2.2) && (match q.1 with
  | .own j => decide (PySem.W.kitOne K (.ref ((t.c K).ca j)) (clsV (t.c K) q.2.1) = some q.2.2) && excCB K ((t.c K).ca j)
  | _ => true)
def exB (t : TX) (K : PySem.W.Frag) : Bool := (t.T.gl.all fun q => glK t K q.1 q.2) && (eqO (PySem.W.nsIn K mainGlobals "isinstance") (some none) && (t.subL.all (subK t K) && ((t.c K).T.all fun p => (t.c K).T.all fun q => !decide (p.1 = q.1) || decide (p.2 = q.2))))
def TX.tabs (t : TX) : List He.Tab := t.ds.map fun q => ((fun K => He.ga K q.1), q.2)
def TX.tf (t : TX) : List He.Defn := t.lms.map (·.d.at_)
def TX.fn (t : TX) : List He.DefD := t.fs.map (·.d)
section
variable {c : C}
mutual
theorem zOk_ok : ∀ {z : Z} {u : Value}, zOk c z u = true → ∃ v, RelV v u ∧ ∀ ρ H, RZ c ρ H z v := by
  intro z u h
  cases z with
  | non => cases u <;> first | (exact ⟨.non, rfl, fun ρ H => by unfold RZ; rfl⟩) | (unfold zOk at h; cases h)
  | bl b =>
    cases u <;> (unfold zOk at h) <;> (try cases h; done)
    rename_i d
    obtain rfl := eq_of_beq h
    exact ⟨.bl b, rfl, fun ρ H => by unfold RZ; rfl⟩
  | int i =>
    cases u <;> (unfold zOk at h) <;> (try cases h; done)
    rename_i j tk
    obtain rfl := of_decide_eq_true h
    exact ⟨.int i, ⟨tk, rfl⟩, fun ρ H => by unfold RZ; rfl⟩
  | str x =>
    cases u <;> (unfold zOk at h) <;> (try cases h; done)
    rename_i y tk
    obtain ⟨h1, h2⟩ := Zy.ba h
    obtain rfl := of_decide_eq_true h1
    have h3 := of_decide_eq_true h2
    refine ⟨.str y, ⟨tk, rfl⟩, fun ρ H => ?_⟩
    unfold RZ
    refine ⟨by rw [sizeLine_eq]; omega, ?_⟩
    cases y; simp
  | tup xs =>
    cases u <;> (unfold zOk at h) <;> (try cases h; done)
    rename_i a
    split at h
    · rename_i n od its k sl e
      obtain ⟨h1, h2⟩ := Zy.ba h
      obtain ⟨h3, h4⟩ := Zy.ba h2
      obtain rfl := of_decide_eq_true h1
      obtain ⟨vs, g1, g2⟩ := zsOk_ok h4
      refine ⟨.ref a, rfl, fun ρ H => ?_⟩
      unfold RZ
      exact ⟨a, vs, rfl, .inr ⟨_, its, _, e, rfl, rfl, of_decide_eq_true h3, g1⟩, g2 ρ H⟩
    · cases h
  | rol xs =>
    cases u <;> (unfold zOk at h) <;> (try cases h; done)
    rename_i a
    split at h
    · rename_i n its k sl e
      obtain ⟨h1, h2⟩ := Zy.ba h
      obtain ⟨h3, h4⟩ := Zy.ba h2
      obtain rfl := of_decide_eq_true h1
      obtain ⟨vs, g1, g2⟩ := zsOk_ok h4
      refine ⟨.ref a, rfl, fun ρ H => ?_⟩
      unfold RZ
      exact ⟨a, vs, rfl, .inr ⟨_, its, _, e, rfl, rfl, rfl, of_decide_eq_true h3, g1⟩, g2 ρ H⟩
    · cases h
  | ty n =>
    cases u <;> (unfold zOk at h) <;> (try cases h; done)
    rename_i m
    obtain rfl := of_decide_eq_true h
    exact ⟨.ty n, rfl, fun ρ H => by unfold RZ; rfl⟩
  | _ => cases u <;> (unfold zOk at h) <;> cases h
theorem zsOk_ok : ∀ {zs : List Z} {us : List Value}, zsOk c zs us = true → ∃ vs, Vals vs us ∧ ∀ ρ H, RZs c ρ H zs vs
  | [], [], h => ⟨[], .nil, fun _ _ => .nil⟩
  | [], _ :: _, h => by unfold zsOk at h; cases h
  | _ :: _, [], h => by unfold zsOk at h; cases h
  | z :: zs, u :: us, h => by
    unfold zsOk at h
    obtain ⟨h1, h2⟩ := Zy.ba h
    obtain ⟨v, g1, g2⟩ := zOk_ok h1
    obtain ⟨vs, g3, g4⟩ := zsOk_ok h2
    exact ⟨v :: vs, .cons g1 g3, fun ρ H => .cons (g2 ρ H) (g4 ρ H)⟩
end
end
theorem eqO_ok {a b : Option (Option Value)} (h : eqO a b = true) : a = b := of_decide_eq_true h
theorem excCB_ok {K : PySem.W.Frag} {D : Addr} (h : excCB K D = true) : ExcC K D := by
  unfold excCB at h
  obtain ⟨h1, h⟩ := Zy.ba h
  obtain ⟨h2, h⟩ := Zy.ba h
  obtain ⟨h3, h⟩ := Zy.ba h
  obtain ⟨h4, h⟩ := Zy.ba h
  obtain ⟨h5, h⟩ := Zy.ba h
  obtain ⟨h6, h⟩ := Zy.ba h
  obtain ⟨h7, h8⟩ := Zy.ba h
  exact ⟨eqO_ok h1, eqO_ok h2, of_decide_eq_true h3, h4, eqO_ok h5, eqO_ok h6, of_decide_eq_true h7, of_decide_eq_true h8⟩
theorem lookup_memN : ∀ {es : List (List Nat × Z)} {y : List Nat} {z : Z}, es.lookup y = some z → (y, z) ∈ es
  | [], y, z, h => by cases h
  | (a, b) :: r, y, z, h => by
    rw [List.lookup_cons] at h
    cases q : y == a with
    | true => rw [q] at h; cases h; rw [eq_of_beq q]; exact List.mem_cons_self
    | false => rw [q] at h; exact List.mem_cons_of_mem _ (lookup_memN h)
section
variable {t : TX} {P : Program} {w : World} {K : PySem.W.Frag} {mg : Str → Option Value} {base h : Heap} {fa : List He.Fa}
theorem glK_ok (Kb : K.In base) (G : base.Ns mainGlobals mg) (c : He.SaysT fa t.fn t.tabs w K) {D : Dy} {X : Cx} (hX : CxIs X P w K mg base) {x : Str} {g : GK} (e : glK t K x g = true) : GlS ((t.c K).at_ D) X x g := by
  obtain ⟨e1, e2, e3, e4, e5⟩ := hX
  subst e1 e2 e3 e4 e5
  cases g with
  | fn k =>
    obtain ⟨h1, h2⟩ := Zy.ba e
    exact ⟨PySem.W.mg_of Kb G (eqO_ok h1), h2⟩
  | lam k =>
    obtain ⟨h1, h2⟩ := Zy.ba e
    exact ⟨PySem.W.mg_of Kb G (eqO_ok h1), h2⟩
  | val z =>
    simp only [glK] at e
    split at e
    · rename_i u q
      obtain ⟨v, g1, g2⟩ := zOk_ok e
      exact ⟨u, v, PySem.W.mg_of Kb G q, g1, fun ρ H => (g2 ρ H).xa⟩
    · cases e
  | ty n =>
    obtain ⟨h1, h2⟩ := Zy.ba e
    exact ⟨PySem.W.mg_none_of Kb G (eqO_ok h1), of_decide_eq_true h2⟩
  | bf b =>
    obtain ⟨h1, h2⟩ := Zy.ba e
    exact ⟨PySem.W.mg_none_of Kb G (eqO_ok h1), of_decide_eq_true h2⟩
  | ex k =>
    simp only [glK] at e
    split at e
    · rename_i q hq
      obtain ⟨h1, h2⟩ := Zy.ba e
      obtain ⟨h3, h4⟩ := Zy.ba h2
      obtain ⟨h5, h6⟩ := Zy.ba h4
      obtain ⟨h7, h8⟩ := Zy.ba h6
      obtain ⟨B, i, F⟩ := q.2.facts
      exact ⟨PySem.W.mg_of Kb G (eqO_ok h1), h3, raises_own (of_decide_eq_true h7) (of_decide_eq_true h8), _, B, _, i, F, h5⟩
    · cases e
  | dct es =>
    obtain ⟨h1, h2⟩ := Zy.ba e
    obtain ⟨h3, h4⟩ := Zy.ba h2
    obtain ⟨q, hq, hqx⟩ := List.any_eq_true.mp h3
    obtain rfl := of_decide_eq_true hqx
    obtain ⟨i, hi⟩ := List.mem_iff_getElem?.mp hq
    obtain ⟨es', n, KD⟩ := c.tab i (t := ((fun K => He.ga K q.1), q.2)) (by unfold TX.tabs; rw [List.getElem?_map, hi]; rfl)
    refine ⟨He.ga X.K q.1, PySem.W.mg_of Kb G (eqO_ok h1), fun y z hyz => ?_⟩
    have h5 := List.all_eq_true.mp h4 _ (lookup_memN hyz)
    simp only at h5
    split at h5
    · rename_i u hu
      obtain ⟨v, g1, g2⟩ := zOk_ok h5
      exact ⟨v, ⟨es', n, u, KD.at_, KD.lit, hu, g1⟩, fun ρ H => (g2 ρ H).xa⟩
    · cases h5
  | rng => exact PySem.W.mg_none_of Kb G (eqO_ok e)
theorem tx_of (Kb : K.In base) (G : base.Ns mainGlobals mg) (c : He.SaysX fa t.fn t.tabs t.tf (exB t) w h K) (hT : ∀ p ∈ t.tf.map (He.cT K), LamX.TabB base mg p.1 p.2) (hd : ∀ f ∈ t.fs, f.d.dfl.length = 0 ∧ f.d.kwd.length = 0) : Tx t.T t.sub t.fs (t.c K) P w K mg base := by
  have hx := c.more
  unfold exB at hx
  obtain ⟨x1, x2⟩ := Zy.ba hx
  obtain ⟨x3, x4⟩ := Zy.ba x2
  obtain ⟨x5, x6⟩ := Zy.ba x4
  have fat : ∀ (k : Nat) f, t.fs[k]? = some f → (t.c K).fa k = He.fAd K f.d.at_ := fun k f hk => by
    show He.fAd K (t.at_ k) = _
    unfold TX.at_
    rw [hk]
  refine ⟨rfl, fun D X hX j x g hj => glK_ok Kb G c.t hX (List.all_eq_true.mp x1 _ (List.mem_of_getElem? hj)), PySem.W.mg_none_of Kb G (eqO_ok x3), fun a b r hab => ?_, fun k f hk => ?_, fun k f hk hl oc od fd osl lk => ?_⟩
  · unfold TX.sub at hab
    obtain ⟨q, hq, rfl⟩ := Option.map_eq_some_iff.mp hab
    have hm := List.mem_of_find?_eq_some hq
    have hp := List.find?_some hq
    obtain ⟨p1, p2⟩ := Zy.ba hp
    obtain rfl := of_decide_eq_true p1
    obtain rfl := of_decide_eq_true p2
    have hk := List.all_eq_true.mp x5 _ hm
    unfold subK at hk
    obtain ⟨k1, k2⟩ := Zy.ba hk
    refine ⟨of_decide_eq_true k1, fun j hj => ?_⟩
    rw [hj] at k2
    obtain ⟨k3, k4⟩ := Zy.ba k2
    exact ⟨of_decide_eq_true k3, excCB_ok k4⟩
  · have hm : f ∈ t.fs := List.mem_of_getElem? hk
    obtain ⟨d1, d2⟩ := hd f hm
    obtain ⟨fd, F⟩ := c.t.d.def_ k (d := f.d) (by unfold TX.fn; rw [List.getElem?_map, hk]; rfl)
    refine ⟨fd, ?_⟩
    rw [fat k f hk]
    have e1 : f.d.dvs K = [] := by unfold He.DefD.dvs; rw [List.length_eq_zero_iff.mp d1]; rfl
    have e2 : f.d.kws K = [] := by unfold He.DefD.kws; rw [List.length_eq_zero_iff.mp d2]; rfl
    rw [e1, e2] at F
    exact F
  · have hm : f ∈ t.fs := List.mem_of_getElem? hk
    obtain ⟨fd', F⟩ := c.t.d.def_ k (d := f.d) (by unfold TX.fn; rw [List.getElem?_map, hk]; rfl)
    obtain ⟨oc', od', dV, kV, doc, pm, an, cdv, ct, osl', rfl, lk', hcd, _, _⟩ := F.ex
    rw [fat k f hk, lk'] at lk
    cases lk
    obtain ⟨cd, rfl⟩ := He.codeIn_ref hcd
    have hco := He.codeOf_eq lk' (c := cd) rfl
    have hlm : f ∈ t.lms := List.mem_filter.mpr ⟨hm, hl⟩
    have hcT : He.cT K f.d.at_ = (cd, He.tabOf K cd) := by unfold He.cT; rw [hco]
    have hmT : ((He.cT K f.d.at_).2, f.d.qual ++ ".<locals>." ++ "<lambda>") ∈ (t.c K).T := List.mem_map.mpr ⟨f, hlm, rfl⟩
    refine ⟨cd, He.tabOf K cd, rfl, ?_, ?_, fun p hp e => ?_⟩
    · have := hT (He.cT K f.d.at_) (List.mem_map.mpr ⟨f.d.at_, List.mem_map.mpr ⟨f, hlm, rfl⟩, rfl⟩)
      rw [hcT] at this
      exact this
    · rw [hcT] at hmT; exact hmT
    · have h1 := List.all_eq_true.mp (List.all_eq_true.mp x6 p hp) _ hmT
      rw [hcT] at h1
      rw [Bool.or_eq_true] at h1
      rcases h1 with h1 | h1
      · rw [e] at h1; simp at h1
      · exact of_decide_eq_true h1
end
end Zy
end
section
set_option Elab.async false
set_option linter.all false
set_option maxRecDepth 100000
set_option maxHeartbeats 4000000
set_option autoImplicit false
/-! the law's end -/
namespace Zy
open PySem PySem.Spec PyProof.Rows L2
section
variable {T : Tb} {sub : XC → XC → Option Bool} {fs : List Fd} {c : C} {P : Program} {w : World} {K : PySem.W.Frag} {mg : Str → Option Value} {base : Heap}
/-- the law's def, however it is bound -/
theorem law_ok (tx : Tx T sub fs c P w K mg base) (hB : ∀ f ∈ fs, fdB T f = true) (hb : ∀ f ∈ fs, Bd f) {d k : Nat} {f : Fd} (hk : fs[k]? = some f) (hact : f.act = false) (hst : f.star = false) {fd : FuncData} (F : FunD K f.d.name f.d.qual f.d.params f.d.body f.d.scope [] [] (c.fa k) fd) :
    FnOk P w K mg base (L2.CX P w) (d + 3) (c.fa k) fd f.ps (spR (c.at_ c.dy) ((callD T sub fs (d + 3)).cf k)) := by
  have IH := callD_ok tx hB hb (d + 2)
  have IL := callD_ok tx hB hb d
  have IL' : ∀ d', d + 2 = d' + 2 → ∀ k D, FnR P w K mg base (L2.CX P w) d' (c.fa k) (spR (c.at_ D) ((callD T sub fs d).cf k)) := fun d' h k D => by
    obtain rfl : d' = d := by omega
    exact IL.1 k D
  have hm : f ∈ fs := List.mem_of_getElem? hk
  have hBf := hB f hm
  have hbf := hb f hm
  have hBf' := hBf
  unfold fdB at hBf'
  obtain ⟨b1, b2⟩ := Zy.ba hBf'
  obtain ⟨b3, b4⟩ := Zy.ba b2
  have S := C8.fnScope_by b1
  have e3 := of_decide_eq_true b3
  obtain ⟨oc, od, dV, kV, doc, pm, an, cdv, ct, osl, rfl, lk, hcd, hD, _⟩ := F.ex
  obtain rfl : dV = .none := by
    rcases hD with ⟨_, h⟩ | ⟨h, _⟩
    · exact h
    · exact absurd rfl h
  have bd := hbf kV doc pm an cdv ct
  rw [hst] at bd S
  have e : (callD T sub fs (d + 3)).cf k = dFun T f (mkRt sub (d + 2) (callD T sub fs (d + 2)) (callD T sub fs d)) := by
    show (stepD T sub fs (d + 2) (callD T sub fs (d + 2)) (callD T sub fs d)).cf k = _
    unfold stepD
    simp only [hk, hact, Bool.false_eq_true, if_false]
  rw [e]
  exact fn_of (CX := L2.CX P w) (P := P) (w := w) (mg := mg) (base := base) (N := f.N) (ps := f.ps) (k := d + 2) lk hcd S
    (fun vs H Q E ⟨ρ, G, zs, R, rz, q⟩ => by
      unfold dFun at q
      rw [hst] at q
      simp only [Bool.false_eq_true, if_false] at q
      split at q
      · rename_i hl; rw [← rz.length, hl, e3]
      · exact q.elim)
    (fun A outer s H vs Q E hr ⟨ρ, G, zs, R, rz, q⟩ => by
      refine ⟨_, body_ok tx hk (th := fun _ => .bad) IH IL' (by omega) hBf lk c.dy hr (fun h => by rw [hact] at h; cases h), ρ, G, stL f.N.length zs, R, stL_rel f.N rfl rz, ?_⟩
      unfold dFun at q
      rw [hst] at q
      simp only [Bool.false_eq_true, if_false] at q
      split at q
      · exact fin_rs q
      · exact q.elim)
end
theorem Bd.plain {f : Fd} (n : Nat) (hs : f.star = false) (hn : f.np = n) (h : ∀ (kV doc pm : Value) (an : Option Addr) (cdv ct : Value) (us : List Value), us.length = n → bindArgs (PySem.W.fnOf f.d.name f.d.qual f.d.params f.d.body f.d.scope .none kV doc pm an cdv ct) ⟨us, []⟩ = pure (f.ps.zip us)) : Bd f := by
  intro kV doc pm an cdv ct
  rw [hs]
  intro us hl
  exact h kV doc pm an cdv ct us (by rw [hl, hn])
theorem Bd.star {f : Fd} (n : Nat) (hs : f.star = true) (hn : f.np = n) (h : ∀ (kV doc pm : Value) (an : Option Addr) (cdv ct : Value) (us rest : List Value), us.length = n → bindArgs (PySem.W.fnOf f.d.name f.d.qual f.d.params f.d.body f.d.scope .none kV doc pm an cdv ct) ⟨us ++ rest, []⟩ = (newTuple rest >>= fun t => pure (f.ps.zip us ++ [(f.pv, t)]))) : Bd f := by
  intro kV doc pm an cdv ct
  rw [hs]
  intro us rest hl
  exact h kV doc pm an cdv ct us rest (by rw [hl, hn])
theorem binds_z {K : PySem.W.Frag} {f : Fd} {a : Addr} {fd : FuncData} (hbf : Bd f) (hst : f.star = false) (F : FunD K f.d.name f.d.qual f.d.params f.d.body f.d.scope [] [] a fd) (s : Shared) (us : List Value) (hl : us.length = f.np) : BindsTo s fd ⟨us, []⟩ (f.ps.zip us) := by
  obtain ⟨oc, od, dV, kV, doc, pm, an, cdv, ct, osl, rfl, lk, hcd, hD, _⟩ := F.ex
  obtain rfl : dV = .none := by
    rcases hD with ⟨_, h⟩ | ⟨h, _⟩
    · exact h
    · exact absurd rfl h
  have bd := hbf kV doc pm an cdv ct
  rw [hst] at bd
  exact .of_eq (bd us hl)
/-! ### the script, locked -/
section
variable {P : Program} {w : World} {K : PySem.W.Frag} {mg : Str → Option Value} {base : Heap} {A : Around} {outer : List Env} {s : Shared} {H : Hp}
theorem env0_frz (e0 : Env0 P w K mg base A outer s H) {a : Addr} {xs : List V} (h : H a = some (.lst xs)) : ∃ o, Env0 P w K mg base A outer s (upd H a (.frz o (.lst xs))) := by
  have ok := e0.hok a _ h
  obtain ⟨hz, its, n, rv, ho⟩ := id ok
  have keepT : ∀ b ys, H b = some (.tup ys) → upd H a (.frz ({ cls := .type "list", data := .seq its.toArray n } : Obj) (.lst xs)) b = some (.tup ys) := fun b ys e => by
    rw [upd_ne (fun z => by rw [z, h] at e; cases e)]; exact e
  have keepO : ∀ b y, H b = some (.own y) → upd H a (.frz ({ cls := .type "list", data := .seq its.toArray n } : Obj) (.lst xs)) b = some (.own y) := fun b y e => by
    rw [upd_ne (fun z => by rw [z, h] at e; cases e)]; exact e
  refine ⟨{ cls := .type "list", data := .seq its.toArray n }, e0.frames, e0.mod, fun b o e => ⟨(e0.bs b o e).1, ?_⟩, e0.bsz, e0.funs, fun b hb => ?_, fun b o e => ?_, e0.bare⟩
  · rw [upd_ne (fun z => by have := (e0.bs b o e).2; rw [z, h] at this; cases this)]; exact (e0.bs b o e).2
  · rw [upd_ne (fun z => by have := e0.frf b hb; rw [z, h] at this; cases this)]; exact e0.frf b hb
  · by_cases hb : b = a
    · subst hb
      rw [upd_same] at e; cases e
      exact ⟨ho, hz, its, n, rv, ho⟩
    · rw [upd_ne hb] at e
      exact (e0.hok b o e).stay (fun _ _ _ q => q) (fun c q => keepO c _ q) keepT
theorem un_frz {H' : Hp} {fs : List Addr} {h h' : Heap} {a : Addr} {xs : List V} {o : Obj} (e : H a = some (.lst xs)) (u : Un fs [] (upd H a (.frz o (.lst xs))) H' h h') : Un fs [] H H' h h' := by
  have nn : ∀ {b : Addr}, H b = none → upd H a (.frz o (.lst xs)) b = none := fun {b} n => by rw [upd_ne (fun z => by rw [z, e] at n; cases n)]; exact n
  have nt : ∀ {b : Addr} {u : HO}, H b = some u → (∀ ys, u ≠ .lst ys) → upd H a (.frz o (.lst xs)) b = some u := fun {b u} n h => by rw [upd_ne (fun z => by rw [z, e] at n; cases n; exact h _ rfl)]; exact n
  exact ⟨fun b q e1 n => u.keep b q e1 (nn n), fun b q e1 n => u.slot b q e1 (nn n), fun b q e1 n => u.free b q e1 (nn n), u.there, fun b ys q => u.tups b ys (nt q fun _ z => nomatch z), fun b q v e1 => u.frzs b q v (nt e1 fun _ z => nomatch z), fun b ps q => u.tbls b ps (nt q fun _ z => nomatch z)⟩
/-- what the law's def is asked -/
def spLaw (c : C) (n : Nat) : Sp := fun vs H Q E => ∃ (a : Addr) (ns : List Int), vs = [.ref a] ∧ ns.length ≤ n ∧ (∀ z ∈ ns, Builtin.Int.intBits z ≤ 1048576) ∧ SqL c.K H a (ns.map V.int) ∧ LamX.Tabs c.T H ∧ Q = (fun v _ => v = .bl true) ∧ E = fun _ _ _ => False
theorem ints_rz {c : C} {ρ : List Addr} {H : Hp} : ∀ ns : List Int, RZs c ρ H (ns.map .int) (ns.map V.int)
  | [] => .nil
  | i :: r => .cons rz_int (ints_rz r)
theorem law_sp {c : C} {d n : Nat} {f : Addr} {fd : FuncData} {x : Str} {g : List Z → GH → R Z} (hdy : c.dy = {}) (F : FnOk P w K mg base (L2.CX P w) d f fd [x] (spR (c.at_ c.dy) g)) (plain : ∀ ns : List Int, ns.length ≤ n → (∀ z ∈ ns, Builtin.Int.intBits z ≤ 1048576) → ∃ G, g [.rol (ns.map .int)] [] = .ok (.bl true) G) :
    FnOk P w K mg base (L2.CX P w) d f fd [x] (spLaw c n) := by
  refine ⟨fun vs H Q E ⟨a, ns, e, _⟩ => by rw [e]; rfl, fun A outer s H args us vs Q E hr e0 hb r hsp => ?_⟩
  obtain ⟨a, ns, rfl, hl, hbits, hS, hT, rfl, rfl⟩ := hsp
  obtain ⟨G, hG⟩ := plain ns hl hbits
  -- from a heap in which the list is read
  have core : ∀ H2 : Hp, Env0 P w K mg base A outer s H2 → RoL c H2 a (ns.map V.int) → LamX.Tabs c.T H2 → codeAny (model P w) A (.call (.ref f) args) (CR (L2.CX P w) outer P w H2 s (fun v _ => v = .bl true) fun _ _ _ => False) s := fun H2 e2 ro t2 => by
    refine F.run A outer s H2 args us [.ref a] _ _ hr e2 hb r ⟨[], [], [.rol (ns.map .int)], ⟨List.nodup_nil, rfl, (fun m b o h => by simp at h), t2, (fun m hm => by
      have hm' : c.dy.xp = some m := hm
      rw [hdy] at hm'; exact nomatch hm'), ?_⟩, ?_, ?_⟩
    · show c.dy.inv [] H2
      rw [hdy]; trivial
    · refine .cons ?_ .nil
      unfold RZ
      exact ⟨a, _, rfl, ro, ints_rz ns⟩
    · rw [hG]
      exact fun ρ' H' v e R rz => un_bl rz
  rcases hS with (hS | ⟨o, hS⟩) | hS
  · obtain ⟨o, e2⟩ := env0_frz e0 hS
    refine codeAny_mono (core _ e2 (.inl ⟨o, upd_same⟩) (tabs_put hT hS (fun _ z => nomatch z) fun _ _ z => by unfold LamX.CodeO at z; cases z)) fun r s' h => ?_
    cases r with
    | error e =>
      obtain ⟨_, _, _, _, _, _, _, _, _, _, _, _, z⟩ := h
      exact z.elim
    | ok fl =>
      cases fl with
      | ret u =>
        obtain ⟨v, H', h1, h2, h3, h4, h5, h6⟩ := h
        exact ⟨v, H', h1, h2, un_frz hS h3, h4, h5, h6⟩
      | next => exact h
      | brk => exact h
      | cont => exact h
  · exact core H e0 (.inl ⟨o, hS⟩) hT
  · exact core H e0 (.inr hS) hT
end
/-- the law's promise, at the head's heap -/
theorem lawAt {l : PySem.W.OpenLaw} {t : TX} {w : World} {K : PySem.W.Frag} {mg : Str → Option Value} {h : Heap} {fa : Addr} {fas : List He.Fa} {k d : Nat} {f : Fd} (KX : K.In h) (G : h.Ns mainGlobals mg) (c : He.SaysX fas t.fn t.tabs t.tf (exB t) w h K) (hfa : mg "law" = some (.ref fa))
    (hd : ∀ f ∈ t.fs, f.d.dfl.length = 0 ∧ f.d.kwd.length = 0) (hB : ∀ f ∈ t.fs, fdB t.T f = true) (hb : ∀ f ∈ t.fs, Bd f) (hk : t.fs[k]? = some f) (hat : f.d.at_ = (("law" : Str), none)) (hglo : (He.Fa.glo "law") ∈ fas) (hact : f.act = false) (hst : f.star = false) (hps : f.ps = [("script" : Str)]) (hnp : f.np = 1)
    (plain : ∀ ns : List Int, ns.length ≤ 63 → (∀ z ∈ ns, Builtin.Int.intBits z ≤ 1048576) → ∃ G, (callD t.T t.sub t.fs (d + 3)).cf k [.rol (ns.map .int)] [] = .ok (.bl true) G) : LamX.LawAtS l w K (L2.CX l.prog w) (d + 3) 63 "script" mg fa h := by
  have efa : (t.c K).fa k = fa := by
    show He.fAd K (t.at_ k) = fa
    unfold TX.at_
    rw [hk]
    show He.fAd K f.d.at_ = fa
    rw [hat]
    have := hfa.symm.trans (He.glo_ok KX G (c.t.d.facts hglo))
    cases this
    rfl
  -- the def's object: the same over every base
  obtain ⟨fd0, F0⟩ := c.t.d.def_ k (d := f.d) (by unfold TX.fn; rw [List.getElem?_map, hk]; rfl)
  have hm : f ∈ t.fs := List.mem_of_getElem? hk
  obtain ⟨d1, d2⟩ := hd f hm
  have F1 : FunD K f.d.name f.d.qual f.d.params f.d.body f.d.scope [] [] ((t.c K).fa k) fd0 := by
    have e1 : f.d.dvs K = [] := by unfold He.DefD.dvs; rw [List.length_eq_zero_iff.mp d1]; rfl
    have e2 : f.d.kws K = [] := by unfold He.DefD.kws; rw [List.length_eq_zero_iff.mp d2]; rfl
    rw [e1, e2] at F0
    have e3 : (t.c K).fa k = He.fAd K f.d.at_ := by
      show He.fAd K (t.at_ k) = _
      unfold TX.at_
      rw [hk]
    rw [e3]
    exact F0
  have main : ∀ base : Heap, K.In base → base.Ns mainGlobals mg → (∀ p ∈ t.tf.map (He.cT K), LamX.TabB base mg p.1 p.2) → FnOk l.prog w K mg base (L2.CX l.prog w) (d + 3) fa fd0 ["script"] (spLaw (t.c K) 63) := fun base Kb Gb hT => by
    have q := law_ok (d := d) (tx_of (P := l.prog) (w := w) Kb Gb c hT hd) hB hb hk hact hst F1
    rw [efa, hps] at q
    exact law_sp rfl q plain
  refine ⟨fd0, t.tf.map (He.cT K), spLaw (t.c K) 63, fun p hp => ?_, fun p hp => ?_, fun p hp => ?_, fun s u => ?_, fun H a ns hl hbits hH hS => ?_, main⟩
  · obtain ⟨q, hq, rfl⟩ := List.mem_map.mp hp
    exact c.empty q hq
  · obtain ⟨q, hq, rfl⟩ := List.mem_map.mp hp
    exact c.out q hq
  · obtain ⟨q, hq, rfl⟩ := List.mem_map.mp hp
    exact PySem.W.codeHd_of_K KX (c.hd q hq)
  · have := binds_z (hb f hm) hst F1 s [u] (by rw [hnp]; rfl)
    rw [hps] at this
    exact this
  · refine ⟨a, ns, rfl, hl, hbits, hS, fun p hp => ?_, rfl, rfl⟩
    obtain ⟨g, hg, rfl⟩ := List.mem_map.mp hp
    refine LamX.TabS.nil (hH _ (List.mem_map.mpr ⟨g.d.at_, List.mem_map.mpr ⟨g, hg, rfl⟩, rfl⟩))
end Zy
end
section
set_option Elab.async false
set_option linter.all false
set_option maxRecDepth 100000
set_option maxHeartbeats 4000000
set_option autoImplicit false
/-! rewriting meanings -/
namespace Zy
open PySem L2
section
variable {l : L} {G : GH} {a b c : DE} {ta tb : DT} {as bs : DA}
@[simp] theorem dC_ap {z : Z} : dC z l G = .ok z G := rfl
@[simp] theorem dBin_ap {op : Operator} : dBin op a b l G = (a l G).bind fun x G1 => (b l G1).bind fun y G2 => zBin op x y G2 := rfl
@[simp] theorem dCmp_ap {op : CmpOp} : dCmp op a b l G = (a l G).bind fun x G1 => (b l G1).bind fun y G2 => zCmp op x y G2 := rfl
@[simp] theorem dChn_ap {o1 o2 : CmpOp} : dChn o1 o2 a b c l G = (a l G).bind fun x G1 => (b l G1).bind fun y G2 => (zCmp o1 x y G2).bind fun r G3 => match r with
  | .bl true => (c l G3).bind fun z G4 => zCmp o2 y z G4
  | .bl false => .ok (.bl false) G3
  | _ => .bad := rfl
@[simp] theorem dNeg_ap : dNeg a l G = (a l G).bind zNeg := rfl
@[simp] theorem dNot_ap : dNot a l G = (a l G).bind fun x G1 => truD x G1 fun b => .ok (.bl (!b)) G1 := rfl
@[simp] theorem dAnd_ap : dAnd a b l G = (a l G).bind fun x G1 => truD x G1 fun t => if t then b l G1 else .ok x G1 := rfl
@[simp] theorem dOr_ap : dOr a b l G = (a l G).bind fun x G1 => truD x G1 fun t => if t then .ok x G1 else b l G1 := rfl
@[simp] theorem dTru_ap : dTru a l G = (a l G).bind fun x G1 => truD x G1 fun b => .ok b G1 := rfl
@[simp] theorem uAnd_ap : uAnd ta tb l G = (ta l G).bind fun t G1 => if t then tb l G1 else .ok false G1 := rfl
@[simp] theorem uOr_ap : uOr ta tb l G = (ta l G).bind fun t G1 => if t then .ok true G1 else tb l G1 := rfl
@[simp] theorem uNot_ap : uNot ta l G = (ta l G).bind fun t G1 => .ok (!t) G1 := rfl
@[simp] theorem uB_ap : uB a l G = (a l G).bind fun x G1 => match x with
  | .bl b => .ok b G1
  | _ => .bad := rfl
@[simp] theorem dIf_ap : dIf ta a b l G = (ta l G).bind fun k G1 => if k then a l G1 else b l G1 := rfl
@[simp] theorem dNil_ap : dNil l G = .ok [] G := rfl
@[simp] theorem dCons_ap : dCons a as l G = (a l G).bind fun x G1 => (as l G1).bind fun xs G2 => .ok (x :: xs) G2 := rfl
@[simp] theorem dTup_ap : dTup as l G = (as l G).bind fun xs G1 => if xs.length ≤ sizeLine then .ok (.tup xs) G1 else .bad := rfl
@[simp] theorem dLst_ap : dLst as l G = (as l G).bind fun xs G1 => if xs.length ≤ sizeLine then newO (.lst xs) G1 else .bad := rfl
@[simp] theorem dCall_ap {cf : CF} {k : Nat} : dCall cf k as l G = (as l G).bind fun xs G1 => cf k xs G1 := rfl
@[simp] theorem dFn_ap {f : List Z → GH → R Z} : dFn f as l G = (as l G).bind f := rfl
@[simp] theorem dIx_ap : dIx a b l G = (a l G).bind fun x G1 => (b l G1).bind fun y G2 => zIx x y G2 := rfl
@[simp] theorem dNoPart_ap : dNoPart l G = .ok none G := rfl
@[simp] theorem dPart_ap : dPart a l G = (a l G).bind fun x G1 => match x with
  | .int i => .ok (some i) G1
  | _ => .bad := rfl
@[simp] theorem dSlc_ap {lo hi : L → GH → R (Option Int)} : dSlc a lo hi l G = (a l G).bind fun x G1 => (lo l G1).bind fun i G2 => (hi l G2).bind fun j G3 => zSlc x i j G3 := rfl
@[simp] theorem dMth_ap {m : MF} {ts : List String} : dMth m ts a as l G = (a l G).bind fun x G1 => match recvT G1 x with
  | some T => if ts.contains T then (as l G1).bind fun xs G2 => m T x xs G2 else .bad
  | none => .bad := rfl
@[simp] theorem dWix_ap {es : List (List Nat × Z)} : dWix es a l G = (a l G).bind fun x G1 => match x with
  | .str y => match es.lookup y with
    | some z => .ok z G1
    | none => .bad
  | _ => .bad := rfl
@[simp] theorem dNewD_ap : dNewD l G = newO (.dK [] []) G := rfl
@[simp] theorem dIter_ap : dIter a l G = (a l G).bind fun x G1 => match toItr G1 x with
  | some it => .ok it G1
  | none => .bad := rfl
@[simp] theorem dRng1_ap : dRng1 as l G = (as l G).bind fun xs G1 => match xs with
  | [.int j] => if okR j then .ok (.pure (rngZ 0 j)) G1 else .bad
  | _ => .bad := rfl
@[simp] theorem dRng2_ap : dRng2 as l G = (as l G).bind fun xs G1 => match xs with
  | [.int i, .int j] => if okR i && okR j then .ok (.pure (rngZ i j)) G1 else .bad
  | _ => .bad := rfl
@[simp] theorem dYes_ap : dYes l G = .ok true G := rfl
@[simp] theorem dComp_ap {di : DI} {p : Pat} {t : DT} {e : DE} {own : List Nat} : dComp di p t e own l G = (di l G).bind fun it G1 => lcGo it p t e G1.length (wipeZ l own) it.len 0 (G1 ++ [.lst []]) := rfl
-- slots
theorem dVar_of {i : Nat} {z : Z} (h : l[i]? = some (some z)) (hz : z ≠ .ex) : dVar i l G = .ok z G := by
  unfold dVar
  split
  · rename_i e; rw [h] at e; cases e; exact absurd rfl hz
  · rename_i e; rw [h] at e; cases e; rfl
  · rename_i h1 h2; exact absurd h (h2 z)
@[simp] theorem dVar_int {i : Nat} {x : Int} {l0 : L} (h : l0[i]? = some (some (.int x))) : dVar i l0 G = .ok (.int x) G := dVar_of h (fun q => nomatch q)
@[simp] theorem newO_ap {z : ZO} : newO z G = .ok (.ref G.length) (G ++ [z]) := rfl
@[simp] theorem truD_bl {α : Type} {x : Bool} {f : Bool → R α} : truD (.bl x) G f = f x := rfl
@[simp] theorem truD_int {α : Type} {x : Int} {f : Bool → R α} : truD (.int x) G f = f (x != 0) := rfl
@[simp] theorem truD_non {α : Type} {f : Bool → R α} : truD .non G f = f false := rfl
@[simp] theorem truD_str {α : Type} {x : List Nat} {f : Bool → R α} : truD (.str x) G f = f (!x.isEmpty) := rfl
@[simp] theorem truD_tup {α : Type} {x : List Z} {f : Bool → R α} : truD (.tup x) G f = f (!x.isEmpty) := rfl
-- statements
variable {s1 s2 : DS} {g : DG}
@[simp] theorem dSeq_ap : dSeq s1 s2 l G = (s1 l G).seq s2 := rfl
@[simp] theorem seq_nx {f : DS} : (S.nx l G).seq f = f l G := rfl
@[simp] theorem seq_rt {f : DS} {z : Z} : (S.rt z G).seq f = .rt z G := rfl
@[simp] theorem seq_bk {f : DS} : (S.bk l G).seq f = .bk l G := rfl
@[simp] theorem seq_ct {f : DS} : (S.ct l G).seq f = .ct l G := rfl
@[simp] theorem seq_exc {f : DS} {x : XR} : (S.exc x l G).seq f = .exc x l G := rfl
@[simp] theorem seq_bad {f : DS} : S.bad.seq f = .bad := rfl
@[simp] theorem tgt_nx {f : DS} : (S.nx l G).tgt f = f l G := rfl
@[simp] theorem tgt_exc {f : DS} {x : XR} : (S.exc x l G).tgt f = .exc x l G := rfl
@[simp] theorem dRet_ap : dRet a l G = (a l G).st l fun z G1 => .rt z G1 := rfl
@[simp] theorem dRetN_ap : dRetN l G = .rt .non G := rfl
@[simp] theorem dExp_ap : dExp a l G = (a l G).st l fun _ G1 => .nx l G1 := rfl
@[simp] theorem dAsg_ap : dAsg g a l G = (a l G).st l fun z G1 => (g z l G1).tgt .nx := rfl
@[simp] theorem dIfS_ap : dIfS ta s1 s2 l G = (ta l G).st l fun k G1 => if k then s1 l G1 else s2 l G1 := rfl
@[simp] theorem dNop_ap : dNop l G = .nx l G := rfl
@[simp] theorem dBrk_ap : dBrk l G = .bk l G := rfl
@[simp] theorem dCnt_ap : dCnt l G = .ct l G := rfl
@[simp] theorem dPar_ap {i j : Nat} : dPar i j as l G = (as l G).st l fun xs G1 => match xs with
  | [x, y] => .nx ((l.set i (some x)).set j (some y)) G1
  | _ => .bad := rfl
@[simp] theorem dFor_ap {di : DI} {b : DS} : dFor di g b l G = (di l G).st l fun it G1 => forLoop it g b it.len 0 l G1 := rfl
@[simp] theorem dRaise_ap {k : Nat} : dRaise k l G = .exc ⟨.own k, none⟩ l G := rfl
@[simp] theorem dTry_ap {sub : XC → XC → Option Bool} {b : DS} {hs : List HZ} : dTry sub b hs l G = match b l G with
  | .exc x l G => dHs sub x l G hs
  | r => r := rfl
@[simp] theorem dgName_ap {i : Nat} {z : Z} : dgName i z l G = .nx (l.set i (some z)) G := rfl
@[simp] theorem dgTup_ap {n : Nat} {gs : DGs} {z : Z} : dgTup n gs z l G = match its G z with
  | some xs => if xs.length = n then gs xs l G else .bad
  | none => .bad := rfl
@[simp] theorem dgCons_ap {gs : DGs} {z : Z} {zs : List Z} : dgCons g gs (z :: zs) l G = (g z l G).tgt (gs zs) := rfl
@[simp] theorem dgNil_ap : dgNil [] l G = .nx l G := rfl
@[simp] theorem dgSub_ap {z : Z} : dgSub a b z l G = (a l G).st l fun x G1 => (b l G1).st l fun y G2 => match x, y with
  | .ref n, .int k => match lstAt G2 n with
    | some xs => match ixN xs.length k with
      | some j => .nx l (G2.set n (.lst (xs.set j z)))
      | none => .bad
    | none => .bad
  | _, _ => .bad := rfl
@[simp] theorem fin_rt {z : Z} : (S.rt z G).fin = .ok z G := rfl
@[simp] theorem fin_nx : (S.nx l G).fin = .ok .non G := rfl
@[simp] theorem fin_exc {x : XR} : (S.exc x l G).fin = .exc x G := rfl
@[simp] theorem on1_ap {f : Z → GH → R Z} {x : Z} : on1 f [x] G = f x G := rfl
@[simp] theorem on2_ap {f : Z → Z → GH → R Z} {x y : Z} : on2 f [x, y] G = f x y G := rfl
@[simp] theorem cmp_lt {i j : Int} : zCmp .Lt (.int i) (.int j) G = .ok (.bl (decide (i < j))) G := rfl
@[simp] theorem cmp_le {i j : Int} : zCmp .LtE (.int i) (.int j) G = .ok (.bl (decide (i ≤ j))) G := rfl
@[simp] theorem cmp_gt {i j : Int} : zCmp .Gt (.int i) (.int j) G = .ok (.bl (decide (j < i))) G := rfl
@[simp] theorem cmp_ge {i j : Int} : zCmp .GtE (.int i) (.int j) G = .ok (.bl (decide (j ≤ i))) G := rfl
@[simp] theorem cmp_eqi {i j : Int} : zCmp .Eq (.int i) (.int j) G = .ok (.bl (i == j)) G := rfl
@[simp] theorem cmp_nei {i j : Int} : zCmp .NotEq (.int i) (.int j) G = .ok (.bl (!(i == j))) G := rfl
@[simp] theorem cmp_eqs {i j : List Nat} : zCmp .Eq (.str i) (.str j) G = .ok (.bl (i == j)) G := rfl
@[simp] theorem cmp_nes {i j : List Nat} : zCmp .NotEq (.str i) (.str j) G = .ok (.bl (!(i == j))) G := rfl
@[simp] theorem bin_add {i j : Int} : zBin .Add (.int i) (.int j) G = .ok (.int (i + j)) G := rfl
@[simp] theorem bin_sub {i j : Int} : zBin .Sub (.int i) (.int j) G = .ok (.int (i - j)) G := rfl
theorem bin_mod {i j : Int} (h : j ≠ 0) : zBin .Mod (.int i) (.int j) G = .ok (.int (i.fmod j)) G := if_pos h
theorem bin_mul {i j : Int} (h : mulOk i j = true) : zBin .Mult (.int i) (.int j) G = .ok (.int (i * j)) G := if_pos h
theorem bin_div {i j : Int} (h : j ≠ 0) (h2 : j.natAbs < 1073741824) : zBin .FloorDiv (.int i) (.int j) G = .ok (.int (i.fdiv j)) G := if_pos (by simp [h, h2])
theorem mulOk_l {i j : Int} (h : i.natAbs < 2 ^ 64) : mulOk i j = true := by unfold mulOk; simp [h]
theorem mulOk_r {i j : Int} (h : j.natAbs < 2 ^ 64) : mulOk i j = true := by unfold mulOk; simp [h]
/-! ### walks over items that stand -/
theorem for_pure {g : DG} {body : DS} (xs : List Z) (P : Nat → L → GH → Prop) {l : L} {G : GH} (h0 : P 0 l G)
    (step : ∀ (i : Nat) z l G, xs[i]? = some z → P i l G → ∃ l1 G1 l2 G2, g z l G = .nx l1 G1 ∧ (body l1 G1 = .nx l2 G2 ∨ body l1 G1 = .ct l2 G2) ∧ P (i + 1) l2 G2) :
    ∃ l' G', forLoop (.pure xs) g body xs.length 0 l G = .nx l' G' ∧ P xs.length l' G' := by
  have key : ∀ (k i : Nat) (l : L) (G : GH), i + k = xs.length → P i l G → ∃ l' G', forLoop (.pure xs) g body k i l G = .nx l' G' ∧ P xs.length l' G' := by
    intro k
    induction k with
    | zero =>
      intro i l G hi hp
      refine ⟨l, G, ?_, by have : i = xs.length := by omega
                           rw [← this]; exact hp⟩
      unfold forLoop
      have : itNext (.pure xs) G i = some none := by show some xs[i]? = _; rw [List.getElem?_eq_none (by omega)]
      rw [this]
    | succ k ih =>
      intro i l G hi hp
      have hlt : i < xs.length := by omega
      have hz : xs[i]? = some xs[i] := List.getElem?_eq_getElem hlt
      obtain ⟨l1, G1, l2, G2, h1, h2, h3⟩ := step i _ l G hz hp
      obtain ⟨l', G', h4, h5⟩ := ih (i + 1) l2 G2 (by omega) h3
      refine ⟨l', G', ?_, h5⟩
      unfold forLoop
      have : itNext (.pure xs) G i = some (some xs[i]) := by show some xs[i]? = _; rw [hz]
      rw [this]
      simp only [h1]
      rcases h2 with h2 | h2 <;> rw [h2] <;> exact h4
  exact key xs.length 0 l G (by omega) h0
/-- a comprehension over items that stand, one name, no test -/
theorem lc_go {xs : List Z} {i : Nat} {e : DE} {l : L} {n : Nat} {G0 : GH} (P : Nat → List Z → GH → Prop)
    (step : ∀ (k : Nat) z acc G, xs[k]? = some z → P k acc G → lstAt G n = some acc → ∃ y G3, e (l.set i (some z)) G = .ok y G3 ∧ lstAt G3 n = some acc ∧ P (k + 1) (acc ++ [y]) (G3.set n (.lst (acc ++ [y]))))
    (hs : xs.length ≤ sizeLine) (h0 : P 0 [] G0) (hG : lstAt G0 n = some []) :
    ∃ acc G', lcGo (.pure xs) (.nm i) dYes e n l xs.length 0 G0 = .ok (.ref n) G' ∧ lstAt G' n = some acc ∧ acc.length = xs.length ∧ P xs.length acc G' := by
  have key : ∀ (k j : Nat) (acc : List Z) (G : GH), j + k = xs.length → acc.length = j → P j acc G → lstAt G n = some acc → ∃ acc' G', lcGo (.pure xs) (.nm i) dYes e n l k j G = .ok (.ref n) G' ∧ lstAt G' n = some acc' ∧ acc'.length = xs.length ∧ P xs.length acc' G' := by
    intro k
    induction k with
    | zero =>
      intro j acc G hj ha hp hl
      have hjx : j = xs.length := by omega
      refine ⟨acc, G, ?_, hl, by omega, by rw [← hjx]; exact hp⟩
      unfold lcGo
      have : itNext (.pure xs) G j = some none := by show some xs[j]? = _; rw [List.getElem?_eq_none (by omega)]
      rw [this]
    | succ k ih =>
      intro j acc G hj ha hp hl
      have hlt : j < xs.length := by omega
      have hz : xs[j]? = some xs[j] := List.getElem?_eq_getElem hlt
      obtain ⟨y, G3, h1, h2, h3⟩ := step j _ acc G hz hp hl
      obtain ⟨acc', G', h4, h5, h6, h7⟩ := ih (j + 1) (acc ++ [y]) _ (by omega) (by simp [ha]) h3 (by
        have q := lstAt_eq.mp h2
        refine lstAt_eq.mpr ?_
        rw [List.getElem?_set_self (List.getElem?_eq_some_iff.mp q).1])
      refine ⟨acc', G', ?_, h5, h6, h7⟩
      unfold lcGo
      have : itNext (.pure xs) G j = some (some xs[j]) := by show some xs[j]? = _; rw [hz]
      rw [this]
      simp only [patD, dYes_ap, h1, h2]
      rw [if_pos (by omega)]
      exact h4
  exact key xs.length 0 [] G0 (by omega) rfl h0 hG
theorem lstAt_new {G : GH} {xs : List Z} : lstAt (G ++ [.lst xs]) G.length = some xs := lstAt_eq.mpr (by simp)
theorem lstAt_app {G E : GH} {n : Nat} {xs : List Z} (h : lstAt G n = some xs) : lstAt (G ++ E) n = some xs := by
  have q := lstAt_eq.mp h
  exact lstAt_eq.mpr (by rw [List.getElem?_append_left (List.getElem?_eq_some_iff.mp q).1]; exact q)
theorem set_new {G : GH} {x y : ZO} : (G ++ [x]).set G.length y = G ++ [y] := by
  rw [List.set_append_right _ _ (Nat.le_refl _)]; simp
theorem set_app {G E : GH} {n : Nat} {y : ZO} (h : G.length ≤ n) : (G ++ E).set n y = G ++ E.set (n - G.length) y := List.set_append_right _ _ h
/-- a walk over a list of the heap that stands -/
theorem for_live {g : DG} {body : DS} {n : Nat} (xs : List Z) (P : Nat → L → GH → Prop) {l : L} {G : GH} (h0 : P 0 l G) (hP : ∀ k l G, P k l G → lstAt G n = some xs)
    (step : ∀ (i : Nat) z l G, xs[i]? = some z → P i l G → ∃ l1 G1 l2 G2, g z l G = .nx l1 G1 ∧ (body l1 G1 = .nx l2 G2 ∨ body l1 G1 = .ct l2 G2) ∧ P (i + 1) l2 G2) :
    ∃ l' G', forLoop (.live n xs.length) g body xs.length 0 l G = .nx l' G' ∧ P xs.length l' G' := by
  have key : ∀ (k i : Nat) (l : L) (G : GH), i + k = xs.length → P i l G → ∃ l' G', forLoop (.live n xs.length) g body k i l G = .nx l' G' ∧ P xs.length l' G' := by
    intro k
    induction k with
    | zero =>
      intro i l G hi hp
      refine ⟨l, G, ?_, by have : i = xs.length := by omega
                           rw [← this]; exact hp⟩
      unfold forLoop
      have : itNext (.live n xs.length) G i = some none := by
        unfold itNext
        simp only [hP _ _ _ hp, if_true]
        rw [List.getElem?_eq_none (by omega)]
      rw [this]
    | succ k ih =>
      intro i l G hi hp
      have hlt : i < xs.length := by omega
      have hz : xs[i]? = some xs[i] := List.getElem?_eq_getElem hlt
      obtain ⟨l1, G1, l2, G2, h1, h2, h3⟩ := step i _ l G hz hp
      obtain ⟨l', G', h4, h5⟩ := ih (i + 1) l2 G2 (by omega) h3
      refine ⟨l', G', ?_, h5⟩
      unfold forLoop
      have : itNext (.live n xs.length) G i = some (some xs[i]) := by
        unfold itNext
        simp only [hP _ _ _ hp, if_true, hz]
      rw [this]
      simp only [h1]
      rcases h2 with h2 | h2 <;> rw [h2] <;> exact h4
  exact key xs.length 0 l G (by omega) h0
theorem toItr_ref {n : Nat} {xs : List Z} (h : lstAt G n = some xs) : toItr G (.ref n) = some (.live n xs.length) := by
  show (lstAt G n).map _ = _
  rw [h]; rfl
theorem its_ref {n : Nat} {xs : List Z} (h : lstAt G n = some xs) : its G (.ref n) = some xs := h
theorem len_ref {n : Nat} {xs : List Z} (h : lstAt G n = some xs) : zLen (.ref n) G = .ok (.int xs.length) G := by
  show (match its G (.ref n) with | some xs => (R.ok (Z.int (xs.length : Int)) G : R Z) | none => .bad) = _
  rw [its_ref h]
theorem ix_ref {n : Nat} {xs : List Z} {i : Int} {z : Z} (h : lstAt G n = some xs) (h2 : atI xs i = some z) : zIx (.ref n) (.int i) G = .ok z G := by
  show (match (its G (.ref n)).bind fun xs => atI xs i with | some z => R.ok z G | none => .bad) = _
  rw [its_ref h, Option.bind_some, h2]
theorem slc_ref {n : Nat} {xs : List Z} {lo hi : Option Int} (h : lstAt G n = some xs) : zSlc (.ref n) lo hi G = .ok (.ref G.length) (G ++ [.lst (cutZ xs lo hi)]) := by
  show (match rdl G (.ref n) with | some xs => newO (.lst (cutZ xs lo hi)) G | none => .bad) = _
  rw [show rdl G (.ref n) = some xs from h]; rfl
theorem recv_ref {n : Nat} {xs : List Z} (h : lstAt G n = some xs) : recvT G (.ref n) = some "list" := by
  show (lstAt G n).map _ = _
  rw [h]; rfl
theorem app_ref {n : Nat} {xs : List Z} {z : Z} (h : lstAt G n = some xs) (hs : xs.length < sizeLine) : zAppend "list" (.ref n) [z] G = .ok .non (G.set n (.lst (xs ++ [z]))) := by
  unfold zAppend
  simp only [h, hs, if_true]
  rfl
theorem eq_refs {a b : Nat} {xs ys : List Z} {r : Bool} (ha : lstAt G a = some xs) (hb : lstAt G b = some ys) (h : zall (zeq 39 G) xs ys = some r) : zCmp .Eq (.ref a) (.ref b) G = .ok (.bl r) G := by
  have : zeq 40 G (.ref a) (.ref b) = some r := by
    show (match kd G (.ref a), kd G (.ref b) with | some x, some y => keq (zeq 39 G) x y | _, _ => none) = _
    have e1 : kd G (.ref a) = some (.lst xs) := by show (lstAt G a).map _ = _; rw [ha]; rfl
    have e2 : kd G (.ref b) = some (.lst ys) := by show (lstAt G b).map _ = _; rw [hb]; rfl
    rw [e1, e2]; exact h
  show ofB (zeq 40 G (.ref a) (.ref b)) G = _
  rw [this]; rfl
theorem ne_refs {a b : Nat} {xs ys : List Z} {r : Bool} (ha : lstAt G a = some xs) (hb : lstAt G b = some ys) (h : zall (zeq 39 G) xs ys = some r) : zCmp .NotEq (.ref a) (.ref b) G = .ok (.bl (!r)) G := by
  have : zeq 40 G (.ref a) (.ref b) = some r := by
    show (match kd G (.ref a), kd G (.ref b) with | some x, some y => keq (zeq 39 G) x y | _, _ => none) = _
    have e1 : kd G (.ref a) = some (.lst xs) := by show (lstAt G a).map _ = _; rw [ha]; rfl
    have e2 : kd G (.ref b) = some (.lst ys) := by show (lstAt G b).map _ = _; rw [hb]; rfl
    rw [e1, e2]; exact h
  show ofB ((zeq 40 G (.ref a) (.ref b)).map (!·)) G = _
  rw [this]; rfl
end
end Zy
end
section
set_option Elab.async false
set_option linter.all false
set_option maxRecDepth 100000
set_option maxHeartbeats 4000000
set_option autoImplicit false
/-! the draws that every law makes -/
namespace Zy
open PySem L2
def streamT : DS := (dSeq (dAsg (dgName 3) (dBin .Mod (dFn (on1 zAbs) (dCons (dVar 2) dNil)) (dBin .Pow (dBin .Pow (dC (.int (10))) (dC (.int (60)))) (dC (.int (12)))))) (dSeq (dAsg (dgName 4) (dBin .Mod (dBin .Add (dBin .Add (dBin .Add (dBin .Mult (dBin .Mod (dVar 3) (dC (.int (2147483629)))) (dC (.int (48271)))) (dBin .Mult (dC (.int (977))) (dVar 1))) (dBin .Mult (dC (.int (2))) (dFn (tyZ "int") (dCons (dCmp .Lt (dVar 2) (dC (.int (0)))) dNil)))) (dC (.int (11)))) (dC (.int (2147483647))))) (dSeq (dRet (dLst (dCons (dFn (on2 zMax2) (dCons (dC (.int (0))) (dCons (dBin .Sub (dVar 3) (dBin .Pow (dC (.int (10))) (dC (.int (18))))) dNil))) (dCons (dVar 4) (dCons (dC (.int (0))) dNil))))) dNop)))
/-- _law_stream -/
def streamB : DS := (dSeq (dAsg (dgName 2) (dBin .Add (dBin .Mult (dC (.int (7))) (dVar 1)) (dC (.int (3))))) (dSeq (dIfS (uB (dCmp .Lt (dVar 1) (dFn (on1 zLen) (dCons (dVar 0) dNil)))) (dSeq (dAsg (dgName 2) (dIx (dVar 0) (dVar 1))) dNop) dNop) streamT))
/-- _law_draw -/
def drawB : DS := (dSeq (dIfS (uB (dCmp .Gt (dIx (dVar 0) (dC (.int (0)))) (dC (.int (0))))) (dSeq (dAsg (dgName 2) (dBin .Mod (dIx (dVar 0) (dC (.int (0)))) (dVar 1))) (dSeq (dAsg (dgSub (dVar 0) (dC (.int (0)))) (dBin .FloorDiv (dIx (dVar 0) (dC (.int (0)))) (dVar 1))) (dSeq (dRet (dVar 2)) dNop))) dNop) (dSeq (dAsg (dgSub (dVar 0) (dC (.int (2)))) (dBin .Add (dIx (dVar 0) (dC (.int (2)))) (dC (.int (1))))) (dSeq (dAsg (dgName 3) (dBin .Mod (dBin .Add (dIx (dVar 0) (dC (.int (1)))) (dBin .Mult (dC (.int (1000003))) (dIx (dVar 0) (dC (.int (2)))))) (dC (.int (2305843009213693951))))) (dSeq (dAsg (dgName 4) (dBin .Mod (dBin .Add (dBin .Mult (dBin .Mod (dBin .Mult (dVar 3) (dVar 3)) (dC (.int (2305843009213693921)))) (dVar 3)) (dBin .Mult (dC (.int (8191))) (dIx (dVar 0) (dC (.int (2)))))) (dC (.int (2305843009213693907))))) (dSeq (dRet (dBin .Mod (dBin .FloorDiv (dVar 4) (dC (.int (4096)))) (dVar 1))) dNop)))))
theorem lstAt_set {G : GH} {n : Nat} {xs ys : List Z} (h : lstAt G n = some xs) : lstAt (G.set n (.lst ys)) n = some ys := by
  have h1 := lstAt_eq.mp h
  refine lstAt_eq.mpr ?_
  rw [List.getElem?_set_self (List.getElem?_eq_some_iff.mp h1).1]
theorem fmod_pos (i : Int) {j : Int} (h : 0 < j) : 0 ≤ i.fmod j ∧ i.fmod j < j := ⟨Int.fmod_nonneg_of_pos i h, Int.fmod_lt_of_pos i h⟩
@[simp] theorem dVar_ref {i : Nat} {x : Nat} {l0 : L} {G : GH} (h : l0[i]? = some (some (.ref x))) : dVar i l0 G = .ok (.ref x) G := dVar_of h (fun q => nomatch q)
@[simp] theorem dVar_str {i : Nat} {x : List Nat} {l0 : L} {G : GH} (h : l0[i]? = some (some (.str x))) : dVar i l0 G = .ok (.str x) G := dVar_of h (fun q => nomatch q)
@[simp] theorem dVar_tup {i : Nat} {x : List Z} {l0 : L} {G : GH} (h : l0[i]? = some (some (.tup x))) : dVar i l0 G = .ok (.tup x) G := dVar_of h (fun q => nomatch q)
@[simp] theorem dVar_rol {i : Nat} {x : List Z} {l0 : L} {G : GH} (h : l0[i]? = some (some (.rol x))) : dVar i l0 G = .ok (.rol x) G := dVar_of h (fun q => nomatch q)
@[simp] theorem dVar_bl {i : Nat} {x : Bool} {l0 : L} {G : GH} (h : l0[i]? = some (some (.bl x))) : dVar i l0 G = .ok (.bl x) G := dVar_of h (fun q => nomatch q)
@[simp] theorem dVar_non {i : Nat} {l0 : L} {G : GH} (h : l0[i]? = some (some .non)) : dVar i l0 G = .ok .non G := dVar_of h (fun q => nomatch q)
theorem ix3_0 {G : GH} {n : Nat} {x y z : Z} (h : lstAt G n = some [x, y, z]) : zIx (.ref n) (.int 0) G = .ok x G := by
  show (match (lstAt G n).bind fun xs => atI xs 0 with | some z => R.ok z G | none => .bad) = _
  rw [h]; rfl
theorem ix3_1 {G : GH} {n : Nat} {x y z : Z} (h : lstAt G n = some [x, y, z]) : zIx (.ref n) (.int 1) G = .ok y G := by
  show (match (lstAt G n).bind fun xs => atI xs 1 with | some z => R.ok z G | none => .bad) = _
  rw [h]; rfl
theorem ix3_2 {G : GH} {n : Nat} {x y z : Z} (h : lstAt G n = some [x, y, z]) : zIx (.ref n) (.int 2) G = .ok z G := by
  show (match (lstAt G n).bind fun xs => atI xs 2 with | some z => R.ok z G | none => .bad) = _
  rw [h]; rfl
theorem draw_ok {G : GH} {n : Nat} {a b c tot : Int} (h : lstAt G n = some [.int a, .int b, .int c]) (ht : 0 < tot) (hb : tot < 1073741824) :
    ∃ d a' c', (drawB (stL 5 [.ref n, .int tot]) G).fin = .ok (.int d) (G.set n (.lst [.int a', .int b, .int c'])) ∧ 0 ≤ d ∧ d < tot := by
  have hn : n < G.length := (List.getElem?_eq_some_iff.mp (lstAt_eq.mp h)).1
  have ht0 : tot ≠ 0 := by omega
  have htn : tot.natAbs < 1073741824 := by omega
  have i0 := ix3_0 h
  have i1 := ix3_1 h
  have i2 := ix3_2 h
  unfold drawB stL
  by_cases ha : 0 < a
  · refine ⟨a.fmod tot, a.fdiv tot, c, ?_, fmod_pos a ht⟩
    simp [i0, ha, bin_mod ht0, bin_div ht0 htn, h, ixN]
  · have h2 : lstAt (G.set n (.lst [.int a, .int b, .int (c + 1)])) n = some [.int a, .int b, .int (c + 1)] := lstAt_set h
    have j1 := ix3_1 h2
    have j2 := ix3_2 h2
    have m1 : mulOk 1000003 (c + 1) = true := mulOk_l (by decide)
    have m3 : mulOk 8191 (c + 1) = true := mulOk_l (by decide)
    have b1 := fmod_pos (b + 1000003 * (c + 1)) (j := 2305843009213693951) (by decide)
    have m2 : mulOk ((b + 1000003 * (c + 1)).fmod 2305843009213693951) ((b + 1000003 * (c + 1)).fmod 2305843009213693951) = true := mulOk_l (by omega)
    have b2 := fmod_pos ((b + 1000003 * (c + 1)).fmod 2305843009213693951 * (b + 1000003 * (c + 1)).fmod 2305843009213693951) (j := 2305843009213693921) (by decide)
    have m4 : ∀ x, mulOk (((b + 1000003 * (c + 1)).fmod 2305843009213693951 * (b + 1000003 * (c + 1)).fmod 2305843009213693951).fmod 2305843009213693921) x = true := fun x => mulOk_l (by omega)
    refine ⟨(((((b + 1000003 * (c + 1)).fmod 2305843009213693951 * (b + 1000003 * (c + 1)).fmod 2305843009213693951).fmod 2305843009213693921 * (b + 1000003 * (c + 1)).fmod 2305843009213693951 + 8191 * (c + 1)).fmod 2305843009213693907).fdiv 4096).fmod tot, a, c + 1, ?_, fmod_pos _ ht⟩
    simp [i0, ha, i2, h, ixN, j1, j2, bin_mul m1, bin_mul m2, bin_mul m3, bin_mul (m4 _), bin_mod ht0, bin_mod (show (2305843009213693951 : Int) ≠ 0 by decide), bin_mod (show (2305843009213693921 : Int) ≠ 0 by decide), bin_mod (show (2305843009213693907 : Int) ≠ 0 by decide), bin_div (show (4096 : Int) ≠ 0 by decide) (show (4096 : Int).natAbs < 1073741824 by decide)]
theorem pow_ap {i j : Int} {G : GH} (h : (decide (0 ≤ j) && decide ((Builtin.Int.intBits i : Int) * j ≤ 2 ^ 27)) = true) : zBin .Pow (.int i) (.int j) G = .ok (.int (i ^ j.toNat)) G := if_pos h
def bigN : Int := (10 ^ 60) ^ 12
def tenN : Int := 10 ^ 60
theorem pow_tens {G : GH} : zBin .Pow (.int 10) (.int 60) G = .ok (.int tenN) G := pow_ap (by decide +kernel)
theorem pow_tens2 {G : GH} : zBin .Pow (.int tenN) (.int 12) G = .ok (.int bigN) G := pow_ap (by decide +kernel)
theorem pow_18 {G : GH} : zBin .Pow (.int 10) (.int 18) G = .ok (.int 1000000000000000000) G := pow_ap (by decide +kernel)
theorem len_rol {xs : List Z} {G : GH} : zLen (.rol xs) G = .ok (.int xs.length) G := rfl
theorem ix_rol {ns : List Int} {i : Nat} {G : GH} (h : i < ns.length) : ∃ x, zIx (.rol (ns.map .int)) (.int i) G = .ok (.int x) G := by
  refine ⟨ns[i], ?_⟩
  show (match (some (ns.map Z.int)).bind fun xs => atI xs i with | some z => R.ok z G | none => .bad) = _
  have : atI (ns.map Z.int) (i : Int) = some (.int ns[i]) := by
    unfold atI ixN
    simp [h]
  rw [Option.bind_some, this]
theorem int_bl {x : Bool} {G : GH} : tyZ "int" [.bl x] G = .ok (.int (b2z x)) G := rfl
theorem abs_ap {x : Int} {G : GH} : zAbs (.int x) G = .ok (.int x.natAbs) G := rfl
theorem max_ap {x y : Int} {G : GH} : zMax2 (.int x) (.int y) G = .ok (.int (if y > x then y else x)) G := rfl
theorem streamT_ok {G : GH} {v : Z} {at_ cell : Int} : ∃ a b, (streamT [some v, some (.int at_), some (.int cell), none, none] G).fin = .ok (.ref G.length) (G ++ [.lst [.int a, .int b, .int 0]]) := by
  have m3 : mulOk 977 at_ = true := mulOk_l (by decide)
  have m4 : ∀ x, mulOk 2 x = true := fun x => mulOk_l (by decide)
  have m5 : ∀ x, mulOk x 48271 = true := fun x => mulOk_r (by decide)
  have nz : bigN ≠ 0 := by decide +kernel
  have nn : 3 ≤ sizeLine := by rw [sizeLine_eq]; omega
  generalize hgr : (cell.natAbs : Int).fmod bigN = great
  refine ⟨if great - 1000000000000000000 > 0 then great - 1000000000000000000 else 0, (great.fmod 2147483629 * 48271 + 977 * at_ + 2 * b2z (decide (cell < 0)) + 11).fmod 2147483647, ?_⟩
  unfold streamT
  simp only [dSeq_ap, dAsg_ap, dBin_ap, dFn_ap, dCons_ap, dNil_ap, R.bind_ok, dC_ap, pow_tens, pow_tens2, pow_18]
  simp [abs_ap, bin_mod nz, hgr, bin_mod (show (2147483629 : Int) ≠ 0 by decide), bin_mod (show (2147483647 : Int) ≠ 0 by decide), bin_mul m3, bin_mul (m4 _), bin_mul (m5 _), int_bl, max_ap, nn, pow_18]
/-! ### what a part of a law leaves: all old objects but the stream -/
def StrAt (G : GH) (s : Nat) : Prop := ∃ a b c, lstAt G s = some [.int a, .int b, .int c]
structure Keep (s : Nat) (G G' : GH) : Prop where
  len : G.length ≤ G'.length
  old : ∀ m, m < G.length → m ≠ s → G'[m]? = G[m]?
  str : StrAt G s → StrAt G' s
theorem Keep.refl {s : Nat} {G : GH} : Keep s G G := ⟨Nat.le_refl _, fun _ _ _ => rfl, fun h => h⟩
theorem Keep.trans {s : Nat} {G G1 G2 : GH} (a : Keep s G G1) (b : Keep s G1 G2) : Keep s G G2 := ⟨Nat.le_trans a.len b.len, fun m h1 h2 => (b.old m (Nat.lt_of_lt_of_le h1 a.len) h2).trans (a.old m h1 h2), fun h => b.str (a.str h)⟩
theorem StrAt.lt {G : GH} {s : Nat} (h : StrAt G s) : s < G.length := by
  obtain ⟨a, b, c, h⟩ := h
  exact (List.getElem?_eq_some_iff.mp (lstAt_eq.mp h)).1
theorem StrAt.app {G E : GH} {s : Nat} (h : StrAt G s) : StrAt (G ++ E) s := by
  obtain ⟨a, b, c, h⟩ := h
  exact ⟨a, b, c, lstAt_app h⟩
theorem Keep.app {s : Nat} {G E : GH} : Keep s G (G ++ E) := ⟨by simp, fun m h1 _ => List.getElem?_append_left h1, fun h => h.app⟩
theorem Keep.set {s : Nat} {G G1 : GH} {m : Nat} {y : ZO} (k : Keep s G G1) (h : G.length ≤ m) : Keep s G (G1.set m y) := by
  refine ⟨by simpa using k.len, fun j h1 h2 => ?_, fun hs => ?_⟩
  · rw [List.getElem?_set_ne (by omega)]; exact k.old j h1 h2
  · obtain ⟨a, b, c, q⟩ := k.str hs
    have := hs.lt
    refine ⟨a, b, c, lstAt_eq.mpr ?_⟩
    rw [List.getElem?_set_ne (by omega)]; exact lstAt_eq.mp q
theorem Keep.lst {s : Nat} {G G' : GH} (k : Keep s G G') {m : Nat} {xs : List Z} (h : lstAt G m = some xs) (hm : m ≠ s) : lstAt G' m = some xs := by
  have q := lstAt_eq.mp h
  refine lstAt_eq.mpr ?_
  rw [k.old m (List.getElem?_eq_some_iff.mp q).1 hm]; exact q
theorem draw_keep {G : GH} {n : Nat} {tot : Int} (h : StrAt G n) (ht : 0 < tot) (hb : tot < 1073741824) : ∃ d G', (drawB (stL 5 [.ref n, .int tot]) G).fin = .ok (.int d) G' ∧ Keep n G G' ∧ 0 ≤ d ∧ d < tot := by
  obtain ⟨a, b, c, h⟩ := h
  obtain ⟨d, a', c', h1, h2, h3⟩ := draw_ok h ht hb
  refine ⟨d, _, h1, ⟨by simp, fun m _ hm => List.getElem?_set_ne (Ne.symm hm), fun _ => ⟨a', b, c', lstAt_set h⟩⟩, h2, h3⟩
/-- _law_stream -/
theorem stream_ok {G : GH} {ns : List Int} {at_ : Nat} : ∃ a b, (streamB (stL 5 [.rol (ns.map .int), .int at_]) G).fin = .ok (.ref G.length) (G ++ [.lst [.int a, .int b, .int 0]]) := by
  have m0 : mulOk 7 at_ = true := mulOk_l (by decide)
  unfold streamB stL
  by_cases hl : at_ < ns.length
  · obtain ⟨x, hx⟩ := ix_rol (G := G) hl
    obtain ⟨a, b, h⟩ := streamT_ok (G := G) (v := .rol (ns.map .int)) (at_ := at_) (cell := x)
    refine ⟨a, b, ?_⟩
    rw [← h]
    simp [bin_mul m0, len_rol, hl, hx]
  · obtain ⟨a, b, h⟩ := streamT_ok (G := G) (v := .rol (ns.map .int)) (at_ := at_) (cell := 7 * at_ + 3)
    refine ⟨a, b, ?_⟩
    rw [← h]
    simp [bin_mul m0, len_rol, hl]
end Zy
end
section
set_option Elab.async false
set_option linter.all false
set_option maxRecDepth 100000
set_option maxHeartbeats 4000000
namespace K
open PySem PySem.Spec PyProof.Rows L2 Zy
/-! ### the text of law_k17_choice_and_sequence by tables (printed by zgen.py) -/
def top (i : Nat) : Stmt := PySem.Challenge.pw_openlimit_k17_choice_and_sequence.main.body.getD i (.Pass ⟨0, 0, 0, 0⟩)
def b_0 : Zy.St := .cons (.ret (.ife (.cmp .LtE (.wix 0 (.var 0)) (.wix 0 (.var 1))) (.var 0) (.var 1))) .nil
/-- better -/
def f_0 : Fd := { d := ⟨("better", none), "better", "better", defArgs (top 9), defBody (top 9), defScope (top 9), [], []⟩, N := ["one", "other"], np := 2, body := b_0 }
def b_1 : Zy.St := .cons (.ret (.ife (.cmp .GtE (.wix 1 (.var 0)) (.wix 1 (.var 1))) (.var 0) (.var 1))) .nil
/-- joined -/
def f_1 : Fd := { d := ⟨("joined", none), "joined", "joined", defArgs (top 10), defBody (top 10), defScope (top 10), [], []⟩, N := ["one", "other"], np := 2, body := b_1 }
def b_2 : Zy.St := .cons (.ret (.and (.bfn 3 (.acons (.var 0) (.acons (.glb 4) .anil))) (.one (.cmp .In (.var 0) (.glb 2))))) .nil
/-- is_grade -/
def f_2 : Fd := { d := ⟨("is_grade", none), "is_grade", "is_grade", defArgs (top 11), defBody (top 11), defScope (top 11), [], []⟩, N := ["value"], np := 1, body := b_2 }
def b_3 : Zy.St := .cons (.ife (.not (.bfn 5 (.acons (.cpr (.var 0) (.nm 1) .yes (.call 6 (.acons (.var 1) .anil)) [1]) .anil))) (.cons (.raise_ 7) .nil) .nil) .nil
/-- require_grades -/
def f_3 : Fd := { d := ⟨("require_grades", none), "require_grades", "require_grades", defArgs (top 12), defBody (top 12), defScope (top 12), [], []⟩, N := ["grades", "grade"], np := 1, body := b_3 }
def b_4 : Zy.St := .cons (.exp (.call 10 (.acons (.var 0) .anil))) (.cons (.asg (.nm 1) (.glb 9)) (.cons (.for_ (.var 0) (.nm 2) (.cons (.asg (.nm 1) (.call 8 (.acons (.var 1) (.acons (.var 2) .anil)))) .nil)) (.cons (.ret (.var 1)) .nil)))
/-- choice -/
def f_4 : Fd := { d := ⟨("choice", none), "choice", "choice", defArgs (top 13), defBody (top 13), defScope (top 13), [], []⟩, N := ["grades", "found", "grade"], np := 0, star := true, body := b_4 }
def b_5 : Zy.St := .cons (.exp (.call 10 (.acons (.var 0) .anil))) (.cons (.asg (.nm 1) (.glb 12)) (.cons (.for_ (.var 0) (.nm 2) (.cons (.asg (.nm 1) (.call 11 (.acons (.var 1) (.acons (.var 2) .anil)))) .nil)) (.cons (.ret (.var 1)) .nil)))
/-- sequence -/
def f_5 : Fd := { d := ⟨("sequence", none), "sequence", "sequence", defArgs (top 14), defBody (top 14), defScope (top 14), [], []⟩, N := ["grades", "found", "grade"], np := 0, star := true, body := b_5 }
def b_6 : Zy.St := .cons (.asg (.nm 2) (.bin .Add (.bin .Mult (.cst (.int (7))) (.var 1)) (.cst (.int (3))))) (.cons (.ife (.cmp .Lt (.var 1) (.bfn 16 (.acons (.var 0) .anil))) (.cons (.asg (.nm 2) (.ix (.var 0) (.var 1))) .nil) .nil) (.cons (.asg (.nm 3) (.bin .Mod (.bfn 15 (.acons (.var 2) .anil)) (.bin .Pow (.bin .Pow (.cst (.int (10))) (.cst (.int (60)))) (.cst (.int (12)))))) (.cons (.asg (.nm 4) (.bin .Mod (.bin .Add (.bin .Add (.bin .Add (.bin .Mult (.bin .Mod (.var 3) (.cst (.int (2147483629)))) (.cst (.int (48271)))) (.bin .Mult (.cst (.int (977))) (.var 1))) (.bin .Mult (.cst (.int (2))) (.bfn 14 (.acons (.cmp .Lt (.var 2) (.cst (.int (0)))) .anil)))) (.cst (.int (11)))) (.cst (.int (2147483647))))) (.cons (.ret (.lst (.acons (.bfn 13 (.acons (.cst (.int (0))) (.acons (.bin .Sub (.var 3) (.bin .Pow (.cst (.int (10))) (.cst (.int (18))))) .anil))) (.acons (.var 4) (.acons (.cst (.int (0))) .anil))))) .nil))))
/-- _law_stream -/
def f_6 : Fd := { d := ⟨("_law_stream", none), "_law_stream", "_law_stream", defArgs (top 16), defBody (top 16), defScope (top 16), [], []⟩, N := ["script", "at", "cell", "great", "mixed"], np := 2, body := b_6 }
def b_7 : Zy.St := .cons (.ife (.cmp .Gt (.ix (.var 0) (.cst (.int (0)))) (.cst (.int (0)))) (.cons (.asg (.nm 2) (.bin .Mod (.ix (.var 0) (.cst (.int (0)))) (.var 1))) (.cons (.asg (.sub (.var 0) (.cst (.int (0)))) (.bin .FloorDiv (.ix (.var 0) (.cst (.int (0)))) (.var 1))) (.cons (.ret (.var 2)) .nil))) .nil) (.cons (.asg (.sub (.var 0) (.cst (.int (2)))) (.bin .Add (.ix (.var 0) (.cst (.int (2)))) (.cst (.int (1))))) (.cons (.asg (.nm 3) (.bin .Mod (.bin .Add (.ix (.var 0) (.cst (.int (1)))) (.bin .Mult (.cst (.int (1000003))) (.ix (.var 0) (.cst (.int (2)))))) (.cst (.int (2305843009213693951))))) (.cons (.asg (.nm 4) (.bin .Mod (.bin .Add (.bin .Mult (.bin .Mod (.bin .Mult (.var 3) (.var 3)) (.cst (.int (2305843009213693921)))) (.var 3)) (.bin .Mult (.cst (.int (8191))) (.ix (.var 0) (.cst (.int (2)))))) (.cst (.int (2305843009213693907))))) (.cons (.ret (.bin .Mod (.bin .FloorDiv (.var 4) (.cst (.int (4096)))) (.var 1))) .nil))))
/-- _law_draw -/
def f_7 : Fd := { d := ⟨("_law_draw", none), "_law_draw", "_law_draw", defArgs (top 17), defBody (top 17), defScope (top 17), [], []⟩, N := ["stream", "total", "found", "one", "two"], np := 2, body := b_7 }
def b_8 : Zy.St := .cons (.asg (.nm 2) (.lst (.acons (.cst (.str [114, 101, 115, 116, 97, 114, 116])) (.acons (.cst (.str [102, 114, 101, 101])) (.acons (.cst (.str [112, 97, 105, 100])) (.acons (.cst (.str [100, 101, 97, 114])) (.acons (.cst (.str [110, 111, 110, 101])) .anil))))))) (.cons (.ret (.ix (.var 2) (.bfn 17 (.acons (.mth .index (.var 2) (.acons (.var 0) .anil)) (.acons (.mth .index (.var 2) (.acons (.var 1) .anil)) .anil))))) .nil)
/-- _law_better -/
def f_8 : Fd := { d := ⟨("_law_better", none), "_law_better", "_law_better", defArgs (top 18), defBody (top 18), defScope (top 18), [], []⟩, N := ["one", "other", "order"], np := 2, body := b_8 }
def b_9 : Zy.St := .cons (.asg (.nm 2) (.lst (.acons (.cst (.str [102, 114, 101, 101])) (.acons (.cst (.str [112, 97, 105, 100])) (.acons (.cst (.str [114, 101, 115, 116, 97, 114, 116])) (.acons (.cst (.str [100, 101, 97, 114])) (.acons (.cst (.str [110, 111, 110, 101])) .anil))))))) (.cons (.ret (.ix (.var 2) (.bfn 13 (.acons (.mth .index (.var 2) (.acons (.var 0) .anil)) (.acons (.mth .index (.var 2) (.acons (.var 1) .anil)) .anil))))) .nil)
/-- _law_joined -/
def f_9 : Fd := { d := ⟨("_law_joined", none), "_law_joined", "_law_joined", defArgs (top 19), defBody (top 19), defScope (top 19), [], []⟩, N := ["one", "other", "order"], np := 2, body := b_9 }
def b_10 : Zy.St := .cons (.asg (.nm 1) (.lst (.acons (.cst (.non)) (.acons (.cst (.bl true)) (.acons (.neg (.cst (.int (1)))) (.acons (.cst (.int (0))) (.acons (.cst (.int (1))) (.acons (.cst (.str [])) (.acons (.cst (.str [97])) (.acons (.cst (.str [97, 98])) (.acons (.tup .anil) (.acons (.lst .anil) (.acons (.dnew) (.acons (.tup (.acons (.cst (.int (0))) .anil)) (.acons (.tup (.acons (.cst (.str [97])) .anil)) (.acons (.bin .Pow (.cst (.int (10))) (.cst (.int (39)))) .anil)))))))))))))))) (.cons (.asg (.nm 1) (.bin .Add (.var 1) (.lst (.acons (.cst (.str [110, 101, 118, 101, 114])) (.acons (.tup (.acons (.cst (.non)) .anil)) (.acons (.tup (.acons (.tup .anil) .anil)) (.acons (.lst (.acons (.tup .anil) .anil)) (.acons (.dmk (.dcons (.cst (.int (0))) (.cst (.int (1))) .dnil)) .anil)))))))) (.cons (.ret (.ix (.var 1) (.call 18 (.acons (.var 0) (.acons (.bfn 16 (.acons (.var 1) .anil)) .anil))))) .nil))
/-- _law_other -/
def f_10 : Fd := { d := ⟨("_law_other", none), "_law_other", "_law_other", defArgs (top 20), defBody (top 20), defScope (top 20), [], []⟩, N := ["stream", "some"], np := 1, body := b_10 }
def b_11 : Zy.St := .cons (.try_ (.cons (.exp (.act 0)) .nil) (.hcons 7 (some 1) (.cons (.ret (.and (.isE 20) (.one (.isE 19)))) .nil) (.hcons 20 none (.cons (.ret (.cst (.bl false))) .nil) .hnil))) (.cons (.ret (.cst (.bl false))) .nil)
/-- _law_refused -/
def f_11 : Fd := { d := ⟨("_law_refused", none), "_law_refused", "_law_refused", defArgs (top 21), defBody (top 21), defScope (top 21), [], []⟩, N := ["call", "e"], np := 1, act := true, body := b_11 }
def b_12 : Zy.St := .cons (.par 1 2 (.acons (.ix (.var 0) (.cst (.int (0)))) (.acons (.ix (.var 0) (.cst (.int (0)))) .anil))) (.cons (.for_ (.slc (.var 0) (.cst (.int (1))) .none_) (.nm 3) (.cons (.par 1 2 (.acons (.call 24 (.acons (.var 1) (.acons (.var 3) .anil))) (.acons (.call 23 (.acons (.var 2) (.acons (.var 3) .anil))) .anil))) .nil)) (.cons (.ife (.cmp .Eq (.bfn 16 (.acons (.var 0) .anil)) (.cst (.int (2)))) (.cons (.ret (.cmp .Eq (.lst (.acons (.call 22 (.acons (.ix (.var 0) (.cst (.int (0)))) (.acons (.ix (.var 0) (.cst (.int (1)))) .anil))) (.acons (.call 21 (.acons (.ix (.var 0) (.cst (.int (0)))) (.acons (.ix (.var 0) (.cst (.int (1)))) .anil))) .anil))) (.lst (.acons (.var 1) (.acons (.var 2) .anil))))) .nil) .nil) (.cons (.ife (.cmp .Eq (.bfn 16 (.acons (.var 0) .anil)) (.cst (.int (3)))) (.cons (.ret (.cmp .Eq (.lst (.acons (.call 22 (.acons (.ix (.var 0) (.cst (.int (0)))) (.acons (.ix (.var 0) (.cst (.int (1)))) (.acons (.ix (.var 0) (.cst (.int (2)))) .anil)))) (.acons (.call 21 (.acons (.ix (.var 0) (.cst (.int (0)))) (.acons (.ix (.var 0) (.cst (.int (1)))) (.acons (.ix (.var 0) (.cst (.int (2)))) .anil)))) .anil))) (.lst (.acons (.var 1) (.acons (.var 2) .anil))))) .nil) .nil) (.cons (.asg (.tp (.gcons (.nm 4) (.gcons (.nm 5) (.gcons (.nm 6) (.gcons (.nm 7) (.gcons (.nm 8) .gnil)))))) (.slc (.var 0) .none_ (.cst (.int (5))))) (.cons (.ife (.cmp .Eq (.bfn 16 (.acons (.var 0) .anil)) (.cst (.int (5)))) (.cons (.ret (.cmp .Eq (.lst (.acons (.call 22 (.acons (.var 4) (.acons (.var 5) (.acons (.var 6) (.acons (.var 7) (.acons (.var 8) .anil)))))) (.acons (.call 21 (.acons (.var 4) (.acons (.var 5) (.acons (.var 6) (.acons (.var 7) (.acons (.var 8) .anil)))))) .anil))) (.lst (.acons (.var 1) (.acons (.var 2) .anil))))) .nil) .nil) (.cons (.asg (.tp (.gcons (.nm 9) (.gcons (.nm 10) .gnil))) (.slc (.var 0) (.cst (.int (5))) .none_)) (.cons (.asg (.nm 11) (.lst (.acons (.call 22 (.acons (.var 4) (.acons (.var 5) (.acons (.var 6) (.acons (.var 7) (.acons (.var 8) (.acons (.var 9) (.acons (.var 10) .anil)))))))) (.acons (.call 21 (.acons (.var 4) (.acons (.var 5) (.acons (.var 6) (.acons (.var 7) (.acons (.var 8) (.acons (.var 9) (.acons (.var 10) .anil)))))))) .anil)))) (.cons (.ret (.cmp .Eq (.var 11) (.lst (.acons (.var 1) (.acons (.var 2) .anil))))) .nil))))))))
/-- _law_right -/
def f_12 : Fd := { d := ⟨("_law_right", none), "_law_right", "_law_right", defArgs (top 22), defBody (top 22), defScope (top 22), [], []⟩, N := ["grades", "best", "last", "grade", "one", "two", "three", "four", "five", "six", "seven", "found"], np := 1, body := b_12 }
def b_13 : Zy.St := .cons (.asg (.nm 0) (.lst (.acons (.cst (.str [114, 101, 115, 116, 97, 114, 116])) (.acons (.cst (.str [102, 114, 101, 101])) (.acons (.cst (.str [112, 97, 105, 100])) (.acons (.cst (.str [100, 101, 97, 114])) (.acons (.cst (.str [110, 111, 110, 101])) .anil))))))) (.cons (.ife (.or (.cmp .NotEq (.bfn 26 (.acons (.glb 2) .anil)) (.var 0)) (.or (.cmp .NotEq (.call 22 .anil) (.cst (.str [110, 111, 110, 101]))) (.one (.cmp .NotEq (.call 21 .anil) (.cst (.str [102, 114, 101, 101])))))) (.cons (.ret (.cst (.bl false))) .nil) .nil) (.cons (.for_ (.var 0) (.nm 1) (.cons (.ife (.or (.cmp .NotEq (.call 22 (.acons (.var 1) .anil)) (.var 1)) (.one (.cmp .NotEq (.call 21 (.acons (.var 1) .anil)) (.var 1)))) (.cons (.ret (.cst (.bl false))) .nil) .nil) (.cons (.for_ (.var 0) (.nm 2) (.cons (.ife (.not (.call 25 (.acons (.lst (.acons (.var 1) (.acons (.var 2) .anil))) .anil))) (.cons (.ret (.cst (.bl false))) .nil) .nil) (.cons (.for_ (.var 0) (.nm 3) (.cons (.asg (.nm 4) (.lst (.acons (.call 21 (.acons (.var 1) (.acons (.call 22 (.acons (.var 2) (.acons (.var 3) .anil))) .anil))) (.acons (.call 21 (.acons (.call 22 (.acons (.var 2) (.acons (.var 3) .anil))) (.acons (.var 1) .anil))) .anil)))) (.cons (.asg (.nm 5) (.lst (.acons (.call 22 (.acons (.call 21 (.acons (.var 1) (.acons (.var 2) .anil))) (.acons (.call 21 (.acons (.var 1) (.acons (.var 3) .anil))) .anil))) .anil))) (.cons (.exp (.mth .append (.var 5) (.acons (.call 22 (.acons (.call 21 (.acons (.var 2) (.acons (.var 1) .anil))) (.acons (.call 21 (.acons (.var 3) (.acons (.var 1) .anil))) .anil))) .anil))) (.cons (.ife (.or (.cmp .NotEq (.var 4) (.var 5)) (.one (.not (.call 25 (.acons (.lst (.acons (.var 1) (.acons (.var 2) (.acons (.var 3) .anil)))) .anil))))) (.cons (.ret (.cst (.bl false))) .nil) .nil) .nil))))) .nil))) .nil))) (.cons (.ret (.cst (.bl true))) .nil)))
/-- _law_all_right -/
def f_13 : Fd := { d := ⟨("_law_all_right", none), "_law_all_right", "_law_all_right", defArgs (top 23), defBody (top 23), defScope (top 23), [], []⟩, N := ["order", "one", "other", "third", "both", "due"], np := 0, body := b_13 }
def b_14 : Zy.St := .cons (.asg (.nm 2) (.ix (.glb 2) (.call 18 (.acons (.var 0) (.acons (.cst (.int (5))) .anil))))) (.cons (.asg (.nm 3) (.lst (.acons (.lam 27 (.call 22 (.acons (.var 1) .anil))) .anil))) (.cons (.exp (.mth .append (.var 3) (.acons (.lam 27 (.call 21 (.acons (.var 1) .anil))) .anil))) (.cons (.exp (.mth .append (.var 3) (.acons (.lam 27 (.call 22 (.acons (.var 2) (.acons (.var 1) .anil)))) .anil))) (.cons (.exp (.mth .append (.var 3) (.acons (.lam 27 (.call 21 (.acons (.cst (.str [110, 111, 110, 101])) (.acons (.var 2) (.acons (.var 1) .anil))))) .anil))) (.cons (.exp (.mth .append (.var 3) (.acons (.lam 27 (.call 22 (.acons (.var 1) (.acons (.cst (.non)) (.acons (.var 2) .anil))))) .anil))) (.cons (.ret (.cmp .Eq (.var 3) (.bin .Mult (.lst (.acons (.cst (.bl true)) .anil)) (.cst (.int (5)))))) .nil))))))
/-- _law_odd_right -/
def f_14 : Fd := { d := ⟨("_law_odd_right", none), "_law_odd_right", "_law_odd_right", defArgs (top 24), defBody (top 24), defScope (top 24), [], []⟩, N := ["stream", "odd", "grade", "found"], np := 2, lm := true, body := b_14 }
def b_15 : Zy.St := .cons (.for_ (.rng1 29 (.acons (.bfn 13 (.acons (.cst (.int (1))) (.acons (.bfn 17 (.acons (.cst (.int (6))) (.acons (.bfn 16 (.acons (.var 0) .anil)) .anil))) .anil))) .anil)) (.nm 1) (.cons (.asg (.nm 2) (.call 32 (.acons (.var 0) (.acons (.var 1) .anil)))) (.cons (.for_ (.rng1 29 (.acons (.cst (.int (2))) .anil)) (.nm 3) (.cons (.ife (.not (.call 25 (.acons (.cpr (.rng1 29 (.acons (.ix (.lst (.acons (.cst (.int (5))) (.acons (.cst (.int (7))) .anil))) (.var 3)) .anil)) (.nm 4) .yes (.ix (.glb 2) (.call 18 (.acons (.var 2) (.acons (.cst (.int (5))) .anil)))) [4]) .anil))) (.cons (.ret (.cst (.bl false))) .nil) .nil) .nil)) (.cons (.asg (.nm 5) (.lst (.acons (.cst (.non)) (.acons (.cst (.int (0))) (.acons (.cst (.bl true)) (.acons (.cst (.str [])) (.acons (.cst (.str [70, 114, 101, 101])) (.acons (.cst (.str [110, 111, 116, 104, 105, 110, 103])) (.acons (.cst (.str [102, 114, 101, 101, 32])) (.acons (.tup (.acons (.cst (.str [102, 114, 101, 101])) .anil)) (.acons (.lst (.acons (.cst (.str [102, 114, 101, 101])) .anil)) (.acons (.dnew) (.acons (.glb 2) (.acons (.bin .Pow (.cst (.int (10))) (.cst (.int (39)))) .anil)))))))))))))) (.cons (.ife (.not (.call 30 (.acons (.var 2) (.acons (.ix (.var 5) (.call 18 (.acons (.var 2) (.acons (.bfn 16 (.acons (.var 5) .anil)) .anil)))) .anil)))) (.cons (.ret (.cst (.bl false))) .nil) .nil) (.cons (.asg (.nm 6) (.call 31 (.acons (.var 2) .anil))) (.cons (.ife (.and (.not (.bfn 3 (.acons (.var 6) (.acons (.glb 4) .anil)))) (.one (.not (.call 30 (.acons (.var 2) (.acons (.var 6) .anil)))))) (.cons (.ret (.cst (.bl false))) .nil) .nil) .nil))))))) (.cons (.ret (.call 28 .anil)) .nil)
/-- law -/
def f_15 : Fd := { d := ⟨("law", none), "law", "law", defArgs (top 25), defBody (top 25), defScope (top 25), [], []⟩, N := ["script", "at", "stream", "turn", "place", "odd", "other"], np := 1, body := b_15 }
def tx : TX where
  T := { gl := ([("CHOICE_PLACES", .dct [([114, 101, 115, 116, 97, 114, 116], .int (0)), ([102, 114, 101, 101], .int (1)), ([112, 97, 105, 100], .int (2)), ([100, 101, 97, 114], .int (3)), ([110, 111, 110, 101], .int (4))]), ("SEQUENCE_PLACES", .dct [([102, 114, 101, 101], .int (0)), ([112, 97, 105, 100], .int (1)), ([114, 101, 115, 116, 97, 114, 116], .int (2)), ([100, 101, 97, 114], .int (3)), ([110, 111, 110, 101], .int (4))]), ("GRADES", .val (.tup [.str [114, 101, 115, 116, 97, 114, 116], .str [102, 114, 101, 101], .str [112, 97, 105, 100], .str [100, 101, 97, 114], .str [110, 111, 110, 101]])), ("isinstance", .bf .isi), ("str", .ty "str"), ("all", .bf .all), ("is_grade", .fn 2), ("InvalidOperation", .ex 1), ("better", .fn 0), ("NONE", .val (.str [110, 111, 110, 101])), ("require_grades", .fn 3), ("joined", .fn 1), ("FREE", .val (.str [102, 114, 101, 101])), ("max", .bf .max), ("int", .ty "int"), ("abs", .bf .abs), ("len", .bf .len), ("min", .bf .min), ("_law_draw", .fn 7), ("ValueError", .ty "ValueError")] : List (Str × GK)) ++ ([("LimitError", .ex 0), ("sequence", .fn 5), ("choice", .fn 4), ("_law_joined", .fn 9), ("_law_better", .fn 8), ("_law_right", .fn 12), ("list", .ty "list"), ("_law_refused", .lam 11), ("_law_all_right", .fn 13), ("range", .rng), ("_law_odd_right", .fn 14), ("_law_other", .fn 10), ("_law_stream", .fn 6)] : List (Str × GK)) }
  fs := ([f_0, f_1, f_2, f_3, f_4, f_5, f_6, f_7, f_8, f_9, f_10, f_11, f_12, f_13, f_14, f_15] : List Fd)
  cl := [("LimitError", .val), ("InvalidOperation", .val)]
  subL := ([(.own 0, .own 0, true), (.own 0, .own 1, false), (.own 0, .blt "ValueError", true), (.own 1, .own 0, true), (.own 1, .own 1, true), (.own 1, .blt "ValueError", true)] : List (XC × XC × Bool))
  ds := [("CHOICE_PLACES", ["restart", "free", "paid", "dear", "none"]), ("SEQUENCE_PLACES", ["free", "paid", "restart", "dear", "none"])]
theorem bd_0 : Bd f_0 := .plain 2 rfl rfl fun _ _ _ _ _ _ us hl => match us, hl with | [_, _], _ => rfl
theorem bd_1 : Bd f_1 := .plain 2 rfl rfl fun _ _ _ _ _ _ us hl => match us, hl with | [_, _], _ => rfl
theorem bd_2 : Bd f_2 := .plain 1 rfl rfl fun _ _ _ _ _ _ us hl => match us, hl with | [_], _ => rfl
theorem bd_3 : Bd f_3 := .plain 1 rfl rfl fun _ _ _ _ _ _ us hl => match us, hl with | [_], _ => rfl
theorem bd_4 : Bd f_4 := .star 0 rfl rfl fun _ _ _ _ _ _ us rest hl => match us, rest, hl with | [], [], _ => rfl | [], _ :: _, _ => rfl
theorem bd_5 : Bd f_5 := .star 0 rfl rfl fun _ _ _ _ _ _ us rest hl => match us, rest, hl with | [], [], _ => rfl | [], _ :: _, _ => rfl
theorem bd_6 : Bd f_6 := .plain 2 rfl rfl fun _ _ _ _ _ _ us hl => match us, hl with | [_, _], _ => rfl
theorem bd_7 : Bd f_7 := .plain 2 rfl rfl fun _ _ _ _ _ _ us hl => match us, hl with | [_, _], _ => rfl
theorem bd_8 : Bd f_8 := .plain 2 rfl rfl fun _ _ _ _ _ _ us hl => match us, hl with | [_, _], _ => rfl
theorem bd_9 : Bd f_9 := .plain 2 rfl rfl fun _ _ _ _ _ _ us hl => match us, hl with | [_, _], _ => rfl
theorem bd_10 : Bd f_10 := .plain 1 rfl rfl fun _ _ _ _ _ _ us hl => match us, hl with | [_], _ => rfl
theorem bd_11 : Bd f_11 := .plain 1 rfl rfl fun _ _ _ _ _ _ us hl => match us, hl with | [_], _ => rfl
theorem bd_12 : Bd f_12 := .plain 1 rfl rfl fun _ _ _ _ _ _ us hl => match us, hl with | [_], _ => rfl
theorem bd_13 : Bd f_13 := .plain 0 rfl rfl fun _ _ _ _ _ _ us hl => match us, hl with | [], _ => rfl
theorem bd_14 : Bd f_14 := .plain 2 rfl rfl fun _ _ _ _ _ _ us hl => match us, hl with | [_, _], _ => rfl
theorem bd_15 : Bd f_15 := .plain 1 rfl rfl fun _ _ _ _ _ _ us hl => match us, hl with | [_], _ => rfl
theorem ck_0 : fdB tx.T f_0 = true := by decide +kernel
theorem ck_1 : fdB tx.T f_1 = true := by decide +kernel
theorem ck_2 : fdB tx.T f_2 = true := by decide +kernel
theorem ck_3 : fdB tx.T f_3 = true := by decide +kernel
theorem ck_4 : fdB tx.T f_4 = true := by decide +kernel
theorem ck_5 : fdB tx.T f_5 = true := by decide +kernel
theorem ck_6 : fdB tx.T f_6 = true := by decide +kernel
theorem ck_7 : fdB tx.T f_7 = true := by decide +kernel
theorem ck_8 : fdB tx.T f_8 = true := by decide +kernel
theorem ck_9 : fdB tx.T f_9 = true := by decide +kernel
theorem ck_10 : fdB tx.T f_10 = true := by decide +kernel
theorem ck_11 : fdB tx.T f_11 = true := by decide +kernel
theorem ck_12 : fdB tx.T f_12 = true := by decide +kernel
theorem ck_13 : fdB tx.T f_13 = true := by decide +kernel
theorem ck_14 : fdB tx.T f_14 = true := by decide +kernel
theorem ck_15 : fdB tx.T f_15 = true := by decide +kernel
theorem bds : ∀ f ∈ tx.fs, Bd f := by
  intro f hf
  simp only [tx, List.mem_cons, List.not_mem_nil, or_false] at hf
  rcases hf with rfl | rfl | rfl | rfl | rfl | rfl | rfl | rfl | rfl | rfl | rfl | rfl | rfl | rfl | rfl | rfl
  · exact bd_0
  · exact bd_1
  · exact bd_2
  · exact bd_3
  · exact bd_4
  · exact bd_5
  · exact bd_6
  · exact bd_7
  · exact bd_8
  · exact bd_9
  · exact bd_10
  · exact bd_11
  · exact bd_12
  · exact bd_13
  · exact bd_14
  · exact bd_15
theorem cks : ∀ f ∈ tx.fs, fdB tx.T f = true := by
  intro f hf
  simp only [tx, List.mem_cons, List.not_mem_nil, or_false] at hf
  rcases hf with rfl | rfl | rfl | rfl | rfl | rfl | rfl | rfl | rfl | rfl | rfl | rfl | rfl | rfl | rfl | rfl
  · exact ck_0
  · exact ck_1
  · exact ck_2
  · exact ck_3
  · exact ck_4
  · exact ck_5
  · exact ck_6
  · exact ck_7
  · exact ck_8
  · exact ck_9
  · exact ck_10
  · exact ck_11
  · exact ck_12
  · exact ck_13
  · exact ck_14
  · exact ck_15
/-- better -/
def s_0 (r : Rt) : DS := (dSeq (dRet (dIf (uB (dCmp .LtE (dWix [([114, 101, 115, 116, 97, 114, 116], .int (0)), ([102, 114, 101, 101], .int (1)), ([112, 97, 105, 100], .int (2)), ([100, 101, 97, 114], .int (3)), ([110, 111, 110, 101], .int (4))] (dVar 0)) (dWix [([114, 101, 115, 116, 97, 114, 116], .int (0)), ([102, 114, 101, 101], .int (1)), ([112, 97, 105, 100], .int (2)), ([100, 101, 97, 114], .int (3)), ([110, 111, 110, 101], .int (4))] (dVar 1)))) (dVar 0) (dVar 1))) dNop)
theorem sh_0 (r : Rt) : (evS tx.T none b_0 r).s = s_0 r := by kernel_rfl
/-- joined -/
def s_1 (r : Rt) : DS := (dSeq (dRet (dIf (uB (dCmp .GtE (dWix [([102, 114, 101, 101], .int (0)), ([112, 97, 105, 100], .int (1)), ([114, 101, 115, 116, 97, 114, 116], .int (2)), ([100, 101, 97, 114], .int (3)), ([110, 111, 110, 101], .int (4))] (dVar 0)) (dWix [([102, 114, 101, 101], .int (0)), ([112, 97, 105, 100], .int (1)), ([114, 101, 115, 116, 97, 114, 116], .int (2)), ([100, 101, 97, 114], .int (3)), ([110, 111, 110, 101], .int (4))] (dVar 1)))) (dVar 0) (dVar 1))) dNop)
theorem sh_1 (r : Rt) : (evS tx.T none b_1 r).s = s_1 r := by kernel_rfl
/-- is_grade -/
def s_2 (r : Rt) : DS := (dSeq (dRet (dAnd (dFn (on2 zIsi) (dCons (dVar 0) (dCons (dC (.ty "str")) dNil))) (dCmp .In (dVar 0) (dC (.tup [.str [114, 101, 115, 116, 97, 114, 116], .str [102, 114, 101, 101], .str [112, 97, 105, 100], .str [100, 101, 97, 114], .str [110, 111, 110, 101]]))))) dNop)
theorem sh_2 (r : Rt) : (evS tx.T none b_2 r).s = s_2 r := by kernel_rfl
/-- require_grades -/
def s_3 (r : Rt) : DS := (dSeq (dIfS (uNot (dTru (dFn (on1 zAll) (dCons (dComp (dIter (dVar 0)) (.nm 1) dYes (dCall r.cf 2 (dCons (dVar 1) dNil)) [1]) dNil)))) (dSeq (dRaise 1) dNop) dNop) dNop)
theorem sh_3 (r : Rt) : (evS tx.T none b_3 r).s = s_3 r := by kernel_rfl
/-- choice -/
def s_4 (r : Rt) : DS := (dSeq (dExp (dCall r.cf 3 (dCons (dVar 0) dNil))) (dSeq (dAsg (dgName 1) (dC (.str [110, 111, 110, 101]))) (dSeq (dFor (dIter (dVar 0)) (dgName 2) (dSeq (dAsg (dgName 1) (dCall r.cf 0 (dCons (dVar 1) (dCons (dVar 2) dNil)))) dNop)) (dSeq (dRet (dVar 1)) dNop))))
theorem sh_4 (r : Rt) : (evS tx.T none b_4 r).s = s_4 r := by kernel_rfl
/-- sequence -/
def s_5 (r : Rt) : DS := (dSeq (dExp (dCall r.cf 3 (dCons (dVar 0) dNil))) (dSeq (dAsg (dgName 1) (dC (.str [102, 114, 101, 101]))) (dSeq (dFor (dIter (dVar 0)) (dgName 2) (dSeq (dAsg (dgName 1) (dCall r.cf 1 (dCons (dVar 1) (dCons (dVar 2) dNil)))) dNop)) (dSeq (dRet (dVar 1)) dNop))))
theorem sh_5 (r : Rt) : (evS tx.T none b_5 r).s = s_5 r := by kernel_rfl
/-- _law_stream -/
def s_6 (r : Rt) : DS := (dSeq (dAsg (dgName 2) (dBin .Add (dBin .Mult (dC (.int (7))) (dVar 1)) (dC (.int (3))))) (dSeq (dIfS (uB (dCmp .Lt (dVar 1) (dFn (on1 zLen) (dCons (dVar 0) dNil)))) (dSeq (dAsg (dgName 2) (dIx (dVar 0) (dVar 1))) dNop) dNop) (dSeq (dAsg (dgName 3) (dBin .Mod (dFn (on1 zAbs) (dCons (dVar 2) dNil)) (dBin .Pow (dBin .Pow (dC (.int (10))) (dC (.int (60)))) (dC (.int (12)))))) (dSeq (dAsg (dgName 4) (dBin .Mod (dBin .Add (dBin .Add (dBin .Add (dBin .Mult (dBin .Mod (dVar 3) (dC (.int (2147483629)))) (dC (.int (48271)))) (dBin .Mult (dC (.int (977))) (dVar 1))) (dBin .Mult (dC (.int (2))) (dFn (tyZ "int") (dCons (dCmp .Lt (dVar 2) (dC (.int (0)))) dNil)))) (dC (.int (11)))) (dC (.int (2147483647))))) (dSeq (dRet (dLst (dCons (dFn (on2 zMax2) (dCons (dC (.int (0))) (dCons (dBin .Sub (dVar 3) (dBin .Pow (dC (.int (10))) (dC (.int (18))))) dNil))) (dCons (dVar 4) (dCons (dC (.int (0))) dNil))))) dNop)))))
theorem sh_6 (r : Rt) : (evS tx.T none b_6 r).s = s_6 r := by kernel_rfl
/-- _law_draw -/
def s_7 (r : Rt) : DS := (dSeq (dIfS (uB (dCmp .Gt (dIx (dVar 0) (dC (.int (0)))) (dC (.int (0))))) (dSeq (dAsg (dgName 2) (dBin .Mod (dIx (dVar 0) (dC (.int (0)))) (dVar 1))) (dSeq (dAsg (dgSub (dVar 0) (dC (.int (0)))) (dBin .FloorDiv (dIx (dVar 0) (dC (.int (0)))) (dVar 1))) (dSeq (dRet (dVar 2)) dNop))) dNop) (dSeq (dAsg (dgSub (dVar 0) (dC (.int (2)))) (dBin .Add (dIx (dVar 0) (dC (.int (2)))) (dC (.int (1))))) (dSeq (dAsg (dgName 3) (dBin .Mod (dBin .Add (dIx (dVar 0) (dC (.int (1)))) (dBin .Mult (dC (.int (1000003))) (dIx (dVar 0) (dC (.int (2)))))) (dC (.int (2305843009213693951))))) (dSeq (dAsg (dgName 4) (dBin .Mod (dBin .Add (dBin .Mult (dBin .Mod (dBin .Mult (dVar 3) (dVar 3)) (dC (.int (2305843009213693921)))) (dVar 3)) (dBin .Mult (dC (.int (8191))) (dIx (dVar 0) (dC (.int (2)))))) (dC (.int (2305843009213693907))))) (dSeq (dRet (dBin .Mod (dBin .FloorDiv (dVar 4) (dC (.int (4096)))) (dVar 1))) dNop)))))
theorem sh_7 (r : Rt) : (evS tx.T none b_7 r).s = s_7 r := by kernel_rfl
/-- _law_better -/
def s_8 (r : Rt) : DS := (dSeq (dAsg (dgName 2) (dLst (dCons (dC (.str [114, 101, 115, 116, 97, 114, 116])) (dCons (dC (.str [102, 114, 101, 101])) (dCons (dC (.str [112, 97, 105, 100])) (dCons (dC (.str [100, 101, 97, 114])) (dCons (dC (.str [110, 111, 110, 101])) dNil))))))) (dSeq (dRet (dIx (dVar 2) (dFn (on2 zMin2) (dCons (dMth zIndex ["list"] (dVar 2) (dCons (dVar 0) dNil)) (dCons (dMth zIndex ["list"] (dVar 2) (dCons (dVar 1) dNil)) dNil))))) dNop))
theorem sh_8 (r : Rt) : (evS tx.T none b_8 r).s = s_8 r := by kernel_rfl
/-- _law_joined -/
def s_9 (r : Rt) : DS := (dSeq (dAsg (dgName 2) (dLst (dCons (dC (.str [102, 114, 101, 101])) (dCons (dC (.str [112, 97, 105, 100])) (dCons (dC (.str [114, 101, 115, 116, 97, 114, 116])) (dCons (dC (.str [100, 101, 97, 114])) (dCons (dC (.str [110, 111, 110, 101])) dNil))))))) (dSeq (dRet (dIx (dVar 2) (dFn (on2 zMax2) (dCons (dMth zIndex ["list"] (dVar 2) (dCons (dVar 0) dNil)) (dCons (dMth zIndex ["list"] (dVar 2) (dCons (dVar 1) dNil)) dNil))))) dNop))
theorem sh_9 (r : Rt) : (evS tx.T none b_9 r).s = s_9 r := by kernel_rfl
/-- _law_other -/
def s_10 (r : Rt) : DS := (dSeq (dAsg (dgName 1) (dLst (dCons (dC (.non)) (dCons (dC (.bl true)) (dCons (dNeg (dC (.int (1)))) (dCons (dC (.int (0))) (dCons (dC (.int (1))) (dCons (dC (.str [])) (dCons (dC (.str [97])) (dCons (dC (.str [97, 98])) (dCons (dTup dNil) (dCons (dLst dNil) (dCons dNewD (dCons (dTup (dCons (dC (.int (0))) dNil)) (dCons (dTup (dCons (dC (.str [97])) dNil)) (dCons (dBin .Pow (dC (.int (10))) (dC (.int (39)))) dNil)))))))))))))))) (dSeq (dAsg (dgName 1) (dBin .Add (dVar 1) (dLst (dCons (dC (.str [110, 101, 118, 101, 114])) (dCons (dTup (dCons (dC (.non)) dNil)) (dCons (dTup (dCons (dTup dNil) dNil)) (dCons (dLst (dCons (dTup dNil) dNil)) (dCons (ev tx.T (.dmk (.dcons (.cst (.int (0))) (.cst (.int (1))) .dnil)) r none).e dNil)))))))) (dSeq (dRet (dIx (dVar 1) (dCall r.cf 7 (dCons (dVar 0) (dCons (dFn (on1 zLen) (dCons (dVar 1) dNil)) dNil))))) dNop)))
theorem sh_10 (r : Rt) : (evS tx.T none b_10 r).s = s_10 r := by kernel_rfl
/-- _law_refused -/
def s_11 (r : Rt) : DS := (dSeq (dTry r.sub (dSeq (dExp (dAct 0 r.th)) dNop) [⟨.own 1, (some 1), fun x => let r : Rt := { r with x := some x }; (dSeq (dRet (dAnd (dIsE r.sub r.x (.own 0) 1) (dIsE r.sub r.x (.blt "ValueError") 1))) dNop)⟩, ⟨.own 0, none, fun x => let r : Rt := { r with x := some x }; (dSeq (dRet (dC (.bl false))) dNop)⟩]) (dSeq (dRet (dC (.bl false))) dNop))
theorem sh_11 (r : Rt) : (evS tx.T none b_11 r).s = s_11 r := by kernel_rfl
/-- _law_right -/
def s_12 (r : Rt) : DS := (dSeq (dPar 1 2 (dCons (dIx (dVar 0) (dC (.int (0)))) (dCons (dIx (dVar 0) (dC (.int (0)))) dNil))) (dSeq (dFor (dIter (dSlc (dVar 0) (dPart (dC (.int (1)))) dNoPart)) (dgName 3) (dSeq (dPar 1 2 (dCons (dCall r.cf 8 (dCons (dVar 1) (dCons (dVar 3) dNil))) (dCons (dCall r.cf 9 (dCons (dVar 2) (dCons (dVar 3) dNil))) dNil))) dNop)) (dSeq (dIfS (uB (dCmp .Eq (dFn (on1 zLen) (dCons (dVar 0) dNil)) (dC (.int (2))))) (dSeq (dRet (dCmp .Eq (dLst (dCons (dCall r.cf 4 (dCons (dIx (dVar 0) (dC (.int (0)))) (dCons (dIx (dVar 0) (dC (.int (1)))) dNil))) (dCons (dCall r.cf 5 (dCons (dIx (dVar 0) (dC (.int (0)))) (dCons (dIx (dVar 0) (dC (.int (1)))) dNil))) dNil))) (dLst (dCons (dVar 1) (dCons (dVar 2) dNil))))) dNop) dNop) (dSeq (dIfS (uB (dCmp .Eq (dFn (on1 zLen) (dCons (dVar 0) dNil)) (dC (.int (3))))) (dSeq (dRet (dCmp .Eq (dLst (dCons (dCall r.cf 4 (dCons (dIx (dVar 0) (dC (.int (0)))) (dCons (dIx (dVar 0) (dC (.int (1)))) (dCons (dIx (dVar 0) (dC (.int (2)))) dNil)))) (dCons (dCall r.cf 5 (dCons (dIx (dVar 0) (dC (.int (0)))) (dCons (dIx (dVar 0) (dC (.int (1)))) (dCons (dIx (dVar 0) (dC (.int (2)))) dNil)))) dNil))) (dLst (dCons (dVar 1) (dCons (dVar 2) dNil))))) dNop) dNop) (dSeq (dAsg (dgTup 5 (dgCons (dgName 4) (dgCons (dgName 5) (dgCons (dgName 6) (dgCons (dgName 7) (dgCons (dgName 8) dgNil)))))) (dSlc (dVar 0) dNoPart (dPart (dC (.int (5)))))) (dSeq (dIfS (uB (dCmp .Eq (dFn (on1 zLen) (dCons (dVar 0) dNil)) (dC (.int (5))))) (dSeq (dRet (dCmp .Eq (dLst (dCons (dCall r.cf 4 (dCons (dVar 4) (dCons (dVar 5) (dCons (dVar 6) (dCons (dVar 7) (dCons (dVar 8) dNil)))))) (dCons (dCall r.cf 5 (dCons (dVar 4) (dCons (dVar 5) (dCons (dVar 6) (dCons (dVar 7) (dCons (dVar 8) dNil)))))) dNil))) (dLst (dCons (dVar 1) (dCons (dVar 2) dNil))))) dNop) dNop) (dSeq (dAsg (dgTup 2 (dgCons (dgName 9) (dgCons (dgName 10) dgNil))) (dSlc (dVar 0) (dPart (dC (.int (5)))) dNoPart)) (dSeq (dAsg (dgName 11) (dLst (dCons (dCall r.cf 4 (dCons (dVar 4) (dCons (dVar 5) (dCons (dVar 6) (dCons (dVar 7) (dCons (dVar 8) (dCons (dVar 9) (dCons (dVar 10) dNil)))))))) (dCons (dCall r.cf 5 (dCons (dVar 4) (dCons (dVar 5) (dCons (dVar 6) (dCons (dVar 7) (dCons (dVar 8) (dCons (dVar 9) (dCons (dVar 10) dNil)))))))) dNil)))) (dSeq (dRet (dCmp .Eq (dVar 11) (dLst (dCons (dVar 1) (dCons (dVar 2) dNil))))) dNop)))))))))
theorem sh_12 (r : Rt) : (evS tx.T none b_12 r).s = s_12 r := by kernel_rfl
/-- _law_all_right -/
def s_13 (r : Rt) : DS := (dSeq (dAsg (dgName 0) (dLst (dCons (dC (.str [114, 101, 115, 116, 97, 114, 116])) (dCons (dC (.str [102, 114, 101, 101])) (dCons (dC (.str [112, 97, 105, 100])) (dCons (dC (.str [100, 101, 97, 114])) (dCons (dC (.str [110, 111, 110, 101])) dNil))))))) (dSeq (dIfS (uOr (uB (dCmp .NotEq (dFn (tyZ "list") (dCons (dC (.tup [.str [114, 101, 115, 116, 97, 114, 116], .str [102, 114, 101, 101], .str [112, 97, 105, 100], .str [100, 101, 97, 114], .str [110, 111, 110, 101]])) dNil)) (dVar 0))) (uOr (uB (dCmp .NotEq (dCall r.cf 4 dNil) (dC (.str [110, 111, 110, 101])))) (uB (dCmp .NotEq (dCall r.cf 5 dNil) (dC (.str [102, 114, 101, 101])))))) (dSeq (dRet (dC (.bl false))) dNop) dNop) (dSeq (dFor (dIter (dVar 0)) (dgName 1) (dSeq (dIfS (uOr (uB (dCmp .NotEq (dCall r.cf 4 (dCons (dVar 1) dNil)) (dVar 1))) (uB (dCmp .NotEq (dCall r.cf 5 (dCons (dVar 1) dNil)) (dVar 1)))) (dSeq (dRet (dC (.bl false))) dNop) dNop) (dSeq (dFor (dIter (dVar 0)) (dgName 2) (dSeq (dIfS (uNot (dTru (dCall r.cf 12 (dCons (dLst (dCons (dVar 1) (dCons (dVar 2) dNil))) dNil)))) (dSeq (dRet (dC (.bl false))) dNop) dNop) (dSeq (dFor (dIter (dVar 0)) (dgName 3) (dSeq (dAsg (dgName 4) (dLst (dCons (dCall r.cf 5 (dCons (dVar 1) (dCons (dCall r.cf 4 (dCons (dVar 2) (dCons (dVar 3) dNil))) dNil))) (dCons (dCall r.cf 5 (dCons (dCall r.cf 4 (dCons (dVar 2) (dCons (dVar 3) dNil))) (dCons (dVar 1) dNil))) dNil)))) (dSeq (dAsg (dgName 5) (dLst (dCons (dCall r.cf 4 (dCons (dCall r.cf 5 (dCons (dVar 1) (dCons (dVar 2) dNil))) (dCons (dCall r.cf 5 (dCons (dVar 1) (dCons (dVar 3) dNil))) dNil))) dNil))) (dSeq (dExp (dMth zAppend ["list"] (dVar 5) (dCons (dCall r.cf 4 (dCons (dCall r.cf 5 (dCons (dVar 2) (dCons (dVar 1) dNil))) (dCons (dCall r.cf 5 (dCons (dVar 3) (dCons (dVar 1) dNil))) dNil))) dNil))) (dSeq (dIfS (uOr (uB (dCmp .NotEq (dVar 4) (dVar 5))) (uNot (dTru (dCall r.cf 12 (dCons (dLst (dCons (dVar 1) (dCons (dVar 2) (dCons (dVar 3) dNil)))) dNil))))) (dSeq (dRet (dC (.bl false))) dNop) dNop) dNop))))) dNop))) dNop))) (dSeq (dRet (dC (.bl true))) dNop))))
theorem sh_13 (r : Rt) : (evS tx.T none b_13 r).s = s_13 r := by kernel_rfl
/-- _law_odd_right -/
def s_14 (r : Rt) : DS := (dSeq (dAsg (dgName 2) (dIx (dC (.tup [.str [114, 101, 115, 116, 97, 114, 116], .str [102, 114, 101, 101], .str [112, 97, 105, 100], .str [100, 101, 97, 114], .str [110, 111, 110, 101]])) (dCall r.cf 7 (dCons (dVar 0) (dCons (dC (.int (5))) dNil))))) (dSeq (dAsg (dgName 3) (dLst (dCons (fun l G => r.lf 11 (fun G' => ((dCall r.low 4 (dCons (dVar 1) dNil)) : DE) l G') G) dNil))) (dSeq (dExp (dMth zAppend ["list"] (dVar 3) (dCons (fun l G => r.lf 11 (fun G' => ((dCall r.low 5 (dCons (dVar 1) dNil)) : DE) l G') G) dNil))) (dSeq (dExp (dMth zAppend ["list"] (dVar 3) (dCons (fun l G => r.lf 11 (fun G' => ((dCall r.low 4 (dCons (dVar 2) (dCons (dVar 1) dNil))) : DE) l G') G) dNil))) (dSeq (dExp (dMth zAppend ["list"] (dVar 3) (dCons (fun l G => r.lf 11 (fun G' => ((dCall r.low 5 (dCons (dC (.str [110, 111, 110, 101])) (dCons (dVar 2) (dCons (dVar 1) dNil)))) : DE) l G') G) dNil))) (dSeq (dExp (dMth zAppend ["list"] (dVar 3) (dCons (fun l G => r.lf 11 (fun G' => ((dCall r.low 4 (dCons (dVar 1) (dCons (dC (.non)) (dCons (dVar 2) dNil)))) : DE) l G') G) dNil))) (dSeq (dRet (dCmp .Eq (dVar 3) (dBin .Mult (dLst (dCons (dC (.bl true)) dNil)) (dC (.int (5)))))) dNop)))))))
theorem sh_14 (r : Rt) : (evS tx.T none b_14 r).s = s_14 r := by kernel_rfl
/-- law -/
def s_15 (r : Rt) : DS := (dSeq (dFor (dRng1 (dCons (dFn (on2 zMax2) (dCons (dC (.int (1))) (dCons (dFn (on2 zMin2) (dCons (dC (.int (6))) (dCons (dFn (on1 zLen) (dCons (dVar 0) dNil)) dNil))) dNil))) dNil)) (dgName 1) (dSeq (dAsg (dgName 2) (dCall r.cf 6 (dCons (dVar 0) (dCons (dVar 1) dNil)))) (dSeq (dFor (dRng1 (dCons (dC (.int (2))) dNil)) (dgName 3) (dSeq (dIfS (uNot (dTru (dCall r.cf 12 (dCons (dComp (dRng1 (dCons (dIx (dLst (dCons (dC (.int (5))) (dCons (dC (.int (7))) dNil))) (dVar 3)) dNil)) (.nm 4) dYes (dIx (dC (.tup [.str [114, 101, 115, 116, 97, 114, 116], .str [102, 114, 101, 101], .str [112, 97, 105, 100], .str [100, 101, 97, 114], .str [110, 111, 110, 101]])) (dCall r.cf 7 (dCons (dVar 2) (dCons (dC (.int (5))) dNil)))) [4]) dNil)))) (dSeq (dRet (dC (.bl false))) dNop) dNop) dNop)) (dSeq (dAsg (dgName 5) (dLst (dCons (dC (.non)) (dCons (dC (.int (0))) (dCons (dC (.bl true)) (dCons (dC (.str [])) (dCons (dC (.str [70, 114, 101, 101])) (dCons (dC (.str [110, 111, 116, 104, 105, 110, 103])) (dCons (dC (.str [102, 114, 101, 101, 32])) (dCons (dTup (dCons (dC (.str [102, 114, 101, 101])) dNil)) (dCons (dLst (dCons (dC (.str [102, 114, 101, 101])) dNil)) (dCons dNewD (dCons (dC (.tup [.str [114, 101, 115, 116, 97, 114, 116], .str [102, 114, 101, 101], .str [112, 97, 105, 100], .str [100, 101, 97, 114], .str [110, 111, 110, 101]])) (dCons (dBin .Pow (dC (.int (10))) (dC (.int (39)))) dNil)))))))))))))) (dSeq (dIfS (uNot (dTru (dCall r.cf 14 (dCons (dVar 2) (dCons (dIx (dVar 5) (dCall r.cf 7 (dCons (dVar 2) (dCons (dFn (on1 zLen) (dCons (dVar 5) dNil)) dNil)))) dNil))))) (dSeq (dRet (dC (.bl false))) dNop) dNop) (dSeq (dAsg (dgName 6) (dCall r.cf 10 (dCons (dVar 2) dNil))) (dSeq (dIfS (uAnd (uNot (dTru (dFn (on2 zIsi) (dCons (dVar 6) (dCons (dC (.ty "str")) dNil))))) (uNot (dTru (dCall r.cf 14 (dCons (dVar 2) (dCons (dVar 6) dNil)))))) (dSeq (dRet (dC (.bl false))) dNop) dNop) dNop))))))) (dSeq (dRet (dCall r.cf 13 dNil)) dNop))
theorem sh_15 (r : Rt) : (evS tx.T none b_15 r).s = s_15 r := by kernel_rfl
-- LAW index 15 place 25
-- NAMES ["LimitError", "InvalidOperation", "GRADES", "NONE", "FREE", "CHOICE_PLACES", "SEQUENCE_PLACES", "better", "joined", "is_grade", "require_grades", "choice", "sequence", "_law_stream", "_law_draw", "_law_better", "_law_joined", "_law_other", "_law_refused", "_law_right", "_law_all_right", "_law_odd_right"]
end K
end
section
set_option Elab.async false
set_option linter.all false
set_option maxRecDepth 100000
set_option maxHeartbeats 4000000
namespace K
open PySem PySem.Spec PyProof.Rows L2 Zy
abbrev C (n : Nat) : Cd := callD tx.T tx.sub tx.fs n
abbrev rt (d : Nat) : Rt := mkRt tx.sub (d + 2) (C (d + 2)) (C d)
theorem cfS (d k : Nat) (f : Fd) (s : Rt → DS) (n np : Nat) (hk : tx.fs[k]? = some f) (ha : f.act = false) (hs : f.star = false) (hN : f.N.length = n) (hnp : f.np = np) (sh : ∀ r, (evS tx.T none f.body r).s = s r) {zs : List Z} {G : GH} (h : zs.length = np) :
    (C (d + 3)).cf k zs G = (s (rt d) (stL n zs) G).fin := by
  have e : (C (d + 3)).cf k = dFun tx.T f (rt d) := by
    show (stepD _ _ _ _ _ _).cf k = _
    unfold stepD
    simp only [hk, ha, Bool.false_eq_true, if_false]
  rw [e]
  unfold dFun
  rw [hs]
  simp only [Bool.false_eq_true, if_false]
  rw [if_pos (by rw [h, hnp]), sh, hN]
theorem cfV (d k : Nat) (f : Fd) (s : Rt → DS) (n np : Nat) (hk : tx.fs[k]? = some f) (ha : f.act = false) (hs : f.star = true) (hN : f.N.length = n) (hnp : f.np = np) (sh : ∀ r, (evS tx.T none f.body r).s = s r) {zs : List Z} {G : GH} (h : np ≤ zs.length) (h2 : zs.length ≤ sizeLine) :
    (C (d + 3)).cf k zs G = (s (rt d) (stL n (zs.take np ++ [.tup (zs.drop np)])) G).fin := by
  have e : (C (d + 3)).cf k = dFun tx.T f (rt d) := by
    show (stepD _ _ _ _ _ _).cf k = _
    unfold stepD
    simp only [hk, ha, Bool.false_eq_true, if_false]
  rw [e]
  unfold dFun
  rw [hs]
  simp only [if_true]
  rw [if_pos ⟨by rw [hnp]; exact h, h2⟩, sh, hN, hnp]
/-! ### grades -/
def gr : Fin 5 → List Nat
  | 0 => [114, 101, 115, 116, 97, 114, 116]
  | 1 => [102, 114, 101, 101]
  | 2 => [112, 97, 105, 100]
  | 3 => [100, 101, 97, 114]
  | 4 => [110, 111, 110, 101]
abbrev gz (i : Fin 5) : Z := .str (gr i)
theorem fin5 {P : Fin 5 → Prop} (h0 : P 0) (h1 : P 1) (h2 : P 2) (h3 : P 3) (h4 : P 4) : ∀ i, P i := fun i => match i with
  | 0 => h0 | 1 => h1 | 2 => h2 | 3 => h3 | 4 => h4
def bt (a b : Fin 5) : Fin 5 := if a.val ≤ b.val then a else b
def rk : Fin 5 → Nat
  | 0 => 2 | 1 => 0 | 2 => 1 | 3 => 3 | 4 => 4
def jt (a b : Fin 5) : Fin 5 := if rk b ≤ rk a then a else b
theorem better_ok (d : Nat) (G : GH) (i j : Fin 5) : (C (d + 3)).cf 0 [gz i, gz j] G = .ok (gz (bt i j)) G := by
  rw [cfS d 0 f_0 s_0 2 2 rfl rfl rfl rfl rfl sh_0 rfl]
  revert i j
  refine fin5 ?_ ?_ ?_ ?_ ?_ <;> refine fin5 ?_ ?_ ?_ ?_ ?_ <;> rfl
theorem joined_ok (d : Nat) (G : GH) (i j : Fin 5) : (C (d + 3)).cf 1 [gz i, gz j] G = .ok (gz (jt i j)) G := by
  rw [cfS d 1 f_1 s_1 2 2 rfl rfl rfl rfl rfl sh_1 rfl]
  revert i j
  refine fin5 ?_ ?_ ?_ ?_ ?_ <;> refine fin5 ?_ ?_ ?_ ?_ ?_ <;> rfl
def isG (x : List Nat) : Bool := gr 0 == x || (gr 1 == x || (gr 2 == x || (gr 3 == x || (gr 4 == x || false))))
/-- a value of which is_grade tells b -/
def Kn (G : GH) (v : Z) (b : Bool) : Prop := (∃ x, v = .str x ∧ b = isG x) ∨ (∃ t, tyName G v = some t ∧ isaB t "str" = some false ∧ b = false ∧ v ≠ .ex)
theorem is_grade_ok (d : Nat) (G : GH) (v : Z) (b : Bool) (h : Kn G v b) : (C (d + 3)).cf 2 [v] G = .ok (.bl b) G := by
  rw [cfS d 2 f_2 s_2 1 1 rfl rfl rfl rfl rfl sh_2 rfl]
  rcases h with ⟨x, rfl, rfl⟩ | ⟨t, h1, h2, rfl, h3⟩
  · rfl
  · have e : zIsi v (.ty "str") G = .ok (.bl false) G := by
      unfold zIsi
      simp only [h1, Option.bind_some, h2]
    have e0 : dVar 0 [some v] G = .ok v G := dVar_of rfl h3
    show (s_2 (rt d) [some v] G).fin = _
    simp [s_2, e0, e]
theorem Kn.gz (G : GH) : ∀ i, Kn G (gz i) true := by
  refine fin5 ?_ ?_ ?_ ?_ ?_ <;> exact .inl ⟨_, rfl, rfl⟩
theorem tyName_app {G E : GH} {v : Z} {t : String} (h : tyName G v = some t) : tyName (G ++ E) v = some t := by
  cases v with
  | ref n =>
    have h' : (match G[n]? with | some (.lst _) => some "list" | some (.dK _ _) => some "dict" | _ => none) = some t := h
    show (match (G ++ E)[n]? with | some (.lst _) => some "list" | some (.dK _ _) => some "dict" | _ => none) = some t
    cases q : G[n]? with
    | none => rw [q] at h'; cases h'
    | some o =>
      have hn := (List.getElem?_eq_some_iff.mp q).1
      rw [List.getElem?_append_left hn, q]
      rw [q] at h'
      exact h'
  | _ => exact h
theorem Kn.app {G E : GH} {v : Z} {b : Bool} (h : Kn G v b) : Kn (G ++ E) v b := by
  rcases h with h | ⟨t, h1, h2⟩
  · exact .inl h
  · exact .inr ⟨t, tyName_app h1, h2⟩

theorem blsOf_map : ∀ bs : List Bool, blsOf (bs.map .bl) = some bs
  | [] => rfl
  | b :: r => by
    rw [List.map_cons]
    unfold blsOf
    rw [blsOf_map r]; rfl
theorem require_ok (d : Nat) (G : GH) (vs : List Z) (bs : List Bool) (hs : vs.length ≤ sizeLine) (hl : vs.length = bs.length) (h : ∀ (k : Nat) (v : Z) (b : Bool), vs[k]? = some v → bs[k]? = some b → Kn G v b) :
    (C (d + 4)).cf 3 [.tup vs] G = if bs.all id then .ok .non (G ++ [.lst (bs.map .bl)]) else .exc ⟨.own 1, none⟩ (G ++ [.lst (bs.map .bl)]) := by
  rw [cfS (d + 1) 3 f_3 s_3 2 1 rfl rfl rfl rfl rfl sh_3 rfl]
  show (s_3 (rt (d + 1)) [some (.tup vs), none] G).fin = _
  obtain ⟨acc, G', h1, h2, h3, h4⟩ := lc_go (xs := vs) (i := 1) (e := dCall (rt (d + 1)).cf 2 (dCons (dVar 1) dNil)) (l := [some (.tup vs), none]) (n := G.length) (G0 := G ++ [.lst []]) (fun k acc G' => acc = (bs.take k).map .bl ∧ G' = G ++ [.lst acc])
    (fun k z acc G' hz hp hl2 => by
      obtain ⟨rfl, rfl⟩ := hp
      have hk := (List.getElem?_eq_some_iff.mp hz).1
      have hb : bs[k]? = some bs[k] := List.getElem?_eq_getElem (by omega)
      have kn := (h k z _ hz hb).app (E := [.lst ((bs.take k).map .bl)])
      have hzx : z ≠ .ex := by rcases kn with ⟨x, rfl, _⟩ | ⟨_, _, _, _, q⟩; exact fun q => nomatch q; exact q
      refine ⟨.bl bs[k], _, ?_, hl2, ?_, ?_⟩
      · have e0 : dVar 1 [some (.tup vs), some z] (G ++ [.lst ((bs.take k).map .bl)]) = .ok z _ := dVar_of rfl hzx
        have e1 := is_grade_ok d _ z _ kn
        simp only [List.set_cons_succ, List.set_cons_zero, dCall_ap, dCons_ap, dNil_ap, R.bind_ok, e0]
        exact e1
      · rw [List.take_add_one, hb, List.map_append]; rfl
      · rw [set_new])
    hs ⟨rfl, rfl⟩ lstAt_new
  obtain ⟨rfl, rfl⟩ := h4
  have hb : (bs.take vs.length) = bs := by rw [hl, List.take_length]
  rw [hb] at h1
  have e1 : zAll (.ref G.length) (G ++ [.lst (bs.map .bl)]) = .ok (.bl (bs.all id)) (G ++ [.lst (bs.map .bl)]) := by
    unfold zAll
    show (match (lstAt _ _).bind blsOf with | some bs => _ | none => _) = _
    rw [lstAt_new, Option.bind_some, blsOf_map]
  have e2 : toItr G (.tup vs) = some (.pure vs) := rfl
  generalize bs.all id = B at e1 ⊢
  unfold s_3
  simp [e2, Wk.len, wipeZ, h1, e1]
  cases B <;> simp

theorem choice_ok (d : Nat) (G : GH) (is : List (Fin 5)) (hs : is.length ≤ sizeLine) : (C (d + 5)).cf 4 (is.map gz) G = .ok (gz (is.foldl bt 4)) (G ++ [.lst ((is.map fun _ => true).map .bl)]) := by
  rw [cfV (d + 2) 4 f_4 s_4 3 0 rfl rfl rfl rfl rfl sh_4 (Nat.zero_le _) (by simpa using hs)]
  show (s_4 (rt (d + 2)) [some (.tup (is.map gz)), none, none] G).fin = _
  have hr := require_ok d G (is.map gz) (is.map fun _ => true) (by simpa using hs) (by simp) (fun k v b h1 h2 => by
    rw [List.getElem?_map] at h1 h2
    cases q : is[k]? with
    | none => rw [q] at h1; cases h1
    | some i => rw [q] at h1 h2; cases h1; cases h2; exact Kn.gz G i)
  have ht : (is.map fun _ => true).all id = true := by simp
  rw [ht, if_pos rfl] at hr
  generalize G ++ [.lst ((is.map fun _ => true).map .bl)] = G1 at hr ⊢
  have hr' : (rt (d + 2)).cf 3 [.tup (is.map gz)] G = _ := hr
  obtain ⟨l', G', h1, ⟨x, rfl⟩, rfl⟩ := for_pure (g := dgName 2) (body := dSeq (dAsg (dgName 1) (dCall (rt (d + 2)).cf 0 (dCons (dVar 1) (dCons (dVar 2) dNil)))) dNop) (is.map gz) (fun k l G' => (∃ x, l = [some (.tup (is.map gz)), some (gz ((is.take k).foldl bt 4)), x]) ∧ G' = G1)
    (l := [some (.tup (is.map gz)), some (gz 4), none]) (G := G1) ⟨⟨none, rfl⟩, rfl⟩ (fun k z l G' hz ⟨⟨x, hl⟩, hG⟩ => by
      subst hl hG
      rw [List.getElem?_map] at hz
      cases q : is[k]? with
      | none => rw [q] at hz; cases hz
      | some i =>
        rw [q] at hz; cases hz
        have hb : (rt (d + 2)).cf 0 [gz ((is.take k).foldl bt 4), gz i] G' = _ := better_ok (d + 1) _ _ _
        refine ⟨_, _, _, _, rfl, .inl ?_, ⟨some (gz i), rfl⟩, rfl⟩
        simp [hb]
        rw [List.take_add_one, q, List.foldl_append]
        rfl)
  have e2 : ∀ G, toItr G (.tup (is.map gz)) = some (.pure (is.map gz)) := fun _ => rfl
  have e3 : (is.take (is.map gz).length) = is := by rw [List.length_map, List.take_length]
  rw [e3] at h1
  have e4 : gz 4 = .str (gr 4) := rfl
  unfold s_4
  simp [hr', e2, Wk.len]
  simp [e4, gr] at h1
  simp [h1]
theorem choice_bad (d : Nat) (G : GH) (vs : List Z) (bs : List Bool) (hs : vs.length ≤ sizeLine) (hl : vs.length = bs.length) (h : ∀ (k : Nat) (v : Z) (b : Bool), vs[k]? = some v → bs[k]? = some b → Kn G v b) (hb : bs.all id = false) :
    (C (d + 5)).cf 4 vs G = .exc ⟨.own 1, none⟩ (G ++ [.lst (bs.map .bl)]) := by
  rw [cfV (d + 2) 4 f_4 s_4 3 0 rfl rfl rfl rfl rfl sh_4 (Nat.zero_le _) hs]
  show (s_4 (rt (d + 2)) [some (.tup vs), none, none] G).fin = _
  have hr := require_ok d G vs bs hs hl h
  rw [hb, if_neg Bool.false_ne_true] at hr
  have hr' : (rt (d + 2)).cf 3 [.tup vs] G = _ := hr
  unfold s_4
  simp [hr']

theorem sequence_ok (d : Nat) (G : GH) (is : List (Fin 5)) (hs : is.length ≤ sizeLine) : (C (d + 5)).cf 5 (is.map gz) G = .ok (gz (is.foldl jt 1)) (G ++ [.lst ((is.map fun _ => true).map .bl)]) := by
  rw [cfV (d + 2) 5 f_5 s_5 3 0 rfl rfl rfl rfl rfl sh_5 (Nat.zero_le _) (by simpa using hs)]
  show (s_5 (rt (d + 2)) [some (.tup (is.map gz)), none, none] G).fin = _
  have hr := require_ok d G (is.map gz) (is.map fun _ => true) (by simpa using hs) (by simp) (fun k v b h1 h2 => by
    rw [List.getElem?_map] at h1 h2
    cases q : is[k]? with
    | none => rw [q] at h1; cases h1
    | some i => rw [q] at h1 h2; cases h1; cases h2; exact Kn.gz G i)
  have ht : (is.map fun _ => true).all id = true := by simp
  rw [ht, if_pos rfl] at hr
  generalize G ++ [.lst ((is.map fun _ => true).map .bl)] = G1 at hr ⊢
  have hr' : (rt (d + 2)).cf 3 [.tup (is.map gz)] G = _ := hr
  obtain ⟨l', G', h1, ⟨x, rfl⟩, rfl⟩ := for_pure (g := dgName 2) (body := dSeq (dAsg (dgName 1) (dCall (rt (d + 2)).cf 1 (dCons (dVar 1) (dCons (dVar 2) dNil)))) dNop) (is.map gz) (fun k l G' => (∃ x, l = [some (.tup (is.map gz)), some (gz ((is.take k).foldl jt 1)), x]) ∧ G' = G1)
    (l := [some (.tup (is.map gz)), some (gz 1), none]) (G := G1) ⟨⟨none, rfl⟩, rfl⟩ (fun k z l G' hz ⟨⟨x, hl⟩, hG⟩ => by
      subst hl hG
      rw [List.getElem?_map] at hz
      cases q : is[k]? with
      | none => rw [q] at hz; cases hz
      | some i =>
        rw [q] at hz; cases hz
        have hb : (rt (d + 2)).cf 1 [gz ((is.take k).foldl jt 1), gz i] G' = _ := joined_ok (d + 1) _ _ _
        refine ⟨_, _, _, _, rfl, .inl ?_, ⟨some (gz i), rfl⟩, rfl⟩
        simp [hb]
        rw [List.take_add_one, q, List.foldl_append]
        rfl)
  have e2 : ∀ G, toItr G (.tup (is.map gz)) = some (.pure (is.map gz)) := fun _ => rfl
  have e3 : (is.take (is.map gz).length) = is := by rw [List.length_map, List.take_length]
  rw [e3] at h1
  have e4 : gz 1 = .str (gr 1) := rfl
  unfold s_5
  simp [hr', e2, Wk.len]
  simp [e4, gr] at h1
  simp [h1]
theorem sequence_bad (d : Nat) (G : GH) (vs : List Z) (bs : List Bool) (hs : vs.length ≤ sizeLine) (hl : vs.length = bs.length) (h : ∀ (k : Nat) (v : Z) (b : Bool), vs[k]? = some v → bs[k]? = some b → Kn G v b) (hb : bs.all id = false) :
    (C (d + 5)).cf 5 vs G = .exc ⟨.own 1, none⟩ (G ++ [.lst (bs.map .bl)]) := by
  rw [cfV (d + 2) 5 f_5 s_5 3 0 rfl rfl rfl rfl rfl sh_5 (Nat.zero_le _) hs]
  show (s_5 (rt (d + 2)) [some (.tup vs), none, none] G).fin = _
  have hr := require_ok d G vs bs hs hl h
  rw [hb, if_neg Bool.false_ne_true] at hr
  have hr' : (rt (d + 2)).cf 3 [.tup vs] G = _ := hr
  unfold s_5
  simp [hr']

def ord1 : List Z := [gz 0, gz 1, gz 2, gz 3, gz 4]
def ord2 : List Z := [gz 1, gz 2, gz 0, gz 3, gz 4]
theorem idx1 {n : Nat} {G : GH} (h : lstAt G n = some ord1) (i : Fin 5) : zIndex "list" (.ref n) [gz i] G = .ok (.int i.val) G := by
  unfold zIndex
  simp only [show rdl G (.ref n) = some ord1 from h]
  revert i
  refine fin5 ?_ ?_ ?_ ?_ ?_ <;> rfl
theorem idx2 {n : Nat} {G : GH} (h : lstAt G n = some ord2) (i : Fin 5) : zIndex "list" (.ref n) [gz i] G = .ok (.int (rk i)) G := by
  unfold zIndex
  simp only [show rdl G (.ref n) = some ord2 from h]
  revert i
  refine fin5 ?_ ?_ ?_ ?_ ?_ <;> rfl
theorem lbetter_ok (d : Nat) (G : GH) (i j : Fin 5) : (C (d + 3)).cf 8 [gz i, gz j] G = .ok (gz (bt i j)) (G ++ [.lst ord1]) := by
  rw [cfS d 8 f_8 s_8 3 2 rfl rfl rfl rfl rfl sh_8 rfl]
  show (s_8 (rt d) [some (gz i), some (gz j), none] G).fin = _
  have h0 : lstAt (G ++ [.lst ord1]) G.length = some ord1 := lstAt_new
  have e1 := idx1 h0
  have e2 := recv_ref h0
  have e3 : zIx (.ref G.length) (.int (if j.val < i.val then (j.val : Int) else i.val)) (G ++ [.lst ord1]) = .ok (gz (bt i j)) (G ++ [.lst ord1]) := by
    refine ix_ref h0 ?_
    revert i j
    refine fin5 ?_ ?_ ?_ ?_ ?_ <;> refine fin5 ?_ ?_ ?_ ?_ ?_ <;> rfl
  have e4 : ord1.length ≤ sizeLine := by rw [sizeLine_eq]; decide
  have e5 : [Z.str [114, 101, 115, 116, 97, 114, 116], .str [102, 114, 101, 101], .str [112, 97, 105, 100], .str [100, 101, 97, 114], .str [110, 111, 110, 101]] = ord1 := rfl
  unfold s_8
  simp [e4, e5, e2, e1, zMin2, e3]
theorem ljoined_ok (d : Nat) (G : GH) (i j : Fin 5) : (C (d + 3)).cf 9 [gz i, gz j] G = .ok (gz (jt i j)) (G ++ [.lst ord2]) := by
  rw [cfS d 9 f_9 s_9 3 2 rfl rfl rfl rfl rfl sh_9 rfl]
  show (s_9 (rt d) [some (gz i), some (gz j), none] G).fin = _
  have h0 : lstAt (G ++ [.lst ord2]) G.length = some ord2 := lstAt_new
  have e1 := idx2 h0
  have e2 := recv_ref h0
  have e3 : zIx (.ref G.length) (.int (if rk i < rk j then (rk j : Int) else rk i)) (G ++ [.lst ord2]) = .ok (gz (jt i j)) (G ++ [.lst ord2]) := by
    refine ix_ref h0 ?_
    revert i j
    refine fin5 ?_ ?_ ?_ ?_ ?_ <;> refine fin5 ?_ ?_ ?_ ?_ ?_ <;> rfl
  have e4 : ord2.length ≤ sizeLine := by rw [sizeLine_eq]; decide
  have e5 : [Z.str [102, 114, 101, 101], .str [112, 97, 105, 100], .str [114, 101, 115, 116, 97, 114, 116], .str [100, 101, 97, 114], .str [110, 111, 110, 101]] = ord2 := rfl
  unfold s_9
  simp [e4, e5, e2, e1, zMax2, e3]
theorem bt4 : ∀ i, bt 4 i = i := by decide
theorem jt1 : ∀ i, jt 1 i = i := by decide
/-- the loop of _law_right -/
theorem right_loop (d : Nat) (G : GH) (m : Nat) (i0 : Fin 5) (r : List (Fin 5)) (w : L) (h : lstAt G m = some ((i0 :: r).map gz)) :
    ∃ E x, (dFor (dIter (dSlc (dVar 0) (dPart (dC (.int (1)))) dNoPart)) (dgName 3) (dSeq (dPar 1 2 (dCons (dCall (rt (d + 1)).cf 8 (dCons (dVar 1) (dCons (dVar 3) dNil))) (dCons (dCall (rt (d + 1)).cf 9 (dCons (dVar 2) (dCons (dVar 3) dNil))) dNil))) dNop))
      (some (.ref m) :: some (gz i0) :: some (gz i0) :: none :: w) G = .nx (some (.ref m) :: some (gz (r.foldl bt i0)) :: some (gz (r.foldl jt i0)) :: x :: w) (G ++ E) := by
  have hc : cutZ ((i0 :: r).map gz) (some 1) none = r.map gz := by
    unfold cutZ
    have a1 : HT.sIx ((i0 :: r).map gz).length 0 (some 1) = 1 := by
      unfold HT.sIx
      simp
    have a2 : HT.sIx ((i0 :: r).map gz).length ((i0 :: r).map gz).length none = r.length + 1 := by
      unfold HT.sIx
      simp
    rw [a1, a2]
    simp
    exact List.take_of_length_le (by simp)
  have hs := slc_ref (lo := some 1) (hi := none) h
  rw [hc] at hs
  have h0 : lstAt (G ++ [.lst (r.map gz)]) G.length = some (r.map gz) := lstAt_new
  obtain ⟨l', G', h1, ⟨E, x, rfl, rfl⟩, h3⟩ := for_live (n := G.length) (g := dgName 3) (body := dSeq (dPar 1 2 (dCons (dCall (rt (d + 1)).cf 8 (dCons (dVar 1) (dCons (dVar 3) dNil))) (dCons (dCall (rt (d + 1)).cf 9 (dCons (dVar 2) (dCons (dVar 3) dNil))) dNil))) dNop) (r.map gz)
    (fun k l G' => (∃ E x, l = some (.ref m) :: some (gz ((r.take k).foldl bt i0)) :: some (gz ((r.take k).foldl jt i0)) :: x :: w ∧ G' = G ++ E) ∧ lstAt G' G.length = some (r.map gz))
    (l := some (.ref m) :: some (gz i0) :: some (gz i0) :: none :: w) (G := G ++ [.lst (r.map gz)]) ⟨⟨_, none, rfl, rfl⟩, h0⟩ (fun k l G' hp => hp.2) (fun k z l G' hz ⟨⟨E, x, hl, hG⟩, hL⟩ => by
      subst hl
      rw [List.getElem?_map] at hz
      cases q : r[k]? with
      | none => rw [q] at hz; cases hz
      | some i =>
        rw [q] at hz; cases hz
        have hb : (rt (d + 1)).cf 8 [gz ((r.take k).foldl bt i0), gz i] G' = _ := lbetter_ok d _ _ _
        have hj : (rt (d + 1)).cf 9 [gz ((r.take k).foldl jt i0), gz i] (G' ++ [.lst ord1]) = _ := ljoined_ok d _ _ _
        refine ⟨_, _, _, G' ++ [.lst ord1] ++ [.lst ord2], rfl, .inl ?_, ⟨⟨E ++ [.lst ord1] ++ [.lst ord2], some (gz i), rfl, ?_⟩, ?_⟩⟩
        · simp [hb, hj]
          rw [List.take_add_one, q, List.foldl_append, List.foldl_append]
          exact ⟨rfl, rfl⟩
        · rw [hG]; simp
        · exact lstAt_app (lstAt_app hL))
  rw [List.length_map, List.take_length] at h1
  refine ⟨E, x, ?_⟩
  simp [hs, toItr_ref h0, Wk.len]
  exact h1

theorem bt_fold (i : Fin 5) (r : List (Fin 5)) : (i :: r).foldl bt 4 = r.foldl bt i := by rw [List.foldl_cons, bt4]
theorem jt_fold (i : Fin 5) (r : List (Fin 5)) : (i :: r).foldl jt 1 = r.foldl jt i := by rw [List.foldl_cons, jt1]
theorem two_calls (d : Nat) {l : L} {G : GH} {args : DA} (is : List (Fin 5)) (hs : is.length ≤ sizeLine) (hA : ∀ E, args l (G ++ E) = .ok (is.map gz) (G ++ E)) (E : GH) :
    ∃ E', (dLst (dCons (dCall (rt (d + 3)).cf 4 args) (dCons (dCall (rt (d + 3)).cf 5 args) dNil))) l (G ++ E) = .ok (.ref (G ++ E').length) (G ++ E' ++ [.lst [gz (is.foldl bt 4), gz (is.foldl jt 1)]]) := by
  have c1 : ∀ E, (dCall (rt (d + 3)).cf 4 args) l (G ++ E) = .ok (gz (is.foldl bt 4)) (G ++ (E ++ [.lst ((is.map fun _ => true).map .bl)])) := fun E => by
    show ((args l (G ++ E)).bind fun xs G1 => (rt (d + 3)).cf 4 xs G1) = _
    rw [hA]
    have := choice_ok d (G ++ E) is hs
    rw [List.append_assoc] at this
    exact this
  have c2 : ∀ E, (dCall (rt (d + 3)).cf 5 args) l (G ++ E) = .ok (gz (is.foldl jt 1)) (G ++ (E ++ [.lst ((is.map fun _ => true).map .bl)])) := fun E => by
    show ((args l (G ++ E)).bind fun xs G1 => (rt (d + 3)).cf 5 xs G1) = _
    rw [hA]
    have := sequence_ok d (G ++ E) is hs
    rw [List.append_assoc] at this
    exact this
  have h2 : 2 ≤ sizeLine := by rw [sizeLine_eq]; omega
  refine ⟨E ++ [.lst ((is.map fun _ => true).map .bl)] ++ [.lst ((is.map fun _ => true).map .bl)], ?_⟩
  show (((dCall (rt (d + 3)).cf 4 args) l (G ++ E)).bind fun x G1 => (((dCall (rt (d + 3)).cf 5 args) l G1).bind fun y G2 => _).bind _).bind _ = _
  rw [c1, R.bind_ok, c2]
  simp [h2]
theorem pair_eq {G : GH} {a b : Nat} {x y : List Nat} (ha : lstAt G a = some [.str x, .str y]) (hb : lstAt G b = some [.str x, .str y]) : zCmp .Eq (.ref a) (.ref b) G = .ok (.bl true) G := by
  refine eq_refs ha hb ?_
  show (match (some (x == x) : Option Bool), (match (some (y == y) : Option Bool), (some true : Option Bool) with | some a, some b => some (a && b) | _, _ => none) with | some a, some b => some (a && b) | _, _ => none) = _
  simp
/-- [choice(..), sequence(..)] == [best, last] -/
theorem ends_ok (d : Nat) {l : L} {G : GH} {args : DA} (is : List (Fin 5)) (hs : is.length ≤ sizeLine) (hA : ∀ E, args l (G ++ E) = .ok (is.map gz) (G ++ E)) (E : GH) (h1 : l[1]? = some (some (gz (is.foldl bt 4)))) (h2 : l[2]? = some (some (gz (is.foldl jt 1)))) :
    ∃ E', (dCmp .Eq (dLst (dCons (dCall (rt (d + 3)).cf 4 args) (dCons (dCall (rt (d + 3)).cf 5 args) dNil))) (dLst (dCons (dVar 1) (dCons (dVar 2) dNil)))) l (G ++ E) = .ok (.bl true) (G ++ E') := by
  obtain ⟨E1, e1⟩ := two_calls d is hs hA E
  have v1 : ∀ G', dVar 1 l G' = .ok (gz (is.foldl bt 4)) G' := fun G' => dVar_of h1 fun q => nomatch q
  have v2 : ∀ G', dVar 2 l G' = .ok (gz (is.foldl jt 1)) G' := fun G' => dVar_of h2 fun q => nomatch q
  have hz : 2 ≤ sizeLine := by rw [sizeLine_eq]; omega
  have a1 : lstAt (G ++ E1 ++ [ZO.lst [gz (is.foldl bt 4), gz (is.foldl jt 1)]] ++ [ZO.lst [gz (is.foldl bt 4), gz (is.foldl jt 1)]]) (G ++ E1).length = some [gz (is.foldl bt 4), gz (is.foldl jt 1)] := lstAt_app lstAt_new
  have a2 : lstAt (G ++ E1 ++ [ZO.lst [gz (is.foldl bt 4), gz (is.foldl jt 1)]] ++ [ZO.lst [gz (is.foldl bt 4), gz (is.foldl jt 1)]]) (G ++ E1 ++ [ZO.lst [gz (is.foldl bt 4), gz (is.foldl jt 1)]]).length = some [gz (is.foldl bt 4), gz (is.foldl jt 1)] := lstAt_new
  refine ⟨E1 ++ [ZO.lst [gz (is.foldl bt 4), gz (is.foldl jt 1)]] ++ [ZO.lst [gz (is.foldl bt 4), gz (is.foldl jt 1)]], ?_⟩
  show ((dLst _ l (G ++ E)).bind fun x G1 => ((dLst (dCons (dVar 1) (dCons (dVar 2) dNil))) l G1).bind fun y G2 => zCmp .Eq x y G2) = _
  rw [e1, R.bind_ok]
  have e2 : (dLst (dCons (dVar 1) (dCons (dVar 2) dNil))) l (G ++ E1 ++ [ZO.lst [gz (is.foldl bt 4), gz (is.foldl jt 1)]]) = .ok (.ref (G ++ E1 ++ [ZO.lst [gz (is.foldl bt 4), gz (is.foldl jt 1)]]).length) (G ++ E1 ++ [ZO.lst [gz (is.foldl bt 4), gz (is.foldl jt 1)]] ++ [ZO.lst [gz (is.foldl bt 4), gz (is.foldl jt 1)]]) := by
    simp only [dLst_ap, dCons_ap, dNil_ap, v1, v2, R.bind_ok, List.length_cons, List.length_nil]
    rw [if_pos hz]; rfl
  rw [e2, R.bind_ok, pair_eq a1 a2]
  simp

theorem cut_lo (n : Nat) (xs : List Z) : cutZ xs (some (n : Int)) none = xs.drop n := by
  unfold cutZ
  rw [HT.sIx_none, HT.sIx_nat, Nat.min_def]
  split
  · exact List.take_of_length_le (by rw [List.length_drop]; omega)
  · rw [List.drop_of_length_le (Nat.le_refl _), List.drop_of_length_le (by omega)]; simp
theorem cut_hi (n : Nat) (xs : List Z) : cutZ xs none (some (n : Int)) = xs.take n := by
  unfold cutZ
  rw [HT.sIx_none, HT.sIx_nat, List.drop_zero, Nat.sub_zero, Nat.min_def]
  split
  · rfl
  · rw [List.take_of_length_le (Nat.le_refl _), List.take_of_length_le (by omega)]
theorem small (n : Nat) (h : n ≤ 100) : n ≤ sizeLine := by rw [sizeLine_eq]; omega
end K
end
section
set_option Elab.async false
set_option linter.all false
set_option maxRecDepth 100000
set_option maxHeartbeats 4000000
namespace K
open PySem PySem.Spec PyProof.Rows L2 Zy
theorem at0 (i0 : Fin 5) (r : List (Fin 5)) : atI ((i0 :: r).map gz) 0 = some (gz i0) := by simp [atI, ixN]
/-- if len(grades) == n: .. -/
theorem len_if {l : L} {G : GH} {m k : Nat} (n : Int) (A : DS) (h0 : l[0]? = some (some (.ref m))) (hl : zLen (.ref m) G = .ok (.int k) G) :
    (dIfS (uB (dCmp .Eq (dFn (on1 zLen) (dCons (dVar 0) dNil)) (dC (.int n)))) A dNop) l G = if (k : Int) = n then A l G else .nx l G := by
  simp only [dIfS_ap, uB_ap, dCmp_ap, dFn_ap, dCons_ap, dNil_ap, R.bind_ok, dC_ap, dVar_ref h0, on1_ap, hl, cmp_eqi, R.st_ok]
  by_cases h : (k : Int) = n
  · rw [if_pos h, if_pos (by simpa using h)]
  · rw [if_neg h, if_neg (by simpa using h)]; rfl
theorem len_yes {l : L} {G : GH} {m k : Nat} {n : Int} {A : DS} (h0 : l[0]? = some (some (.ref m))) (hl : zLen (.ref m) G = .ok (.int k) G) (h : (k : Int) = n) :
    (dIfS (uB (dCmp .Eq (dFn (on1 zLen) (dCons (dVar 0) dNil)) (dC (.int n)))) A dNop) l G = A l G := by rw [len_if n A h0 hl, if_pos h]
theorem len_no {l : L} {G : GH} {m k : Nat} {n : Int} {A : DS} (h0 : l[0]? = some (some (.ref m))) (hl : zLen (.ref m) G = .ok (.int k) G) (h : ¬ (k : Int) = n) :
    (dIfS (uB (dCmp .Eq (dFn (on1 zLen) (dCons (dVar 0) dNil)) (dC (.int n)))) A dNop) l G = .nx l G := by rw [len_if n A h0 hl, if_neg h]
theorem right_ok (d : Nat) (G : GH) (m : Nat) (is : List (Fin 5)) (h : lstAt G m = some (is.map gz)) (hn : is.length = 2 ∨ is.length = 3 ∨ is.length = 5 ∨ is.length = 7) : ∃ E, (C (d + 6)).cf 12 [.ref m] G = .ok (.bl true) (G ++ E) := by
  cases is with
  | nil => simp at hn
  | cons i0 r =>
    obtain ⟨E, x, hloop⟩ := right_loop (d + 2) G m i0 r (List.replicate 8 none) h
    have hp : dPar 1 2 (dCons (dIx (dVar 0) (dC (.int (0)))) (dCons (dIx (dVar 0) (dC (.int (0)))) dNil)) [some (.ref m), none, none, none, none, none, none, none, none, none, none, none] G = .nx (some (.ref m) :: some (gz i0) :: some (gz i0) :: none :: List.replicate 8 none) G := by
      have := ix_ref h (at0 i0 r)
      simp [this]
    have hm : ∀ E', lstAt (G ++ E') m = some ((i0 :: r).map gz) := fun E' => lstAt_app h
    have hlen : ∀ E', zLen (.ref m) (G ++ E') = .ok (.int ((i0 :: r).length : Nat)) (G ++ E') := fun E' => by rw [len_ref (hm E'), List.length_map]
    have fb := bt_fold i0 r
    have fj := jt_fold i0 r
    have key : ∃ E', (s_12 (rt (d + 3)) [some (.ref m), none, none, none, none, none, none, none, none, none, none, none] G).fin = .ok (.bl true) (G ++ E') := by
      unfold s_12
      rw [dSeq_ap, hp, seq_nx, dSeq_ap]
      rw [hloop, seq_nx]
      have fin1 : ∀ {A : DE} {l : L} {G1 G2 : GH}, A l G1 = .ok (.bl true) G2 → ∀ rest, (((dSeq (dRet A) dNop) l G1).seq rest).fin = .ok (.bl true) G2 := fun {A l G1 G2} e rest => by
        simp [e]
      rcases hn with hn | hn | hn | hn
      · match r, hn with
        | [a], _ =>
          obtain ⟨E', e⟩ := ends_ok d (l := some (.ref m) :: some (gz ([a].foldl bt i0)) :: some (gz ([a].foldl jt i0)) :: x :: List.replicate 8 none) (G := G) (args := dCons (dIx (dVar 0) (dC (.int (0)))) (dCons (dIx (dVar 0) (dC (.int (1)))) dNil)) [i0, a] (small _ (by simp)) (fun E => by
            have q0 := ix_ref (hm E) (show atI _ 0 = some (gz i0) from rfl)
            have q1 := ix_ref (hm E) (show atI _ 1 = some (gz a) from rfl)
            simp [q0, q1]) E (by rw [fb]; rfl) (by rw [fj]; rfl)
          refine ⟨E', ?_⟩
          rw [dSeq_ap, len_yes (n := 2) rfl (hlen E) rfl, fin1 e]
      · match r, hn with
        | [a, b], _ =>
          obtain ⟨E', e⟩ := ends_ok d (l := some (.ref m) :: some (gz ([a, b].foldl bt i0)) :: some (gz ([a, b].foldl jt i0)) :: x :: List.replicate 8 none) (G := G) (args := dCons (dIx (dVar 0) (dC (.int (0)))) (dCons (dIx (dVar 0) (dC (.int (1)))) (dCons (dIx (dVar 0) (dC (.int (2)))) dNil))) [i0, a, b] (small _ (by simp)) (fun E => by
            have q0 := ix_ref (hm E) (show atI _ 0 = some (gz i0) from rfl)
            have q1 := ix_ref (hm E) (show atI _ 1 = some (gz a) from rfl)
            have q2 := ix_ref (hm E) (show atI _ 2 = some (gz b) from rfl)
            simp [q0, q1, q2]) E (by rw [fb]; rfl) (by rw [fj]; rfl)
          refine ⟨E', ?_⟩
          rw [dSeq_ap, len_no rfl (hlen E) (show ¬ ((3 : Nat) : Int) = 2 by decide), seq_nx, dSeq_ap, len_yes (n := 3) rfl (hlen E) rfl, fin1 e]
      · match r, hn with
        | [a, b, c, e], _ =>
          have hs := slc_ref (lo := none) (hi := some ((5 : Nat) : Int)) (hm E)
          rw [cut_hi] at hs
          have hi := its_ref (lstAt_new (G := G ++ E) (xs := [gz i0, gz a, gz b, gz c, gz e]))
          have asg : (dAsg (dgTup 5 (dgCons (dgName 4) (dgCons (dgName 5) (dgCons (dgName 6) (dgCons (dgName 7) (dgCons (dgName 8) dgNil)))))) (dSlc (dVar 0) dNoPart (dPart (dC (.int (5)))))) (some (.ref m) :: some (gz ([a, b, c, e].foldl bt i0)) :: some (gz ([a, b, c, e].foldl jt i0)) :: x :: List.replicate 8 none) (G ++ E) =
              .nx [some (.ref m), some (gz ([a, b, c, e].foldl bt i0)), some (gz ([a, b, c, e].foldl jt i0)), x, some (gz i0), some (gz a), some (gz b), some (gz c), some (gz e), none, none, none] (G ++ (E ++ [ZO.lst [gz i0, gz a, gz b, gz c, gz e]])) := by
            have hs' : zSlc (.ref m) none (some 5) (G ++ E) = .ok (.ref (G ++ E).length) (G ++ E ++ [ZO.lst [gz i0, gz a, gz b, gz c, gz e]]) := hs
            rw [dAsg_ap, dSlc_ap, dVar_ref rfl]
            simp only [R.bind_ok, dNoPart_ap, dPart_ap, dC_ap, hs', R.st_ok, dgTup_ap, hi]
            rw [← List.append_assoc]
            rfl
          obtain ⟨E', e'⟩ := ends_ok d (l := [some (.ref m), some (gz ([a, b, c, e].foldl bt i0)), some (gz ([a, b, c, e].foldl jt i0)), x, some (gz i0), some (gz a), some (gz b), some (gz c), some (gz e), none, none, none]) (G := G) (args := dCons (dVar 4) (dCons (dVar 5) (dCons (dVar 6) (dCons (dVar 7) (dCons (dVar 8) dNil))))) [i0, a, b, c, e] (small _ (by simp)) (fun E => by simp) (E ++ [ZO.lst [gz i0, gz a, gz b, gz c, gz e]]) (by rw [fb]; rfl) (by rw [fj]; rfl)
          refine ⟨E', ?_⟩
          rw [dSeq_ap, len_no rfl (hlen E) (show ¬ ((5 : Nat) : Int) = 2 by decide), seq_nx, dSeq_ap, len_no rfl (hlen E) (show ¬ ((5 : Nat) : Int) = 3 by decide), seq_nx, dSeq_ap, asg, seq_nx, dSeq_ap, len_yes (n := 5) rfl (hlen _) rfl, fin1 e']
      · match r, hn with
        | [a, b, c, e, f, g], _ =>
          have hs := slc_ref (lo := none) (hi := some ((5 : Nat) : Int)) (hm E)
          rw [cut_hi] at hs
          have hi := its_ref (lstAt_new (G := G ++ E) (xs := [gz i0, gz a, gz b, gz c, gz e]))
          have asg : (dAsg (dgTup 5 (dgCons (dgName 4) (dgCons (dgName 5) (dgCons (dgName 6) (dgCons (dgName 7) (dgCons (dgName 8) dgNil)))))) (dSlc (dVar 0) dNoPart (dPart (dC (.int (5)))))) (some (.ref m) :: some (gz ([a, b, c, e, f, g].foldl bt i0)) :: some (gz ([a, b, c, e, f, g].foldl jt i0)) :: x :: List.replicate 8 none) (G ++ E) =
              .nx [some (.ref m), some (gz ([a, b, c, e, f, g].foldl bt i0)), some (gz ([a, b, c, e, f, g].foldl jt i0)), x, some (gz i0), some (gz a), some (gz b), some (gz c), some (gz e), none, none, none] (G ++ (E ++ [ZO.lst [gz i0, gz a, gz b, gz c, gz e]])) := by
            have hs' : zSlc (.ref m) none (some 5) (G ++ E) = .ok (.ref (G ++ E).length) (G ++ E ++ [ZO.lst [gz i0, gz a, gz b, gz c, gz e]]) := hs
            rw [dAsg_ap, dSlc_ap, dVar_ref rfl]
            simp only [R.bind_ok, dNoPart_ap, dPart_ap, dC_ap, hs', R.st_ok, dgTup_ap, hi]
            rw [← List.append_assoc]
            rfl
          have hs2 := slc_ref (lo := some ((5 : Nat) : Int)) (hi := none) (hm (E ++ [ZO.lst [gz i0, gz a, gz b, gz c, gz e]]))
          rw [cut_lo] at hs2
          have hi2 := its_ref (lstAt_new (G := G ++ (E ++ [ZO.lst [gz i0, gz a, gz b, gz c, gz e]])) (xs := [gz f, gz g]))
          have asg2 : (dAsg (dgTup 2 (dgCons (dgName 9) (dgCons (dgName 10) dgNil))) (dSlc (dVar 0) (dPart (dC (.int (5)))) dNoPart)) [some (.ref m), some (gz ([a, b, c, e, f, g].foldl bt i0)), some (gz ([a, b, c, e, f, g].foldl jt i0)), x, some (gz i0), some (gz a), some (gz b), some (gz c), some (gz e), none, none, none] (G ++ (E ++ [ZO.lst [gz i0, gz a, gz b, gz c, gz e]])) =
              .nx [some (.ref m), some (gz ([a, b, c, e, f, g].foldl bt i0)), some (gz ([a, b, c, e, f, g].foldl jt i0)), x, some (gz i0), some (gz a), some (gz b), some (gz c), some (gz e), some (gz f), some (gz g), none] (G ++ (E ++ [ZO.lst [gz i0, gz a, gz b, gz c, gz e]] ++ [ZO.lst [gz f, gz g]])) := by
            have hs' : zSlc (.ref m) (some 5) none (G ++ (E ++ [ZO.lst [gz i0, gz a, gz b, gz c, gz e]])) = .ok (.ref (G ++ (E ++ [ZO.lst [gz i0, gz a, gz b, gz c, gz e]])).length) (G ++ (E ++ [ZO.lst [gz i0, gz a, gz b, gz c, gz e]]) ++ [ZO.lst [gz f, gz g]]) := hs2
            rw [dAsg_ap, dSlc_ap, dVar_ref rfl]
            simp only [R.bind_ok, dNoPart_ap, dPart_ap, dC_ap, hs', R.st_ok, dgTup_ap, hi2]
            rw [show G ++ (E ++ [ZO.lst [gz i0, gz a, gz b, gz c, gz e]] ++ [ZO.lst [gz f, gz g]]) = G ++ (E ++ [ZO.lst [gz i0, gz a, gz b, gz c, gz e]]) ++ [ZO.lst [gz f, gz g]] by simp]
            rfl
          obtain ⟨E1, e1⟩ := two_calls d (l := [some (.ref m), some (gz ([a, b, c, e, f, g].foldl bt i0)), some (gz ([a, b, c, e, f, g].foldl jt i0)), x, some (gz i0), some (gz a), some (gz b), some (gz c), some (gz e), some (gz f), some (gz g), none]) (G := G) (args := dCons (dVar 4) (dCons (dVar 5) (dCons (dVar 6) (dCons (dVar 7) (dCons (dVar 8) (dCons (dVar 9) (dCons (dVar 10) dNil))))))) [i0, a, b, c, e, f, g] (small _ (by simp)) (fun E => by simp) (E ++ [ZO.lst [gz i0, gz a, gz b, gz c, gz e]] ++ [ZO.lst [gz f, gz g]])
          rw [fb, fj] at e1
          have hz : 2 ≤ sizeLine := small _ (by decide)
          refine ⟨E1 ++ [ZO.lst [gz ([a, b, c, e, f, g].foldl bt i0), gz ([a, b, c, e, f, g].foldl jt i0)]] ++ [ZO.lst [gz ([a, b, c, e, f, g].foldl bt i0), gz ([a, b, c, e, f, g].foldl jt i0)]], ?_⟩
          rw [dSeq_ap, len_no rfl (hlen E) (show ¬ ((7 : Nat) : Int) = 2 by decide), seq_nx, dSeq_ap, len_no rfl (hlen E) (show ¬ ((7 : Nat) : Int) = 3 by decide), seq_nx, dSeq_ap, asg, seq_nx, dSeq_ap, len_no rfl (hlen _) (show ¬ ((7 : Nat) : Int) = 5 by decide), seq_nx, dSeq_ap, asg2, seq_nx, dSeq_ap, dAsg_ap, e1]
          generalize [a, b, c, e, f, g].foldl bt i0 = p
          generalize [a, b, c, e, f, g].foldl jt i0 = q
          have a1 : lstAt (G ++ E1 ++ [ZO.lst [gz p, gz q]] ++ [ZO.lst [gz p, gz q]]) (G ++ E1).length = some [gz p, gz q] := lstAt_app lstAt_new
          have a2 : lstAt (G ++ E1 ++ [ZO.lst [gz p, gz q]] ++ [ZO.lst [gz p, gz q]]) (G ++ E1 ++ [ZO.lst [gz p, gz q]]).length = some [gz p, gz q] := lstAt_new
          have pe := pair_eq a1 a2
          generalize (G ++ E1).length = n1 at pe ⊢
          rw [R.st_ok, dgName_ap, tgt_nx]
          simp only [seq_nx, dSeq_ap, dRet_ap, dCmp_ap, dLst_ap, dCons_ap, dNil_ap]
          rw [dVar_ref (show ([some (Z.ref m), some (gz p), some (gz q), x, some (gz i0), some (gz a), some (gz b), some (gz c), some (gz e), some (gz f), some (gz g), none].set 11 (some (.ref n1)))[11]? = some (some (.ref n1)) from rfl)]
          simp [hz]
          simp at pe
          simp [pe]
    obtain ⟨E', e⟩ := key
    refine ⟨E', ?_⟩
    rw [show d + 6 = (d + 3) + 3 from rfl, cfS (d + 3) 12 f_12 s_12 12 1 rfl rfl rfl rfl rfl sh_12 rfl]
    exact e
end K
end
section
set_option Elab.async false
set_option linter.all false
set_option maxRecDepth 100000
set_option maxHeartbeats 4000000
namespace K
open PySem PySem.Spec PyProof.Rows L2 Zy
theorem at_sh {A B : GH} {k : Nat} : lstAt (A ++ B) (A.length + k) = lstAt B k := by
  unfold lstAt
  rw [List.getElem?_append_right (by omega), Nat.add_sub_cancel_left]
theorem at_sh0 {A B : GH} : lstAt (A ++ B) A.length = lstAt B 0 := by
  have := at_sh (A := A) (B := B) (k := 0)
  exact this
theorem set_sh {A B : GH} {k : Nat} {y : ZO} : (A ++ B).set (A.length + k) y = A ++ B.set k y := by
  rw [List.set_append_right _ _ (by omega), Nat.add_sub_cancel_left]
theorem recv_ap {G : GH} {n : Nat} : recvT G (.ref n) = (lstAt G n).map fun _ => "list" := rfl
theorem append_ap {G : GH} {n : Nat} {z : Z} : zAppend "list" (.ref n) [z] G = match lstAt G n with
  | some xs => if xs.length < sizeLine then putO n (.lst (xs ++ [z])) .non G else .bad
  | none => .bad := rfl
theorem kd_ref {G : GH} {n : Nat} : kd G (.ref n) = (lstAt G n).map .lst := rfl
theorem ne_ap {G : GH} {a b : Nat} : zCmp .NotEq (.ref a) (.ref b) G = ofB (((lstAt G a).bind fun xs => (lstAt G b).bind fun ys => zall (zeq 39 G) xs ys).map (!·)) G := by
  show ofB ((match kd G (.ref a), kd G (.ref b) with | some x, some y => keq (zeq 39 G) x y | _, _ => none).map (!·)) G = _
  rw [kd_ref, kd_ref]
  cases lstAt G a <;> cases lstAt G b <;> rfl
theorem zall2 {G : GH} {x y x' y' : List Nat} : zall (zeq 39 G) [.str x, .str y] [.str x', .str y'] = some ((x == x') && ((y == y') && true)) := rfl
theorem dist1 : ∀ i j k, jt i (bt j k) = bt (jt i j) (jt i k) := by decide
theorem dist2 : ∀ i j k, jt (bt j k) i = bt (jt j i) (jt k i) := by decide
theorem ch1 (d : Nat) (G : GH) (i : Fin 5) : (C (d + 5)).cf 4 [.str (gr i)] G = .ok (.str (gr i)) (G ++ [.lst [.bl true]]) := by
  have := choice_ok d G [i] (small _ (by simp))
  rw [List.foldl_cons, bt4] at this
  exact this
theorem sq1 (d : Nat) (G : GH) (i : Fin 5) : (C (d + 5)).cf 5 [.str (gr i)] G = .ok (.str (gr i)) (G ++ [.lst [.bl true]]) := by
  have := sequence_ok d G [i] (small _ (by simp))
  rw [List.foldl_cons, jt1] at this
  exact this
theorem ch2 (d : Nat) (G : GH) (i j : Fin 5) : (C (d + 5)).cf 4 [.str (gr i), .str (gr j)] G = .ok (.str (gr (bt i j))) (G ++ [.lst [.bl true, .bl true]]) := by
  have := choice_ok d G [i, j] (small _ (by simp))
  rw [List.foldl_cons, bt4] at this
  exact this
theorem sq2 (d : Nat) (G : GH) (i j : Fin 5) : (C (d + 5)).cf 5 [.str (gr i), .str (gr j)] G = .ok (.str (gr (jt i j))) (G ++ [.lst [.bl true, .bl true]]) := by
  have := sequence_ok d G [i, j] (small _ (by simp))
  rw [List.foldl_cons, jt1] at this
  exact this
def body3 (r : Rt) : DS := (dSeq (dAsg (dgName 4) (dLst (dCons (dCall r.cf 5 (dCons (dVar 1) (dCons (dCall r.cf 4 (dCons (dVar 2) (dCons (dVar 3) dNil))) dNil))) (dCons (dCall r.cf 5 (dCons (dCall r.cf 4 (dCons (dVar 2) (dCons (dVar 3) dNil))) (dCons (dVar 1) dNil))) dNil)))) (dSeq (dAsg (dgName 5) (dLst (dCons (dCall r.cf 4 (dCons (dCall r.cf 5 (dCons (dVar 1) (dCons (dVar 2) dNil))) (dCons (dCall r.cf 5 (dCons (dVar 1) (dCons (dVar 3) dNil))) dNil))) dNil))) (dSeq (dExp (dMth zAppend ["list"] (dVar 5) (dCons (dCall r.cf 4 (dCons (dCall r.cf 5 (dCons (dVar 2) (dCons (dVar 1) dNil))) (dCons (dCall r.cf 5 (dCons (dVar 3) (dCons (dVar 1) dNil))) dNil))) dNil))) (dSeq (dIfS (uOr (uB (dCmp .NotEq (dVar 4) (dVar 5))) (uNot (dTru (dCall r.cf 12 (dCons (dLst (dCons (dVar 1) (dCons (dVar 2) (dCons (dVar 3) dNil)))) dNil))))) (dSeq (dRet (dC (.bl false))) dNop) dNop) dNop))))
theorem body3_ok (d : Nat) (G : GH) (n : Nat) (i j k : Fin 5) (b e : Option Z) : ∃ E b' e', body3 (rt (d + 4)) [some (.ref n), some (.str (gr i)), some (.str (gr j)), some (.str (gr k)), b, e] G = .nx [some (.ref n), some (.str (gr i)), some (.str (gr j)), some (.str (gr k)), b', e'] (G ++ E) := by
  have c2 : ∀ G i j, (rt (d + 4)).cf 4 [.str (gr i), .str (gr j)] G = _ := ch2 (d + 1)
  have q2 : ∀ G i j, (rt (d + 4)).cf 5 [.str (gr i), .str (gr j)] G = _ := sq2 (d + 1)
  have s1 : 1 ≤ sizeLine := small _ (by decide)
  have s1' : 1 < sizeLine := by rw [sizeLine_eq]; omega
  have s2 : 2 ≤ sizeLine := small _ (by decide)
  have s3 : 3 ≤ sizeLine := small _ (by decide)
  unfold body3
  simp [c2, q2, s1, s2, s3, recv_ap, append_ap, at_sh, at_sh0, set_sh, putO, s1', ne_ap, lstAt, zall2, dist1, dist2, ofB]
  generalize hH : (HAppend.hAppend G _ : GH) = H
  have hm : lstAt H (G.length + 12) = some ([i, j, k].map gz) := by
    rw [← hH, at_sh]; rfl
  obtain ⟨E, e⟩ := right_ok d H (G.length + 12) [i, j, k] hm (by simp)
  have e' : (rt (d + 4)).cf 12 [.ref (G.length + 12)] H = _ := e
  rw [e']
  subst hH
  simp
def body2 (r : Rt) : DS := (dSeq (dIfS (uNot (dTru (dCall r.cf 12 (dCons (dLst (dCons (dVar 1) (dCons (dVar 2) dNil))) dNil)))) (dSeq (dRet (dC (.bl false))) dNop) dNop) (dSeq (dFor (dIter (dVar 0)) (dgName 3) (body3 r)) dNop))
theorem ord_mem {k : Nat} {z : Z} (h : ord1[k]? = some z) : ∃ i, z = .str (gr i) := by
  match k, h with
  | 0, h => cases h; exact ⟨0, rfl⟩
  | 1, h => cases h; exact ⟨1, rfl⟩
  | 2, h => cases h; exact ⟨2, rfl⟩
  | 3, h => cases h; exact ⟨3, rfl⟩
  | 4, h => cases h; exact ⟨4, rfl⟩
  | k + 5, h => simp [ord1] at h
theorem body2_ok (d : Nat) (G : GH) (n : Nat) (hn : lstAt G n = some ord1) (i j : Fin 5) (a b e : Option Z) : ∃ E a' b' e', body2 (rt (d + 4)) [some (.ref n), some (.str (gr i)), some (.str (gr j)), a, b, e] G = .nx [some (.ref n), some (.str (gr i)), some (.str (gr j)), a', b', e'] (G ++ E) := by
  have s2 : 2 ≤ sizeLine := small _ (by decide)
  obtain ⟨E, e1⟩ := right_ok d (G ++ [.lst ([i, j].map gz)]) G.length [i, j] lstAt_new (by simp)
  have e1' : (rt (d + 4)).cf 12 [.ref G.length] (G ++ [.lst [.str (gr i), .str (gr j)]]) = .ok (.bl true) (G ++ [.lst [.str (gr i), .str (gr j)]] ++ E) := e1
  obtain ⟨l', G', h1, ⟨E2, a2, b2, e2, rfl, rfl⟩, h3⟩ := for_live (n := n) (g := dgName 3) (body := body3 (rt (d + 4))) ord1 (fun k l G' => (∃ E a b e, l = [some (.ref n), some (.str (gr i)), some (.str (gr j)), a, b, e] ∧ G' = G ++ E) ∧ lstAt G' n = some ord1)
    (l := [some (.ref n), some (.str (gr i)), some (.str (gr j)), a, b, e]) (G := G ++ ([.lst [.str (gr i), .str (gr j)]] ++ E)) ⟨⟨_, a, b, e, rfl, rfl⟩, lstAt_app hn⟩ (fun k l G' hp => hp.2) (fun k z l G' hz ⟨⟨E3, a3, b3, e3, hl, hG⟩, hL⟩ => by
      subst hl
      obtain ⟨kk, rfl⟩ := ord_mem hz
      obtain ⟨E4, b4, e4, h4⟩ := body3_ok d G' n i j kk b3 e3
      refine ⟨_, _, _, G' ++ E4, rfl, .inl h4, ⟨⟨E3 ++ E4, some (.str (gr kk)), b4, e4, rfl, by rw [hG, List.append_assoc]⟩, lstAt_app hL⟩⟩)
  refine ⟨E2, a2, b2, e2, ?_⟩
  have ti := toItr_ref (lstAt_app hn : lstAt (G ++ ([.lst [.str (gr i), .str (gr j)]] ++ E)) n = some ord1)
  unfold body2
  simp [s2, e1']
  simp at ti h1
  simp [ti, Wk.len, h1]
def body1 (r : Rt) : DS := (dSeq (dIfS (uOr (uB (dCmp .NotEq (dCall r.cf 4 (dCons (dVar 1) dNil)) (dVar 1))) (uB (dCmp .NotEq (dCall r.cf 5 (dCons (dVar 1) dNil)) (dVar 1)))) (dSeq (dRet (dC (.bl false))) dNop) dNop) (dSeq (dFor (dIter (dVar 0)) (dgName 2) (body2 r)) dNop))
theorem body1_ok (d : Nat) (G : GH) (n : Nat) (hn : lstAt G n = some ord1) (i : Fin 5) (c a b e : Option Z) : ∃ E c' a' b' e', body1 (rt (d + 4)) [some (.ref n), some (.str (gr i)), c, a, b, e] G = .nx [some (.ref n), some (.str (gr i)), c', a', b', e'] (G ++ E) := by
  have c1 : ∀ G i, (rt (d + 4)).cf 4 [.str (gr i)] G = _ := ch1 (d + 1)
  have q1 : ∀ G i, (rt (d + 4)).cf 5 [.str (gr i)] G = _ := sq1 (d + 1)
  obtain ⟨l', G', h1, ⟨E2, c2, a2, b2, e2, rfl, rfl⟩, h3⟩ := for_live (n := n) (g := dgName 2) (body := body2 (rt (d + 4))) ord1 (fun k l G' => (∃ E c a b e, l = [some (.ref n), some (.str (gr i)), c, a, b, e] ∧ G' = G ++ E) ∧ lstAt G' n = some ord1)
    (l := [some (.ref n), some (.str (gr i)), c, a, b, e]) (G := G ++ [.lst [.bl true], .lst [.bl true]]) ⟨⟨_, c, a, b, e, rfl, rfl⟩, lstAt_app hn⟩ (fun k l G' hp => hp.2) (fun k z l G' hz ⟨⟨E3, c3, a3, b3, e3, hl, hG⟩, hL⟩ => by
      subst hl
      obtain ⟨kk, rfl⟩ := ord_mem hz
      obtain ⟨E4, a4, b4, e4, h4⟩ := body2_ok d G' n hL i kk a3 b3 e3
      refine ⟨_, _, _, G' ++ E4, rfl, .inl h4, ⟨⟨E3 ++ E4, some (.str (gr kk)), a4, b4, e4, rfl, by rw [hG, List.append_assoc]⟩, lstAt_app hL⟩⟩)
  refine ⟨E2, c2, a2, b2, e2, ?_⟩
  have ti := toItr_ref (lstAt_app hn : lstAt (G ++ [.lst [.bl true], .lst [.bl true]]) n = some ord1)
  unfold body1
  simp [c1, q1]
  simp [ti, Wk.len, h1]
theorem allright_ok (d : Nat) (G : GH) : ∃ E, (C (d + 7)).cf 13 [] G = .ok (.bl true) (G ++ E) := by
  rw [show d + 7 = (d + 4) + 3 from rfl, cfS (d + 4) 13 f_13 s_13 6 0 rfl rfl rfl rfl rfl sh_13 rfl]
  have c0 : ∀ G, (rt (d + 4)).cf 4 [] G = .ok (.str (gr 4)) (G ++ [.lst []]) := fun G => choice_ok (d + 1) G [] (small _ (by simp))
  have q0 : ∀ G, (rt (d + 4)).cf 5 [] G = .ok (.str (gr 1)) (G ++ [.lst []]) := fun G => sequence_ok (d + 1) G [] (small _ (by simp))
  have hn : lstAt (G ++ [ZO.lst ord1]) G.length = some ord1 := lstAt_new
  obtain ⟨l', G', h1, ⟨E2, y2, c2, a2, b2, e2, rfl, rfl⟩, h3⟩ := for_live (n := G.length) (g := dgName 1) (body := body1 (rt (d + 4))) ord1 (fun k l G' => (∃ E y c a b e, l = [some (.ref G.length), y, c, a, b, e] ∧ G' = G ++ E) ∧ lstAt G' G.length = some ord1)
    (l := [some (.ref G.length), none, none, none, none, none]) (G := G ++ [.lst ord1, .lst ord1, .lst [], .lst []]) ⟨⟨_, none, none, none, none, none, rfl, rfl⟩, by rw [at_sh0]; rfl⟩ (fun k l G' hp => hp.2) (fun k z l G' hz ⟨⟨E3, y3, c3, a3, b3, e3, hl, hG⟩, hL⟩ => by
      subst hl
      obtain ⟨kk, rfl⟩ := ord_mem hz
      obtain ⟨E4, c4, a4, b4, e4, h4⟩ := body1_ok d G' G.length hL kk c3 a3 b3 e3
      refine ⟨_, _, _, G' ++ E4, rfl, .inl h4, ⟨⟨E3 ++ E4, some (.str (gr kk)), c4, a4, b4, e4, rfl, by rw [hG, List.append_assoc]⟩, lstAt_app hL⟩⟩)
  refine ⟨E2, ?_⟩
  have s5 : ord1.length ≤ sizeLine := small _ (by decide)
  have ti := toItr_ref (by rw [at_sh0]; rfl : lstAt (G ++ [.lst ord1, .lst ord1, .lst [], .lst []]) G.length = some ord1)
  have e5 : [Z.str [114, 101, 115, 116, 97, 114, 116], .str [102, 114, 101, 101], .str [112, 97, 105, 100], .str [100, 101, 97, 114], .str [110, 111, 110, 101]] = ord1 := rfl
  have el : ∀ G, tyZ "list" [.tup ord1] G = .ok (.ref G.length) (G ++ [.lst ord1]) := fun G => rfl
  have ez : ∀ G, zall (zeq 39 G) ord1 ord1 = some true := fun G => rfl
  show (s_13 (rt (d + 4)) [none, none, none, none, none, none] G).fin = _
  have e4 : gr 4 = [110, 111, 110, 101] := rfl
  have e1 : gr 1 = [102, 114, 101, 101] := rfl
  have sh : s_13 (rt (d + 4)) = (dSeq (dAsg (dgName 0) (dLst (dCons (dC (.str [114, 101, 115, 116, 97, 114, 116])) (dCons (dC (.str [102, 114, 101, 101])) (dCons (dC (.str [112, 97, 105, 100])) (dCons (dC (.str [100, 101, 97, 114])) (dCons (dC (.str [110, 111, 110, 101])) dNil))))))) (dSeq (dIfS (uOr (uB (dCmp .NotEq (dFn (tyZ "list") (dCons (dC (.tup [.str [114, 101, 115, 116, 97, 114, 116], .str [102, 114, 101, 101], .str [112, 97, 105, 100], .str [100, 101, 97, 114], .str [110, 111, 110, 101]])) dNil)) (dVar 0))) (uOr (uB (dCmp .NotEq (dCall (rt (d + 4)).cf 4 dNil) (dC (.str [110, 111, 110, 101])))) (uB (dCmp .NotEq (dCall (rt (d + 4)).cf 5 dNil) (dC (.str [102, 114, 101, 101])))))) (dSeq (dRet (dC (.bl false))) dNop) dNop) (dSeq (dFor (dIter (dVar 0)) (dgName 1) (body1 (rt (d + 4)))) (dSeq (dRet (dC (.bl true))) dNop)))) := rfl
  rw [sh]
  simp [e5, s5, el, ne_ap, at_sh, at_sh0, lstAt, ez, ofB, c0, q0, e4, e1]
  simp [ti, Wk.len, h1]
end K
end
section
set_option Elab.async false
set_option linter.all false
set_option maxRecDepth 100000
set_option maxHeartbeats 4000000
namespace K
open PySem PySem.Spec PyProof.Rows L2 Zy
theorem lfS (d : Nat) (th : GH → R Z) (G : GH) : (C (d + 3)).lf 11 th G = (s_11 { rt d with th := th } [some .ex, none] G).fin := by
  have e : (C (d + 3)).lf 11 th = dFunA tx.T f_11 { rt d with th := th } := by
    show (stepD _ _ _ _ _ _).lf 11 th = _
    unfold stepD
    rfl
  rw [e]
  unfold dFunA
  rw [show f_11.body = b_11 from rfl, sh_11]
  rfl
theorem refused_ok (d : Nat) {th : GH → R Z} {G G' : GH} (h : th G = .exc ⟨.own 1, none⟩ G') : (C (d + 3)).lf 11 th G = .ok (.bl true) G' := by
  rw [lfS]
  have e : (dSeq (dExp (dAct 0 th)) dNop) [some .ex, none] G = .exc ⟨.own 1, none⟩ [some .ex, none] G' := by
    show ((dAct 0 th [some .ex, none] G).st _ _).seq _ = _
    have : dAct 0 th [some .ex, none] G = th G := rfl
    rw [this, h]; rfl
  unfold s_11
  rw [dSeq_ap, dTry_ap]
  simp only
  rw [e]
  rfl
/-- an odd value: no grade, known, not the stream -/
structure Odd (s : Nat) (G : GH) (v : Z) : Prop where
  kn : Kn G v false
  ne : v ≠ .ref s
theorem Odd.keep {s : Nat} {G G' : GH} {v : Z} (o : Odd s G v) (k : Keep s G G') : Odd s G' v := by
  refine ⟨?_, o.ne⟩
  rcases o.kn with h | ⟨t, h1, h2, h3, h4⟩
  · exact .inl h
  · refine .inr ⟨t, ?_, h2, h3, h4⟩
    cases v with
    | ref n =>
      have hn : n ≠ s := fun e => o.ne (by rw [e])
      have h' : (match G[n]? with | some (.lst _) => some "list" | some (.dK _ _) => some "dict" | _ => none) = some t := h1
      show (match G'[n]? with | some (.lst _) => some "list" | some (.dK _ _) => some "dict" | _ => none) = some t
      cases q : G[n]? with
      | none => rw [q] at h'; cases h'
      | some o =>
        rw [k.old n (List.getElem?_eq_some_iff.mp q).1 hn, q]
        rw [q] at h'
        exact h'
    | _ => exact h1
theorem Kn.nex {G : GH} {v : Z} {b : Bool} (h : Kn G v b) : v ≠ .ex := by
  rcases h with ⟨x, rfl, _⟩ | ⟨_, _, _, _, q⟩
  · exact fun q => nomatch q
  · exact q
theorem kn_list {G : GH} {vs : List Z} {bs : List Bool} (h : vs.length = bs.length) (hh : ∀ p ∈ vs.zip bs, Kn G p.1 p.2) : ∀ (k : Nat) (v : Z) (b : Bool), vs[k]? = some v → bs[k]? = some b → Kn G v b := fun k v b h1 h2 => by
  have : (vs.zip bs)[k]? = some (v, b) := by rw [List.getElem?_zip_eq_some]; exact ⟨h1, h2⟩
  exact hh (v, b) (List.mem_of_getElem? this)
theorem kn_non (G : GH) : Kn G .non false := .inr ⟨"NoneType", rfl, by decide, rfl, fun q => nomatch q⟩
theorem drawC (d : Nat) {G : GH} {s : Nat} {tot : Int} (h : StrAt G s) (ht : 0 < tot) (hb : tot < 1073741824) : ∃ x G', (C (d + 3)).cf 7 [.ref s, .int tot] G = .ok (.int x) G' ∧ Keep s G G' ∧ 0 ≤ x ∧ x < tot := by
  obtain ⟨x, G', h1, h2⟩ := draw_keep h ht hb
  refine ⟨x, G', ?_, h2⟩
  rw [cfS d 7 f_7 s_7 5 2 rfl rfl rfl rfl rfl sh_7 rfl]
  exact h1
theorem pick {x : Int} (h0 : 0 ≤ x) (h5 : x < 5) (G : GH) : ∃ i, zIx (.tup [.str [114, 101, 115, 116, 97, 114, 116], .str [102, 114, 101, 101], .str [112, 97, 105, 100], .str [100, 101, 97, 114], .str [110, 111, 110, 101]]) (.int x) G = .ok (.str (gr i)) G := by
  obtain rfl | rfl | rfl | rfl | rfl : x = 0 ∨ x = 1 ∨ x = 2 ∨ x = 3 ∨ x = 4 := by omega
  · exact ⟨0, rfl⟩
  · exact ⟨1, rfl⟩
  · exact ⟨2, rfl⟩
  · exact ⟨3, rfl⟩
  · exact ⟨4, rfl⟩
theorem mul_ref {A B : GH} {k : Nat} {x : List Z} {j : Int} (h : lstAt B k = some x) (hj : (decide (-(2 ^ 63) ≤ j) && decide (j < 2 ^ 63) && decide (x.length * j.toNat ≤ sizeLine)) = true) : zBin .Mult (.ref (A.length + k)) (.int j) (A ++ B) = .ok (.ref (A ++ B).length) ((A ++ B) ++ [.lst (List.replicate j.toNat x).flatten]) := by
  show (match lstAt (A ++ B) (A.length + k) with
    | some x => if decide (-(2 ^ 63) ≤ j) && decide (j < 2 ^ 63) && decide (x.length * j.toNat ≤ sizeLine) then newO (.lst (List.replicate j.toNat x).flatten) (A ++ B) else .bad
    | _ => .bad) = _
  rw [at_sh, h]
  exact if_pos hj
theorem eq_ap {G : GH} {a b : Nat} : zCmp .Eq (.ref a) (.ref b) G = ofB ((lstAt G a).bind fun xs => (lstAt G b).bind fun ys => zall (zeq 39 G) xs ys) G := by
  show ofB (match kd G (.ref a), kd G (.ref b) with | some x, some y => keq (zeq 39 G) x y | _, _ => none) G = _
  rw [kd_ref, kd_ref]
  cases lstAt G a <;> cases lstAt G b <;> rfl
theorem zall5 {G : GH} : zall (zeq 39 G) [.bl true, .bl true, .bl true, .bl true, .bl true] [.bl true, .bl true, .bl true, .bl true, .bl true] = some true := rfl
theorem odd_ok (d : Nat) {G : GH} {s : Nat} {v : Z} (hs : StrAt G s) (ho : Odd s G v) : ∃ G', (C (d + 8)).cf 14 [.ref s, v] G = .ok (.bl true) G' ∧ Keep s G G' := by
  rw [show d + 8 = (d + 5) + 3 from rfl, cfS (d + 5) 14 f_14 s_14 4 2 rfl rfl rfl rfl rfl sh_14 rfl]
  show ∃ G', (s_14 (rt (d + 5)) [some (.ref s), some v, none, none] G).fin = .ok (.bl true) G' ∧ Keep s G G'
  obtain ⟨x, G1, h1, k1, h2, h3⟩ := drawC (d + 4) hs (tot := 5) (by decide) (by decide)
  have h1' : (rt (d + 5)).cf 7 [.ref s, .int 5] G = .ok (.int x) G1 := h1
  obtain ⟨i, hi⟩ := pick h2 h3 G1
  have kn : ∀ E, Kn (G1 ++ E) v false := fun E => (ho.keep k1).kn.app
  have hv := ho.kn.nex
  have v1 : ∀ l G', dVar 1 (some (.ref s) :: some v :: l) G' = .ok v G' := fun l G' => dVar_of rfl hv
  have s3 : ∀ n, n ≤ 3 → n ≤ sizeLine := fun n h => small n (by omega)
  have lo : (rt (d + 5)).low = (C (d + 5)).cf := rfl
  have lf : (rt (d + 5)).lf 11 = (C ((d + 4) + 3)).lf 11 := rfl
  have gk : ∀ G, Kn G (.str (gr i)) true := fun G => Kn.gz G i
  have t1 : ∀ E, (rt (d + 5)).lf 11 ((rt (d + 5)).low 4 [v]) (G1 ++ E) = .ok (.bl true) (G1 ++ (E ++ [.lst [.bl false]])) := fun E => by
    rw [lf, lo]
    have := choice_bad d (G1 ++ E) [v] [false] (s3 _ (by simp)) rfl (kn_list rfl (by simp [kn])) rfl
    rw [List.append_assoc] at this
    exact refused_ok (d + 4) this
  have t2 : ∀ E, (rt (d + 5)).lf 11 ((rt (d + 5)).low 5 [v]) (G1 ++ E) = .ok (.bl true) (G1 ++ (E ++ [.lst [.bl false]])) := fun E => by
    rw [lf, lo]
    have := sequence_bad d (G1 ++ E) [v] [false] (s3 _ (by simp)) rfl (kn_list rfl (by simp [kn])) rfl
    rw [List.append_assoc] at this
    exact refused_ok (d + 4) this
  have t3 : ∀ E, (rt (d + 5)).lf 11 ((rt (d + 5)).low 4 [.str (gr i), v]) (G1 ++ E) = .ok (.bl true) (G1 ++ (E ++ [.lst [.bl true, .bl false]])) := fun E => by
    rw [lf, lo]
    have := choice_bad d (G1 ++ E) [.str (gr i), v] [true, false] (s3 _ (by simp)) rfl (kn_list rfl (by simp [kn, gk])) rfl
    rw [List.append_assoc] at this
    exact refused_ok (d + 4) this
  have t4 : ∀ E, (rt (d + 5)).lf 11 ((rt (d + 5)).low 5 [.str [110, 111, 110, 101], .str (gr i), v]) (G1 ++ E) = .ok (.bl true) (G1 ++ (E ++ [.lst [.bl true, .bl true, .bl false]])) := fun E => by
    rw [lf, lo]
    have g4 : ∀ G, Kn G (.str [110, 111, 110, 101]) true := fun G => Kn.gz G 4
    have := sequence_bad d (G1 ++ E) [.str [110, 111, 110, 101], .str (gr i), v] [true, true, false] (s3 _ (by simp)) rfl (kn_list rfl (by simp [kn, gk, g4])) rfl
    rw [List.append_assoc] at this
    exact refused_ok (d + 4) this
  have t5 : ∀ E, (rt (d + 5)).lf 11 ((rt (d + 5)).low 4 [v, .non, .str (gr i)]) (G1 ++ E) = .ok (.bl true) (G1 ++ (E ++ [.lst [.bl false, .bl false, .bl true]])) := fun E => by
    rw [lf, lo]
    have := choice_bad d (G1 ++ E) [v, .non, .str (gr i)] [false, false, true] (s3 _ (by simp)) rfl (kn_list rfl (by simp [kn, gk, kn_non])) rfl
    rw [List.append_assoc] at this
    exact refused_ok (d + 4) this
  have t1' := t1 []
  rw [List.append_nil] at t1'
  have s1 : 1 ≤ sizeLine := small _ (by decide)
  have z1 : ∀ n, n ≤ 5 → n < sizeLine := fun n h => by rw [sizeLine_eq]; omega
  unfold s_14
  have hm : (decide (-(2 ^ 63) ≤ (5 : Int)) && decide ((5 : Int) < 2 ^ 63) && decide ([Z.bl true].length * (5 : Int).toNat ≤ sizeLine)) = true := by
    rw [show (decide (([Z.bl true].length * (5 : Int).toNat) ≤ sizeLine)) = true from decide_eq_true (small _ (by decide))]
    decide
  have mm : ∀ (A B : GH) k, lstAt B k = some [.bl true] → _ := fun A B k h => mul_ref (A := A) (j := 5) h hm
  simp [h1', hi, v1, t1', t2, t3, t4, t5, s1, recv_ap, append_ap, at_sh, at_sh0, set_sh, putO, lstAt, z1]
  rw [mm _ _ _ rfl]
  simp [eq_ap, at_sh, at_sh0, lstAt, List.replicate, zall5, ofB]
  exact k1.trans Keep.app
end K
end
section
set_option Elab.async false
set_option linter.all false
set_option maxRecDepth 100000
set_option maxHeartbeats 4000000
namespace K
open PySem PySem.Spec PyProof.Rows L2 Zy
theorem ixl {G : GH} {n : Nat} {xs : List Z} {x : Int} (h : lstAt G n = some xs) (h0 : 0 ≤ x) (h1 : x < (xs.length : Int)) : ∃ v, zIx (.ref n) (.int x) G = .ok v G ∧ v ∈ xs := by
  obtain ⟨k, rfl⟩ : ∃ k : Nat, x = k := ⟨x.toNat, by omega⟩
  have hk : k < xs.length := by omega
  refine ⟨xs[k], ?_, List.getElem_mem hk⟩
  show (match (lstAt G n).bind fun xs => atI xs k with | some z => R.ok z G | none => .bad) = _
  have : atI xs (k : Int) = some xs[k] := by
    unfold atI ixN
    simp [hk]
  rw [h, Option.bind_some, this]
theorem odd_of {s : Nat} {G : GH} {v : Z} (t : String) (h1 : tyName G v = some t) (h2 : isaB t "str" = some false) (h3 : v ≠ .ex) (h4 : v ≠ .ref s) : Odd s G v := ⟨.inr ⟨t, h1, h2, rfl, h3⟩, h4⟩
theorem odd_str {s : Nat} {G : GH} {x : List Nat} (h : isG x = false) : Odd s G (.str x) := ⟨.inl ⟨x, rfl, h.symm⟩, fun q => nomatch q⟩
theorem odd_ref {s n : Nat} {G : GH} {t : String} (h1 : tyName G (.ref n) = some t) (h2 : isaB t "str" = some false) (h : s < n) : Odd s G (.ref n) := odd_of t h1 h2 (fun q => nomatch q) (fun q => by injection q with q; omega)
def ten39 : Int := 10 ^ 39
theorem pow_39 {G : GH} : zBin .Pow (.int 10) (.int 39) G = .ok (.int ten39) G := pow_ap (by decide +kernel)
theorem dmk1 (r : Rt) : ∃ ks zs, ∀ (l : L) (G : GH), (ev tx.T (.dmk (.dcons (.cst (.int (0))) (.cst (.int (1))) .dnil)) r none).e l G = .ok (.ref G.length) (G ++ [.dK ks zs]) := by
  obtain ⟨⟨ks, zs⟩, h⟩ : ∃ p, mkKZ [(.int 0, .int 1)] [] [] = some p := ⟨_, rfl⟩
  refine ⟨ks, zs, fun l G => ?_⟩
  show (match (G ++ [ZO.dK [] []])[G.length]?, mkKZ [(.int 0, .int 1)] [] [] with
    | some (.dK [] []), some (ks, zs) => if [(Z.int 0, Z.int 1)].length ≤ 15 then R.ok (Z.ref G.length) ((G ++ [ZO.dK [] []]).set G.length (.dK ks zs)) else .bad
    | _, _ => .bad) = _
  rw [List.getElem?_append_right (Nat.le_refl _), Nat.sub_self, h]
  show R.ok (Z.ref G.length) ((G ++ [ZO.dK [] []]).set G.length (.dK ks zs)) = _
  rw [set_new]
theorem add_ref {A B : GH} {j k : Nat} {x y : List Z} (h1 : lstAt B j = some x) (h2 : lstAt B k = some y) (h : x.length + y.length ≤ sizeLine) : zBin .Add (.ref (A.length + j)) (.ref (A.length + k)) (A ++ B) = .ok (.ref (A ++ B).length) ((A ++ B) ++ [.lst (x ++ y)]) := by
  show (match lstAt (A ++ B) (A.length + j), lstAt (A ++ B) (A.length + k) with
    | some x, some y => if x.length + y.length ≤ sizeLine then newO (.lst (x ++ y)) (A ++ B) else .bad
    | _, _ => .bad) = _
  rw [at_sh, at_sh, h1, h2]
  exact if_pos h
theorem tyl {G G' : GH} {s : Nat} (k : Keep s G G') {n : Nat} (h : n < G.length) (hs : n ≠ s) {t : String} (q : tyName G (.ref n) = some t) : tyName G' (.ref n) = some t := by
  have h' : (match G[n]? with | some (.lst _) => some "list" | some (.dK _ _) => some "dict" | _ => none) = some t := q
  show (match G'[n]? with | some (.lst _) => some "list" | some (.dK _ _) => some "dict" | _ => none) = some t
  rw [k.old n h hs]; exact h'
theorem ty_sh {A B : GH} {k : Nat} : tyName (A ++ B) (.ref (A.length + k)) = tyName B (.ref k) := by
  show (match (A ++ B)[A.length + k]? with | some (.lst _) => some "list" | some (.dK _ _) => some "dict" | _ => none) = _
  rw [List.getElem?_append_right (by omega), Nat.add_sub_cancel_left]
  rfl
theorem drawR (d : Nat) {G : GH} {s : Nat} {tot : Int} (h : StrAt G s) (ht : 0 < tot) (hb : tot < 1073741824) : ∃ x G', (rt (d + 1)).cf 7 [.ref s, .int tot] G = .ok (.int x) G' ∧ Keep s G G' ∧ 0 ≤ x ∧ x < tot := drawC d h ht hb
theorem neg_ap {G : GH} : zNeg (.int 1) G = .ok (.int (-1)) G := rfl
theorem other_ok (d : Nat) {G : GH} {s : Nat} (hs : StrAt G s) : ∃ v G', (C (d + 4)).cf 10 [.ref s] G = .ok v G' ∧ Keep s G G' ∧ ((∃ x, v = .str x) ∨ Odd s G' v) := by
  rw [show d + 4 = (d + 1) + 3 from rfl, cfS (d + 1) 10 f_10 s_10 2 1 rfl rfl rfl rfl rfl sh_10 rfl]
  show ∃ v G', (s_10 (rt (d + 1)) [some (.ref s), none] G).fin = .ok v G' ∧ Keep s G G' ∧ ((∃ x, v = .str x) ∨ Odd s G' v)
  obtain ⟨ks, zs, hd⟩ := dmk1 (rt (d + 1))
  have lt := hs.lt
  have z1 : ∀ n, n ≤ 100 → n ≤ sizeLine := small
  unfold s_10
  have ad : ∀ (A B : GH) j k x y, lstAt B j = some x → lstAt B k = some y → x.length + y.length ≤ sizeLine → _ := fun A B j k x y h1 h2 h => add_ref (A := A) (B := B) h1 h2 h
  simp [hd, pow_39, z1, neg_ap]
  simp only [Nat.add_assoc, Nat.reduceAdd]
  rw [ad _ _ _ _ _ _ rfl rfl (small _ (by simp))]
  simp
  generalize hP : (HAppend.hAppend G _ : GH) = P
  have kP : Keep s G P := by rw [← hP]; exact Keep.app
  have hp : lstAt P (G.length + 6) = some [.non, .bl true, .int (-1), .int 0, .int 1, .str [], .str [97], .str [97, 98], .tup [], .ref G.length, .ref (G.length + 1), .tup [.int 0], .tup [.str [97]], .int ten39, .str [110, 101, 118, 101, 114], .tup [.non], .tup [.tup []], .ref (G.length + 3), .ref (G.length + 4)] := by rw [← hP, at_sh]; rfl
  have g0 : tyName P (.ref G.length) = some "list" := by rw [← hP]; exact ty_sh (k := 0)
  have g1 : tyName P (.ref (G.length + 1)) = some "dict" := by rw [← hP]; exact ty_sh
  have g3 : tyName P (.ref (G.length + 3)) = some "list" := by rw [← hP]; exact ty_sh
  have g4 : tyName P (.ref (G.length + 4)) = some "dict" := by rw [← hP]; exact ty_sh
  have lP : G.length + 6 < P.length := by rw [← hP]; simp
  obtain ⟨x, G1, e1, k1, h0, h1⟩ := drawR d (tot := 19) (kP.str hs) (by decide) (by decide)
  have hp1 := k1.lst hp (by omega)
  obtain ⟨v, hv, hm⟩ := ixl hp1 h0 h1
  have ln := len_ref hp
  have ln' : zLen (.ref (G.length + 6)) P = .ok (.int 19) P := ln
  refine ⟨v, G1, by simp [ln', e1, hv], kP.trans k1, ?_⟩
  clear hp hp1 hv ln ln'
  have ok : ∀ {v : Z} (t : String), tyName G1 v = some t → isaB t "str" = some false → v ≠ .ex → v ≠ .ref s → Odd s G1 v := odd_of
  have n0 := tyl k1 (by omega) (by omega) g0
  have n1 := tyl k1 (by omega) (by omega) g1
  have n3 := tyl k1 (by omega) (by omega) g3
  have n4 := tyl k1 (by omega) (by omega) g4
  have a1 : isaB "list" "str" = some false := by decide
  have a2 : isaB "dict" "str" = some false := by decide
  have a3 : isaB "tuple" "str" = some false := by decide
  have a4 : isaB "int" "str" = some false := by decide
  have a5 : isaB "bool" "str" = some false := by decide
  have a6 : isaB "NoneType" "str" = some false := by decide
  simp at hm
  rcases hm with rfl | rfl | rfl | rfl | rfl | rfl | rfl | rfl | rfl | rfl | rfl | rfl | rfl | rfl | rfl | rfl | rfl | rfl | rfl
  · exact .inr (ok "NoneType" rfl a6 nofun nofun)
  · exact .inr (ok "bool" rfl a5 nofun nofun)
  · exact .inr (ok "int" rfl a4 nofun nofun)
  · exact .inr (ok "int" rfl a4 nofun nofun)
  · exact .inr (ok "int" rfl a4 nofun nofun)
  · exact .inl ⟨_, rfl⟩
  · exact .inl ⟨_, rfl⟩
  · exact .inl ⟨_, rfl⟩
  · exact .inr (ok "tuple" rfl a3 nofun nofun)
  · exact .inr (odd_ref n0 a1 lt)
  · exact .inr (odd_ref n1 a2 (by omega))
  · exact .inr (ok "tuple" rfl a3 nofun nofun)
  · exact .inr (ok "tuple" rfl a3 nofun nofun)
  · exact .inr (ok "int" rfl a4 nofun nofun)
  · exact .inl ⟨_, rfl⟩
  · exact .inr (ok "tuple" rfl a3 nofun nofun)
  · exact .inr (ok "tuple" rfl a3 nofun nofun)
  · exact .inr (odd_ref n3 a1 (by omega))
  · exact .inr (odd_ref n4 a2 (by omega))
end K
end
section
set_option Elab.async false
set_option linter.all false
set_option maxRecDepth 100000
set_option maxHeartbeats 4000000
namespace K
open PySem PySem.Spec PyProof.Rows L2 Zy
def bodyT (r : Rt) : DS := (dSeq (dIfS (uNot (dTru (dCall r.cf 12 (dCons (dComp (dRng1 (dCons (dIx (dLst (dCons (dC (.int (5))) (dCons (dC (.int (7))) dNil))) (dVar 3)) dNil)) (.nm 4) dYes (dIx (dC (.tup [.str [114, 101, 115, 116, 97, 114, 116], .str [102, 114, 101, 101], .str [112, 97, 105, 100], .str [100, 101, 97, 114], .str [110, 111, 110, 101]])) (dCall r.cf 7 (dCons (dVar 2) (dCons (dC (.int (5))) dNil)))) [4]) dNil)))) (dSeq (dRet (dC (.bl false))) dNop) dNop) dNop)
theorem StrAt.set {G : GH} {s m : Nat} {y : ZO} (h : StrAt G s) (hm : m ≠ s) : StrAt (G.set m y) s := by
  obtain ⟨a, b, c, q⟩ := h
  refine ⟨a, b, c, lstAt_eq.mpr ?_⟩
  rw [List.getElem?_set_ne hm]; exact lstAt_eq.mp q
theorem rng_nth {j : Int} {k : Nat} {z : Z} (h : (rngZ 0 j)[k]? = some z) : z = .int k := by
  unfold rngZ at h
  rw [List.getElem?_map] at h
  cases q : (List.range (j - 0).toNat)[k]? with
  | none => rw [q] at h; cases h
  | some i =>
    rw [q] at h
    obtain ⟨h1, h2⟩ := List.getElem?_eq_some_iff.mp q
    rw [List.getElem_range] at h2
    subst h2
    injection h with h
    rw [← h]; simp
theorem rng_len {j : Int} : (rngZ 0 j).length = j.toNat := by unfold rngZ; simp
theorem comp_ok (d : Nat) {G : GH} {s : Nat} {j : Int} {v a t p o ot : Option Z} (hs : StrAt G s) (hj : j = 5 ∨ j = 7) : ∃ (G' : GH) (is : List (Fin 5)), lcGo (.pure (rngZ 0 j)) (.nm 4) dYes (dIx (dC (.tup [.str [114, 101, 115, 116, 97, 114, 116], .str [102, 114, 101, 101], .str [112, 97, 105, 100], .str [100, 101, 97, 114], .str [110, 111, 110, 101]])) (dCall (rt (d + 1)).cf 7 (dCons (dVar 2) (dCons (dC (.int (5))) dNil)))) G.length [v, a, some (.ref s), t, p, o, ot] (rngZ 0 j).length 0 (G ++ [.lst []]) = .ok (.ref G.length) G' ∧ lstAt G' G.length = some (is.map gz) ∧ (is.length = 5 ∨ is.length = 7) ∧ StrAt G' s := by
  have lt := hs.lt
  have hl : (rngZ 0 j).length = 5 ∨ (rngZ 0 j).length = 7 := by rw [rng_len]; rcases hj with rfl | rfl <;> decide
  obtain ⟨acc, G', h1, h2, h3, ⟨is, rfl⟩, h5⟩ := lc_go (xs := rngZ 0 j) (i := 4) (e := (dIx (dC (.tup [.str [114, 101, 115, 116, 97, 114, 116], .str [102, 114, 101, 101], .str [112, 97, 105, 100], .str [100, 101, 97, 114], .str [110, 111, 110, 101]])) (dCall (rt (d + 1)).cf 7 (dCons (dVar 2) (dCons (dC (.int (5))) dNil))))) (l := [v, a, some (.ref s), t, p, o, ot]) (n := G.length) (G0 := G ++ [.lst []]) (fun k acc G' => (∃ is : List (Fin 5), acc = is.map gz) ∧ StrAt G' s)
    (fun k z acc G1 hz ⟨⟨is, hi⟩, hS⟩ hl => by
      obtain ⟨x, G2, e1, k1, h0, h5⟩ := drawR d (tot := 5) hS (by decide) (by decide)
      obtain ⟨i, hi'⟩ := pick h0 h5 G2
      refine ⟨.str (gr i), G2, ?_, k1.lst hl (by omega), ⟨is ++ [i], by rw [hi, List.map_append]; rfl⟩, StrAt.set (k1.str hS) (by omega)⟩
      simp [e1, hi'])
    (small _ (by omega)) ⟨⟨[], rfl⟩, hs.app⟩ lstAt_new
  refine ⟨G', is, h1, h2, ?_, h5⟩
  rw [List.length_map] at h3
  omega
theorem bodyT_ok (d : Nat) {G : GH} {s : Nat} {v a p o ot : Option Z} {k : Nat} (hk : k < 2) (hs : StrAt G s) : ∃ G', bodyT (rt (d + 4)) [v, a, some (.ref s), some (.int k), p, o, ot] G = .nx [v, a, some (.ref s), some (.int k), p, o, ot] G' ∧ StrAt G' s := by
  obtain ⟨j, hj, hx⟩ : ∃ j : Int, (j = 5 ∨ j = 7) ∧ ∀ G : GH, zIx (.ref G.length) (.int k) (G ++ [.lst [.int 5, .int 7]]) = .ok (.int j) (G ++ [.lst [.int 5, .int 7]]) := by
    obtain rfl | rfl : k = 0 ∨ k = 1 := by omega
    · refine ⟨5, .inl rfl, fun G => ?_⟩
      show (match (lstAt (G ++ [.lst [.int 5, .int 7]]) G.length).bind fun xs => atI xs (0 : Nat) with | some z => R.ok z _ | none => .bad) = _
      rw [lstAt_new]; rfl
    · refine ⟨7, .inr rfl, fun G => ?_⟩
      show (match (lstAt (G ++ [.lst [.int 5, .int 7]]) G.length).bind fun xs => atI xs (1 : Nat) with | some z => R.ok z _ | none => .bad) = _
      rw [lstAt_new]; rfl
  have ho : okR j = true := by rcases hj with rfl | rfl <;> decide
  obtain ⟨G1, is, e1, e2, e3, e4⟩ := comp_ok (d + 3) (G := G ++ [.lst [.int 5, .int 7]]) (v := v) (a := a) (t := some (.int k)) (p := none) (o := o) (ot := ot) hs.app hj
  obtain ⟨E, e5⟩ := right_ok d G1 _ is e2 (by omega)
  have e5' : (rt (d + 4)).cf 12 [.ref (G ++ [ZO.lst [.int 5, .int 7]]).length] G1 = .ok (.bl true) (G1 ++ E) := e5
  refine ⟨G1 ++ E, ?_, e4.app⟩
  have s2 : 2 ≤ sizeLine := small _ (by decide)
  have w : wipeZ [v, a, some (.ref s), some (.int k), p, o, ot] [4] = [v, a, some (.ref s), some (.int k), none, o, ot] := rfl
  have e1' := e1
  simp only [List.length_append, List.length_cons, List.length_nil, Nat.zero_add, List.append_assoc, List.cons_append, List.nil_append] at e1' e5'
  rw [show d + 3 + 1 = d + 4 from rfl] at e1'
  unfold bodyT
  simp [s2, hx, ho, w, Wk.len]
  simp [e1', e5']
def bodyL (r : Rt) : DS := (dSeq (dAsg (dgName 2) (dCall r.cf 6 (dCons (dVar 0) (dCons (dVar 1) dNil)))) (dSeq (dFor (dRng1 (dCons (dC (.int (2))) dNil)) (dgName 3) (bodyT r)) (dSeq (dAsg (dgName 5) (dLst (dCons (dC (.non)) (dCons (dC (.int (0))) (dCons (dC (.bl true)) (dCons (dC (.str [])) (dCons (dC (.str [70, 114, 101, 101])) (dCons (dC (.str [110, 111, 116, 104, 105, 110, 103])) (dCons (dC (.str [102, 114, 101, 101, 32])) (dCons (dTup (dCons (dC (.str [102, 114, 101, 101])) dNil)) (dCons (dLst (dCons (dC (.str [102, 114, 101, 101])) dNil)) (dCons dNewD (dCons (dC (.tup [.str [114, 101, 115, 116, 97, 114, 116], .str [102, 114, 101, 101], .str [112, 97, 105, 100], .str [100, 101, 97, 114], .str [110, 111, 110, 101]])) (dCons (dBin .Pow (dC (.int (10))) (dC (.int (39)))) dNil)))))))))))))) (dSeq (dIfS (uNot (dTru (dCall r.cf 14 (dCons (dVar 2) (dCons (dIx (dVar 5) (dCall r.cf 7 (dCons (dVar 2) (dCons (dFn (on1 zLen) (dCons (dVar 5) dNil)) dNil)))) dNil))))) (dSeq (dRet (dC (.bl false))) dNop) dNop) (dSeq (dAsg (dgName 6) (dCall r.cf 10 (dCons (dVar 2) dNil))) (dSeq (dIfS (uAnd (uNot (dTru (dFn (on2 zIsi) (dCons (dVar 6) (dCons (dC (.ty "str")) dNil))))) (uNot (dTru (dCall r.cf 14 (dCons (dVar 2) (dCons (dVar 6) dNil)))))) (dSeq (dRet (dC (.bl false))) dNop) dNop) dNop))))))
theorem streamR (d : Nat) {G : GH} {ns : List Int} {at_ : Nat} : ∃ a b, (rt (d + 1)).cf 6 [.rol (ns.map .int), .int at_] G = .ok (.ref G.length) (G ++ [.lst [.int a, .int b, .int 0]]) := by
  obtain ⟨a, b, h⟩ := stream_ok (G := G) (ns := ns) (at_ := at_)
  refine ⟨a, b, ?_⟩
  have e : (C (d + 3)).cf 6 [.rol (ns.map .int), .int at_] G = .ok (.ref G.length) (G ++ [.lst [.int a, .int b, .int 0]]) := by
    rw [cfS d 6 f_6 s_6 5 2 rfl rfl rfl rfl rfl sh_6 rfl]
    exact h
  exact e
theorem two_ok (d : Nat) {G : GH} {s : Nat} {v a o ot t p : Option Z} (hs : StrAt G s) : ∃ G' t' p', forLoop (.pure (rngZ 0 2)) (dgName 3) (bodyT (rt (d + 4))) (rngZ 0 2).length 0 [v, a, some (.ref s), t, p, o, ot] G = .nx [v, a, some (.ref s), t', p', o, ot] G' ∧ StrAt G' s := by
  obtain ⟨l', G', h1, ⟨t', p', hl⟩, h3⟩ := for_pure (g := dgName 3) (body := bodyT (rt (d + 4))) (rngZ 0 2) (fun k l G' => (∃ t p, l = [v, a, some (.ref s), t, p, o, ot]) ∧ StrAt G' s) (l := [v, a, some (.ref s), t, p, o, ot]) (G := G) ⟨⟨t, p, rfl⟩, hs⟩
    (fun k z l G1 hz ⟨⟨t, p, hl⟩, hS⟩ => by
      subst hl
      have hk := (List.getElem?_eq_some_iff.mp hz).1
      rw [rng_len] at hk
      rw [rng_nth hz]
      obtain ⟨G2, h1, h2⟩ := bodyT_ok d (v := v) (a := a) (p := p) (o := o) (ot := ot) (k := k) hk hS
      exact ⟨_, _, _, G2, rfl, .inl h1, ⟨_, _, rfl⟩, h2⟩)
  subst hl
  exact ⟨G', t', p', h1, h3⟩
theorem bodyL_ok (d : Nat) {G : GH} {ns : List Int} {k : Nat} {s t p o ot : Option Z} : ∃ G' s' t' p' o' ot', bodyL (rt (d + 6)) [some (.rol (ns.map .int)), some (.int k), s, t, p, o, ot] G = .nx [some (.rol (ns.map .int)), some (.int k), s', t', p', o', ot'] G' := by
  obtain ⟨a, b, h1⟩ := streamR (d + 5) (G := G) (ns := ns) (at_ := k)
  have hS : StrAt (G ++ [.lst [.int a, .int b, .int 0]]) G.length := ⟨a, b, 0, lstAt_new⟩
  obtain ⟨G1, t1, p1, h2, hS1⟩ := two_ok (d + 2) (v := some (.rol (ns.map .int))) (a := some (.int k)) (o := o) (ot := ot) (t := t) (p := p) hS
  have z1 : ∀ n, n ≤ 100 → n ≤ sizeLine := small
  generalize hs : G.length = sn at *
  have lt := hS1.lt
  generalize hP : (G1 ++ [ZO.lst [.str [102, 114, 101, 101]], .dK [] [], .lst [.non, .int 0, .bl true, .str [], .str [70, 114, 101, 101], .str [110, 111, 116, 104, 105, 110, 103], .str [102, 114, 101, 101, 32], .tup [.str [102, 114, 101, 101]], .ref G1.length, .ref (G1.length + 1), .tup [.str [114, 101, 115, 116, 97, 114, 116], .str [102, 114, 101, 101], .str [112, 97, 105, 100], .str [100, 101, 97, 114], .str [110, 111, 110, 101]], .int ten39]]) = P
  have hp : lstAt P (G1.length + 2) = some [.non, .int 0, .bl true, .str [], .str [70, 114, 101, 101], .str [110, 111, 116, 104, 105, 110, 103], .str [102, 114, 101, 101, 32], .tup [.str [102, 114, 101, 101]], .ref G1.length, .ref (G1.length + 1), .tup [.str [114, 101, 115, 116, 97, 114, 116], .str [102, 114, 101, 101], .str [112, 97, 105, 100], .str [100, 101, 97, 114], .str [110, 111, 110, 101]], .int ten39] := by rw [← hP, at_sh]; rfl
  have g0 : tyName P (.ref G1.length) = some "list" := by rw [← hP]; exact ty_sh (k := 0)
  have g1 : tyName P (.ref (G1.length + 1)) = some "dict" := by rw [← hP]; exact ty_sh
  have lP : G1.length + 2 < P.length := by rw [← hP]; simp
  have kP : Keep sn G1 P := by rw [← hP]; exact Keep.app
  have hS2 := kP.str hS1
  obtain ⟨x, G2, e1, k1, h0, h5⟩ := drawR (d + 5) (tot := 12) hS2 (by decide) (by decide)
  have hp1 := k1.lst hp (by omega)
  obtain ⟨v, hv, hm⟩ := ixl hp1 h0 h5
  have ln : zLen (.ref (G1.length + 2)) P = .ok (.int 12) P := len_ref hp
  have ov : Odd sn G2 v := by
    have ok : ∀ {v : Z} (t : String), tyName G2 v = some t → isaB t "str" = some false → v ≠ .ex → v ≠ .ref sn → Odd sn G2 v := odd_of
    have n0 := tyl k1 (by omega) (by omega) g0
    have n1 := tyl k1 (by omega) (by omega) g1
    simp at hm
    rcases hm with rfl | rfl | rfl | rfl | rfl | rfl | rfl | rfl | rfl | rfl | rfl | rfl
    · exact ok "NoneType" rfl (by decide) nofun nofun
    · exact ok "int" rfl (by decide) nofun nofun
    · exact ok "bool" rfl (by decide) nofun nofun
    · exact odd_str rfl
    · exact odd_str rfl
    · exact odd_str rfl
    · exact odd_str rfl
    · exact ok "tuple" rfl (by decide) nofun nofun
    · exact odd_ref n0 (by decide) lt
    · exact odd_ref n1 (by decide) (by omega)
    · exact ok "tuple" rfl (by decide) nofun nofun
    · exact ok "int" rfl (by decide) nofun nofun
  have hS3 := k1.str hS2
  obtain ⟨G3, e3, k3⟩ := odd_ok d hS3 ov
  have e3' : (rt (d + 6)).cf 14 [.ref sn, v] G2 = .ok (.bl true) G3 := e3
  have hS4 := k3.str hS3
  obtain ⟨y, G4, e4, k4, hy⟩ := other_ok (d + 4) hS4
  have e4' : (rt (d + 6)).cf 10 [.ref sn] G3 = .ok y G4 := e4
  have hS5 := k4.str hS4
  have fin : ∃ G', (dIfS (uAnd (uNot (dTru (dFn (on2 zIsi) (dCons (dVar 6) (dCons (dC (.ty "str")) dNil))))) (uNot (dTru (dCall (rt (d + 6)).cf 14 (dCons (dVar 2) (dCons (dVar 6) dNil)))))) (dSeq (dRet (dC (.bl false))) dNop) dNop) [some (.rol (ns.map .int)), some (.int k), some (.ref sn), t1, p1, some (.ref (G1.length + 2)), some y] G4 = .nx [some (.rol (ns.map .int)), some (.int k), some (.ref sn), t1, p1, some (.ref (G1.length + 2)), some y] G' := by
    rcases hy with ⟨x, rfl⟩ | hy
    · refine ⟨G4, ?_⟩
      have e : zIsi (.str x) (.ty "str") G4 = .ok (.bl true) G4 := rfl
      simp [e]
    · have hx := hy.kn.nex
      have vy : ∀ l1 l2 l3 l4 l5 l6 G', dVar 6 [l1, l2, l3, l4, l5, l6, some y] G' = .ok y G' := fun _ _ _ _ _ _ G' => dVar_of rfl hx
      obtain ⟨G5, e5, _⟩ := odd_ok d hS5 hy
      have e5' : (rt (d + 6)).cf 14 [.ref sn, y] G4 = .ok (.bl true) G5 := e5
      rcases hy.kn with ⟨x, rfl, _⟩ | ⟨ty, q1, q2, _, _⟩
      · refine ⟨G4, ?_⟩
        have e : zIsi (.str x) (.ty "str") G4 = .ok (.bl true) G4 := rfl
        simp [e]
      · have e : zIsi y (.ty "str") G4 = .ok (.bl false) G4 := by
          unfold zIsi
          simp only [q1, Option.bind_some, q2]
        refine ⟨G5, ?_⟩
        simp [e, vy, e5']
  obtain ⟨G5, e5⟩ := fin
  refine ⟨G5, some (.ref sn), t1, p1, some (.ref (G1.length + 2)), some y, ?_⟩
  rw [show d + 5 + 1 = d + 6 from rfl] at h1 e1
  rw [show d + 2 + 4 = d + 6 from rfl] at h2
  unfold bodyL
  have o2 : okR 2 = true := by decide
  simp only [dSeq_ap, dAsg_ap, dFor_ap, dCall_ap, dCons_ap, dNil_ap]
  simp [h1, o2, Wk.len, h2, pow_39, z1, hP, ln, e1, hv, e3', e4']
  simp at e5
  rw [e5]
  rfl
theorem max1 {j : Int} {G : GH} : on2 zMax2 [.int 1, .int j] G = .ok (.int (if j > 1 then j else 1)) G := rfl
theorem min6 {j : Int} {G : GH} : on2 zMin2 [.int 6, .int j] G = .ok (.int (if j < 6 then j else 6)) G := rfl
theorem law_ok (d : Nat) (ns : List Int) (h : ns.length ≤ 63) : ∃ G, (C (d + 9)).cf 15 [.rol (ns.map .int)] [] = .ok (.bl true) G := by
  rw [show d + 9 = (d + 6) + 3 from rfl, cfS (d + 6) 15 f_15 s_15 7 1 rfl rfl rfl rfl rfl sh_15 rfl]
  show ∃ G, (s_15 (rt (d + 6)) [some (.rol (ns.map .int)), none, none, none, none, none, none] []).fin = .ok (.bl true) G
  have sh : s_15 (rt (d + 6)) = (dSeq (dFor (dRng1 (dCons (dFn (on2 zMax2) (dCons (dC (.int (1))) (dCons (dFn (on2 zMin2) (dCons (dC (.int (6))) (dCons (dFn (on1 zLen) (dCons (dVar 0) dNil)) dNil))) dNil))) dNil)) (dgName 1) (bodyL (rt (d + 6)))) (dSeq (dRet (dCall (rt (d + 6)).cf 13 dNil)) dNop)) := rfl
  obtain ⟨j, hj, ho⟩ : ∃ j : Int, (if (if (ns.length : Int) < 6 then (ns.length : Int) else 6) > 1 then (if (ns.length : Int) < 6 then (ns.length : Int) else 6) else 1) = j ∧ okR j = true := by
    refine ⟨_, rfl, ?_⟩
    unfold okR
    rw [Bool.and_eq_true, decide_eq_true_eq, decide_eq_true_eq]
    split <;> split <;> omega
  obtain ⟨l', G', h1, ⟨a1, a2, a3, a4, a5, a6, hl⟩⟩ := for_pure (g := dgName 1) (body := bodyL (rt (d + 6))) (rngZ 0 j) (fun k l G' => ∃ a1 a2 a3 a4 a5 a6, l = [some (.rol (ns.map .int)), a1, a2, a3, a4, a5, a6]) (l := [some (.rol (ns.map .int)), none, none, none, none, none, none]) (G := []) ⟨_, _, _, _, _, _, rfl⟩
    (fun k z l G1 hz ⟨a1, a2, a3, a4, a5, a6, hl⟩ => by
      subst hl
      rw [rng_nth hz]
      obtain ⟨G2, b2, b3, b4, b5, b6, h1⟩ := bodyL_ok d (G := G1) (ns := ns) (k := k) (s := a2) (t := a3) (p := a4) (o := a5) (ot := a6)
      exact ⟨_, _, _, G2, rfl, .inl h1, ⟨_, _, _, _, _, _, rfl⟩⟩)
  subst hl
  obtain ⟨E, e⟩ := allright_ok (d + 1) G'
  have e' : (rt (d + 6)).cf 13 [] G' = .ok (.bl true) (G' ++ E) := e
  refine ⟨G' ++ E, ?_⟩
  rw [sh]
  have lr : ∀ G : GH, zLen (.rol (ns.map .int)) G = .ok (.int ns.length) G := fun G => by rw [len_rol, List.length_map]
  have lr' : ∀ G : GH, on1 zLen [.rol (ns.map .int)] G = .ok (.int ns.length) G := lr
  have v0 : ∀ (G : GH) rest, dVar 0 (some (.rol (ns.map .int)) :: rest) G = .ok (.rol (ns.map .int)) G := fun G rest => rfl
  have mm : ∀ G : GH, on2 zMax2 [.int 1, .int (if (ns.length : Int) < 6 then (ns.length : Int) else 6)] G = .ok (.int j) G := fun G => by rw [max1, hj]
  simp only [dSeq_ap, dFor_ap, dRng1_ap, dCons_ap, dNil_ap, dFn_ap, dC_ap, R.bind_ok, v0]
  simp only [R.bind_ok, lr', min6, mm, ho, if_true, R.st_ok, Wk.len, h1]
  simp [e']
end K
end
section
set_option Elab.async false
set_option linter.all false
set_option maxRecDepth 100000
set_option maxHeartbeats 0
namespace K
open PySem PySem.Spec PyProof.Rows PySem.W
open_top hd for PySem.Challenge.rw_openlimit_k17_choice_and_sequence
end K
open PySem PySem.Spec PyProof.Rows L2 Zy
namespace K
def fas : List He.Fa := [.glo "law"]
theorem says_of {t : TX} {K : Params → PySem.W.Frag} {as : List Addr} {e : ∀ P, as = (K P).map (·.1)} {ts : List Addr} {w : World} {h : Heap} (Y : (PySem.W.kmHook K as e ts).says w h) (h1 : He.obsT fas t.fn t.tabs (K w.params) = He.valT t.fn t.tabs w) (h2 : exB t (K w.params) = true)
    (h3 : (t.tf.all fun p => PySem.W.codeHdIn (K w.params) (He.cT (K w.params) p).1 (He.cT (K w.params) p).2 && (((K w.params).lookup (He.cT (K w.params) p).2).isNone && ts.any fun b => decide (b = (He.cT (K w.params) p).2))) = true) : He.SaysX fas t.fn t.tabs t.tf (exB t) w h (K w.params) := by
  have key := fun p hp => Zy.ba (List.all_eq_true.mp h3 p hp)
  refine ⟨h1, h2, fun p hp => (key p hp).1, fun p hp => Option.isNone_iff_eq_none.mp (Zy.ba (key p hp).2).1, fun p hp => ?_⟩
  obtain ⟨b, hb, e⟩ := List.any_eq_true.mp (Zy.ba (key p hp).2).2
  rw [← of_decide_eq_true e]
  exact PySem.W.km_tabs_of Y b hb
theorem holds (plain : ∀ ns : List Int, ns.length ≤ 63 → (∀ z ∈ ns, Builtin.Int.intBits z ≤ 1048576) → ∃ G, (callD tx.T tx.sub tx.fs (30 + 3)).cf 15 [.rol (ns.map .int)] [] = .ok (.bl true) G) : PySem.Challenge.rw_openlimit_k17_choice_and_sequence.Holds := by
  refine hd ?_
  refine LamX.walk_ofTsE (l := PySem.Challenge.rw_openlimit_k17_choice_and_sequence) (n := 63) (k := 33) (x := "script") (CX := fun w => L2.CX PySem.Challenge.rw_openlimit_k17_choice_and_sequence.prog w) rfl (by decide) (by kernel_rfl) ⟨rfl, by decide, by decide⟩ ?_ ?_
  · intro w mg fa h Y G hmg
    refine ⟨_, PySem.W.km_in_of Y, lawAt (t := tx) (k := 15) (f := f_15) (d := 30) (fas := fas) (PySem.W.km_in_of Y) G (says_of Y (by kernel_rfl) (by kernel_rfl) (by kernel_rfl)) hmg ?_ cks bds rfl rfl (by simp [fas]) rfl rfl rfl rfl plain⟩
    decide
  · rintro w H s e s' ⟨_, _, _, _, _, _, _, _, _, _, _, _, z⟩
    exact z
end K
end
section
theorem PySem.Challenge.cw_openlimit_k17_choice_and_sequence_holds : PySem.Challenge.rw_openlimit_k17_choice_and_sequence.Holds :=
  K.holds fun ns h _ => K.law_ok 24 ns h
end
