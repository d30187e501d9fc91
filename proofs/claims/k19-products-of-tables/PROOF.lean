import PyProof.Rows.All
import Wide.All
import OpenK.AllK
import Wide.FinOn
import HandS.ForMost
import HandS.Exc
import HandS.TryOnly
import HandS.TryMany
import HandS.ExcOwn
import HandS.WordsExc
import HandS.CallSlots
import HandS.Wide
import HandS.WideMore
import HandS.TupAny
import HandS.TupMul
import HandS.Deep
import HandS.Lambda
import HandS.Dict
import PyProof.NeKinds
import HandS.IsInst
import HandS.TupLe
import KE.DataCmp
import HandS.Text
import HandS.Flow
import HandS.More
import HandS.Star
import PyProof.SeqIndex
import HandS.NoneIn
import HandS.Iter
import HandS.Comp
import KE.GoesMore
import HandS.ExcIs
import HandS.RaiseMore
import PyProof.ReprRoads
import KE.KExcInit
import HandS.ExcInit
import HandS.ExcField
import HandS.HeadHook4
import HandS.HeadWalk
import HandS.EndTab
import PyProof.ExcBaseAll.ValueError
import PyProof.ExcBaseAll.IndexError
import PyProof.ExcBaseAll.OverflowError
import PyProof.ExcBaseAll.ArithmeticError
import PyProof.ExcBaseAll.LookupError
import PyProof.ExcBaseAll.RuntimeError
import PyProof.ExcBaseAll.TypeError
import PyProof.ExcBaseAll.Exception
import PySem.Challenge.RW_openlimit_k19_products_of_tables
import Lean
import KE.KNestM
section
set_option Elab.async false
set_option linter.all false
set_option maxRecDepth 100000
set_option maxHeartbeats 4000000
/-! Values as plain data (Z), what they stand for over the abstract heap, results (R). -/
namespace Zy
open PySem PySem.Spec PyProof.Rows L2

inductive Z where
  | non | bl (b : Bool) | int (i : Int) | str (x : List Nat) | tup (xs : List Z) | rol (xs : List Z)
  | ref (n : Nat) | fn (k : Nat) | cl (k : Nat) | ty (n : String)
  /-- in a slot: the caught exception -/
  | ex
inductive ZO where
  | lst (xs : List Z) | xd (fs : List (Str × Z)) | dK (ks : List Key) (xs : List Z)
abbrev GH := List ZO
/-- exceptions: own class k, or a built-in one; the place of its own dict -/
inductive XC where
  | own (k : Nat) | blt (n : String)
  deriving DecidableEq
structure XR where
  cls : XC
  pay : Option Nat := none
inductive R (α : Type) where
  | ok (a : α) (G : GH) | exc (x : XR) (G : GH) | bad
def R.bind {α β : Type} : R α → (α → GH → R β) → R β
  | .ok a G, f => f a G
  | .exc x G, _ => .exc x G
  | .bad, _ => .bad
@[simp] theorem R.bind_ok {α β : Type} (a : α) (G : GH) (f : α → GH → R β) : (R.ok a G).bind f = f a G := rfl
@[simp] theorem R.bind_exc {α β : Type} (x : XR) (G : GH) (f : α → GH → R β) : (R.exc x G).bind f = .exc x G := rfl
@[simp] theorem R.bind_bad {α β : Type} (f : α → GH → R β) : R.bind .bad f = .bad := rfl

/-- the tuples and the locked things stay -/
structure Stay (H H' : Hp) : Prop where
  tup : ∀ a xs, Rd H a (.tup xs) → Rd H' a (.tup xs)
  frz : ∀ a o u, H a = some (.frz o u) → H' a = some (.frz o u)
  code : ∀ a b q, H a = some (LamX.CodeO b q) → H' a = some (LamX.CodeO b q)
theorem Stay.refl (H : Hp) : Stay H H := ⟨fun _ _ h => h, fun _ _ _ h => h, fun _ _ _ h => h⟩
theorem Stay.trans {H H1 H2 : Hp} (a : Stay H H1) (b : Stay H1 H2) : Stay H H2 := ⟨fun x xs h => b.tup x xs (a.tup x xs h), fun x o u h => b.frz x o u (a.frz x o u h), fun x o u h => b.code x o u (a.code x o u h)⟩
theorem Stay.seq {K : PySem.W.Frag} {H H' : Hp} (s : Stay H H') {a : Addr} {xs : List V} (h : SqT K H a xs) : SqT K H' a xs := by
  rcases h with h | h
  · exact .inl (s.tup _ _ h)
  · exact .inr h
theorem Stay.upd {H : Hp} {a : Addr} {o : HO} (h : ∀ u, H a = some u → (∀ xs, u ≠ .tup xs) ∧ (∀ ob w, u ≠ .frz ob w) ∧ ∀ b q, u ≠ LamX.CodeO b q) : Stay H (upd H a o) := by
  have ne : ∀ b u, H b = some u → ((∃ xs, u = .tup xs) ∨ (∃ ob w, u = .frz ob w) ∨ ∃ b q, u = LamX.CodeO b q) → b ≠ a := by
    rintro b u hb hu rfl
    obtain ⟨h1, h2, h3⟩ := h u hb
    rcases hu with ⟨xs, e⟩ | ⟨ob, w, e⟩ | ⟨ob, w, e⟩
    · exact h1 _ e
    · exact h2 _ _ e
    · exact h3 _ _ e
  refine ⟨fun b xs hb => ?_, fun b ob u hb => ?_, fun b ob u hb => ?_⟩
  · rcases hb with hb | ⟨ob, hb⟩
    · exact .inl (by rw [upd_ne (ne b _ hb (.inl ⟨_, rfl⟩))]; exact hb)
    · exact .inr ⟨ob, by rw [upd_ne (ne b _ hb (.inr (.inl ⟨_, _, rfl⟩)))]; exact hb⟩
  · rw [upd_ne (ne b _ hb (.inr (.inl ⟨_, _, rfl⟩)))]; exact hb
  · rw [upd_ne (ne b _ hb (.inr (.inr ⟨_, _, rfl⟩)))]; exact hb
theorem Stay.new {H : Hp} {a : Addr} {o : HO} (h : H a = none) : Stay H (L2.upd H a o) := Stay.upd fun u e => by rw [h] at e; cases e

structure Ext (ρ : List Addr) (H : Hp) (ρ' : List Addr) (H' : Hp) : Prop where
  pre : ρ <+: ρ'
  st : Stay H H'
theorem Ext.refl (ρ : List Addr) (H : Hp) : Ext ρ H ρ H := ⟨List.prefix_refl _, Stay.refl _⟩
theorem Ext.trans {ρ ρ1 ρ2 : List Addr} {H H1 H2 : Hp} (a : Ext ρ H ρ1 H1) (b : Ext ρ1 H1 ρ2 H2) : Ext ρ H ρ2 H2 := ⟨a.pre.trans b.pre, a.st.trans b.st⟩
theorem pre_get {ρ ρ' : List Addr} (h : ρ <+: ρ') {n : Nat} {a : Addr} (e : ρ[n]? = some a) : ρ'[n]? = some a := by
  obtain ⟨t, rfl⟩ := h
  have hn : n < ρ.length := (List.getElem?_eq_some_iff.mp e).1
  rw [List.getElem?_append_left hn]; exact e

/-- what changes from place to place: the caught exception (or the lambda handed in), its dict, the dict's place; what holds there and goes on to hold -/
structure Dy where
  xa : Addr := 0
  xd : Option Addr := none
  xp : Option Nat := none
  inv : List Addr → Hp → Prop := fun _ _ => True
  mono : ∀ {ρ H ρ' H'}, Ext ρ H ρ' H' → inv ρ H → inv ρ' H' := by intros; trivial
/-- the text's names for functions and classes -/
structure C where
  K : PySem.W.Frag
  fa : Nat → Addr
  ca : Nat → Addr
  /-- the tables of code objects, with the name that each one's code objects bear -/
  T : List (Addr × Str) := []
  dy : Dy := {}
def C.at_ (c : C) (D : Dy) : C := { c with dy := D }
def clsV (c : C) : XC → Value
  | .own k => .ref (c.ca k)
  | .blt n => .type n

section
variable (c : C) (ρ : List Addr) (H : Hp)
/-- a list that is read, never written -/
def RoL (H : Hp) (a : Addr) (vs : List V) : Prop := (∃ o, H a = some (.frz o (.lst vs))) ∨
    ∃ (o : Obj) (its : Array Value) (n : Nat), c.K.lookup a = some o ∧ o.cls = .type "list" ∧ o.dict = none ∧ o.data = .seq its n ∧ its.size ≤ sizeLine ∧ Vals vs its.toList
mutual
def RZ : Z → V → Prop
  | .non, v => v = .non
  | .bl b, v => v = .bl b
  | .int i, v => v = .int i
  | .str x, v => x.length ≤ sizeLine ∧ v = .str ⟨x.toArray⟩
  | .tup xs, v => ∃ a vs, v = .ref a ∧ SqT c.K H a vs ∧ RZs xs vs
  | .rol xs, v => ∃ a vs, v = .ref a ∧ RoL c H a vs ∧ RZs xs vs
  | .ref n, v => ∃ a, ρ[n]? = some a ∧ v = .ref a
  | .fn k, v => v = .ref (c.fa k)
  | .cl k, v => v = .ref (c.ca k)
  | .ty n, v => v = .ty n
  | .ex, _ => False
def RZs : List Z → List V → Prop
  | [], vs => vs = []
  | z :: zs, vs => ∃ v r, vs = v :: r ∧ RZ z v ∧ RZs zs r
end
end

theorem Stay.ro {c : C} {H H' : Hp} (s : Stay H H') {a : Addr} {xs : List V} (h : RoL c H a xs) : RoL c H' a xs := by
  rcases h with ⟨o, h⟩ | h
  · exact .inl ⟨o, s.frz _ _ _ h⟩
  · exact .inr h
section
variable {c : C} {ρ ρ' : List Addr} {H H' : Hp}
mutual
theorem RZ.mono (e : Ext ρ H ρ' H') : ∀ {z : Z} {v : V}, RZ c ρ H z v → RZ c ρ' H' z v
  | .non, v, h => by unfold RZ at h ⊢; exact h
  | .bl b, v, h => by unfold RZ at h ⊢; exact h
  | .int i, v, h => by unfold RZ at h ⊢; exact h
  | .str x, v, h => by unfold RZ at h ⊢; exact h
  | .tup xs, v, h => by
    unfold RZ at h ⊢
    obtain ⟨a, vs, h1, h2, h3⟩ := h
    exact ⟨a, vs, h1, e.st.seq h2, RZs.mono e h3⟩
  | .rol xs, v, h => by
    unfold RZ at h ⊢
    obtain ⟨a, vs, h1, h2, h3⟩ := h
    exact ⟨a, vs, h1, e.st.ro h2, RZs.mono e h3⟩
  | .ref n, v, h => by
    unfold RZ at h ⊢
    obtain ⟨a, h1, h2⟩ := h
    exact ⟨a, pre_get e.pre h1, h2⟩
  | .fn k, v, h => by unfold RZ at h ⊢; exact h
  | .cl k, v, h => by unfold RZ at h ⊢; exact h
  | .ty n, v, h => by unfold RZ at h ⊢; exact h
  | .ex, v, h => by unfold RZ at h; exact h.elim
theorem RZs.mono (e : Ext ρ H ρ' H') : ∀ {zs : List Z} {vs : List V}, RZs c ρ H zs vs → RZs c ρ' H' zs vs
  | [], vs, h => by unfold RZs at h ⊢; exact h
  | z :: zs, vs, h => by
    unfold RZs at h ⊢
    obtain ⟨v, r, h1, h2, h3⟩ := h
    exact ⟨v, r, h1, RZ.mono e h2, RZs.mono e h3⟩
end
mutual
theorem RZ.xa {D : Dy} : ∀ {z : Z} {v : V}, RZ c ρ H z v → RZ (c.at_ D) ρ H z v
  | .non, v, h => by unfold RZ at h ⊢; exact h
  | .bl b, v, h => by unfold RZ at h ⊢; exact h
  | .int i, v, h => by unfold RZ at h ⊢; exact h
  | .str x, v, h => by unfold RZ at h ⊢; exact h
  | .tup xs, v, h => by
    unfold RZ at h ⊢
    obtain ⟨a, vs, h1, h2, h3⟩ := h
    exact ⟨a, vs, h1, h2, RZs.xa h3⟩
  | .rol xs, v, h => by
    unfold RZ at h ⊢
    obtain ⟨a, vs, h1, h2, h3⟩ := h
    exact ⟨a, vs, h1, h2, RZs.xa h3⟩
  | .ref n, v, h => by unfold RZ at h ⊢; exact h
  | .fn k, v, h => by unfold RZ at h ⊢; exact h
  | .cl k, v, h => by unfold RZ at h ⊢; exact h
  | .ty n, v, h => by unfold RZ at h ⊢; exact h
  | .ex, v, h => by unfold RZ at h; exact h.elim
theorem RZs.xa {D : Dy} : ∀ {zs : List Z} {vs : List V}, RZs c ρ H zs vs → RZs (c.at_ D) ρ H zs vs
  | [], vs, h => by unfold RZs at h ⊢; exact h
  | z :: zs, vs, h => by
    unfold RZs at h ⊢
    obtain ⟨v, r, h1, h2, h3⟩ := h
    exact ⟨v, r, h1, RZ.xa h2, RZs.xa h3⟩
end
theorem RZs.nil : RZs c ρ H [] [] := by unfold RZs; rfl
theorem RZs.cons {z : Z} {v : V} {zs : List Z} {vs : List V} (h : RZ c ρ H z v) (t : RZs c ρ H zs vs) : RZs c ρ H (z :: zs) (v :: vs) := by unfold RZs; exact ⟨v, vs, rfl, h, t⟩
theorem RZs.length : ∀ {zs : List Z} {vs : List V}, RZs c ρ H zs vs → zs.length = vs.length
  | [], vs, h => by unfold RZs at h; rw [h]; rfl
  | z :: zs, vs, h => by
    unfold RZs at h
    obtain ⟨v, r, rfl, h2, h3⟩ := h
    simp [RZs.length h3]
theorem RZs.get : ∀ {zs : List Z} {vs : List V} {i : Nat} {z : Z}, RZs c ρ H zs vs → zs[i]? = some z → ∃ v, vs[i]? = some v ∧ RZ c ρ H z v
  | [], vs, i, z, h, e => by simp at e
  | z0 :: zs, vs, 0, z, h, e => by
    unfold RZs at h
    obtain ⟨v, r, rfl, h2, h3⟩ := h
    simp at e; subst e
    exact ⟨v, rfl, h2⟩
  | z0 :: zs, vs, i + 1, z, h, e => by
    unfold RZs at h
    obtain ⟨v, r, rfl, h2, h3⟩ := h
    obtain ⟨w, h4, h5⟩ := RZs.get (i := i) h3 (by simpa using e)
    exact ⟨w, by simpa using h4, h5⟩
theorem RZs.append : ∀ {zs : List Z} {vs : List V} {zs' : List Z} {vs' : List V}, RZs c ρ H zs vs → RZs c ρ H zs' vs' → RZs c ρ H (zs ++ zs') (vs ++ vs')
  | [], vs, zs', vs', h, h' => by unfold RZs at h; subst h; exact h'
  | z :: zs, vs, zs', vs', h, h' => by
    unfold RZs at h
    obtain ⟨v, r, rfl, h2, h3⟩ := h
    exact .cons h2 (RZs.append h3 h')
theorem RZs.take : ∀ {zs : List Z} {vs : List V} (n : Nat), RZs c ρ H zs vs → RZs c ρ H (zs.take n) (vs.take n)
  | zs, vs, 0, h => by simpa using RZs.nil
  | [], vs, n + 1, h => by unfold RZs at h; subst h; simpa using RZs.nil
  | z :: zs, vs, n + 1, h => by
    unfold RZs at h
    obtain ⟨v, r, rfl, h2, h3⟩ := h
    exact .cons h2 (RZs.take n h3)
theorem RZs.drop : ∀ {zs : List Z} {vs : List V} (n : Nat), RZs c ρ H zs vs → RZs c ρ H (zs.drop n) (vs.drop n)
  | zs, vs, 0, h => h
  | [], vs, n + 1, h => by unfold RZs at h; subst h; simpa using RZs.nil
  | z :: zs, vs, n + 1, h => by
    unfold RZs at h
    obtain ⟨v, r, rfl, h2, h3⟩ := h
    exact RZs.drop n h3
theorem RZs.set : ∀ {zs : List Z} {vs : List V} {z : Z} {v : V} (i : Nat), RZs c ρ H zs vs → RZ c ρ H z v → RZs c ρ H (zs.set i z) (vs.set i v)
  | [], vs, z, v, i, h, r => by unfold RZs at h; subst h; exact RZs.nil
  | z0 :: zs, vs, z, v, 0, h, r => by
    unfold RZs at h
    obtain ⟨v, r', rfl, h2, h3⟩ := h
    exact .cons r h3
  | z0 :: zs, vs, z, v, i + 1, h, r => by
    unfold RZs at h
    obtain ⟨v, r', rfl, h2, h3⟩ := h
    exact .cons h2 (RZs.set i h3 r)
theorem RZs.reverse : ∀ {zs : List Z} {vs : List V}, RZs c ρ H zs vs → RZs c ρ H zs.reverse vs.reverse
  | [], vs, h => by unfold RZs at h; subst h; exact RZs.nil
  | z :: zs, vs, h => by
    unfold RZs at h
    obtain ⟨v, r, rfl, h2, h3⟩ := h
    rw [List.reverse_cons, List.reverse_cons]
    exact (RZs.reverse h3).append (.cons h2 .nil)
theorem RZs.eraseIdx : ∀ {zs : List Z} {vs : List V} (i : Nat), RZs c ρ H zs vs → RZs c ρ H (zs.eraseIdx i) (vs.eraseIdx i)
  | [], vs, i, h => by unfold RZs at h; subst h; exact RZs.nil
  | z :: zs, vs, 0, h => by
    unfold RZs at h
    obtain ⟨v, r, rfl, h2, h3⟩ := h
    exact h3
  | z :: zs, vs, i + 1, h => by
    unfold RZs at h
    obtain ⟨v, r, rfl, h2, h3⟩ := h
    exact .cons h2 (RZs.eraseIdx i h3)
theorem RZs.dropLast : ∀ {zs : List Z} {vs : List V}, RZs c ρ H zs vs → RZs c ρ H zs.dropLast vs.dropLast := fun {zs vs} h => by
  rw [List.dropLast_eq_take, List.dropLast_eq_take, h.length]; exact h.take _
theorem RZs.rep {zs : List Z} {vs : List V} (h : RZs c ρ H zs vs) : ∀ k : Nat, RZs c ρ H (List.replicate k zs).flatten (List.replicate k vs).flatten
  | 0 => .nil
  | k + 1 => by
    rw [List.replicate_succ, List.replicate_succ, List.flatten_cons, List.flatten_cons]
    exact h.append (RZs.rep h k)
end

/-- an object of the plain heap -/
def RO (c : C) (ρ : List Addr) (H : Hp) : ZO → Option HO → Prop
  | .lst zs, h => ∃ vs, h = some (.lst vs) ∧ RZs c ρ H zs vs
  | .xd fs, h => ∃ vs, h = some (.xd (fs.map (·.1) |>.zip vs)) ∧ RZs c ρ H (fs.map (·.2)) vs
  | .dK ks zs, h => ∃ vs, h = some (.dK (ks.zip vs)) ∧ RZs c ρ H zs vs ∧ ks.length = zs.length
structure Rel (c : C) (ρ : List Addr) (H : Hp) (G : GH) : Prop where
  nd : ρ.Nodup
  len : ρ.length = G.length
  ob : ∀ (n : Nat) (a : Addr) (o : ZO), ρ[n]? = some a → G[n]? = some o → RO c ρ H o (H a)
  tabs : LamX.Tabs c.T H
  pay : ∀ m, c.dy.xp = some m → ∃ b, ρ[m]? = some b ∧ c.dy.xd = some b
  iv : c.dy.inv ρ H
theorem RO.mono {c : C} {ρ ρ' : List Addr} {H H' : Hp} {o : ZO} {h : Option HO} (e : Ext ρ H ρ' H') (r : RO c ρ H o h) : RO c ρ' H' o h := by
  cases o with
  | lst zs => obtain ⟨vs, h1, h2⟩ := r; exact ⟨vs, h1, h2.mono e⟩
  | xd fs => obtain ⟨vs, h1, h2⟩ := r; exact ⟨vs, h1, h2.mono e⟩
  | dK ks zs => obtain ⟨vs, h1, h2, h3⟩ := r; exact ⟨vs, h1, h2.mono e, h3⟩
theorem RO.xa {c : C} {ρ : List Addr} {H : Hp} {o : ZO} {h : Option HO} {D : Dy} (r : RO c ρ H o h) : RO (c.at_ D) ρ H o h := by
  cases o with
  | lst zs => obtain ⟨vs, h1, h2⟩ := r; exact ⟨vs, h1, h2.xa⟩
  | xd fs => obtain ⟨vs, h1, h2⟩ := r; exact ⟨vs, h1, h2.xa⟩
  | dK ks zs => obtain ⟨vs, h1, h2, h3⟩ := r; exact ⟨vs, h1, h2.xa, h3⟩
theorem Rel.xa {c : C} {ρ : List Addr} {H : Hp} {G : GH} {D : Dy} (r : Rel c ρ H G) (h : ∀ m, D.xp = some m → ∃ b, ρ[m]? = some b ∧ D.xd = some b) (hi : D.inv ρ H) : Rel (c.at_ D) ρ H G := ⟨r.nd, r.len, fun n b o h1 h2 => (r.ob n b o h1 h2).xa, r.tabs, h, hi⟩
theorem RO.trk {c : C} {ρ : List Addr} {H : Hp} {o : ZO} {h : Option HO} (r : RO c ρ H o h) : ∃ u, h = some u ∧ (∀ xs, u ≠ .tup xs) ∧ (∀ ob w, u ≠ .frz ob w) ∧ (∀ ps, u ≠ .tbl ps) ∧ ∀ a q, u ≠ LamX.CodeO a q := by
  cases o with
  | lst zs => obtain ⟨vs, h1, h2⟩ := r; exact ⟨_, h1, (fun _ q => nomatch q), (fun _ _ q => nomatch q), (fun _ q => nomatch q), (fun _ _ q => by unfold LamX.CodeO at q; cases q)⟩
  | xd fs => obtain ⟨vs, h1, h2⟩ := r; exact ⟨_, h1, (fun _ q => nomatch q), (fun _ _ q => nomatch q), (fun _ q => nomatch q), (fun _ _ q => by unfold LamX.CodeO at q; cases q)⟩
  | dK ks zs => obtain ⟨vs, h1, h2⟩ := r; exact ⟨_, h1, (fun _ q => nomatch q), (fun _ _ q => nomatch q), (fun _ q => nomatch q), (fun _ _ q => by unfold LamX.CodeO at q; cases q)⟩
theorem tabs_new {T : List (Addr × Str)} {H : Hp} {p : Addr} {o : HO} (t : LamX.Tabs T H) (hp : H p = none) : LamX.Tabs T (L2.upd H p o) :=
  t.ext fun b u e => by rw [upd_ne (fun q => by rw [q, hp] at e; cases e)]; exact e
theorem tabs_put {T : List (Addr × Str)} {H : Hp} {a : Addr} {o u : HO} (t : LamX.Tabs T H) (h : H a = some u) (h1 : ∀ ps, u ≠ .tbl ps) (h2 : ∀ b q, u ≠ LamX.CodeO b q) : LamX.Tabs T (L2.upd H a o) := fun p hp => by
  obtain ⟨ps, k1, k2, k3⟩ := t p hp
  refine ⟨ps, ?_, k2, fun pos cv hc => ?_⟩
  · rw [upd_ne (fun q => by rw [q, h] at k1; exact h1 _ (Option.some.inj k1))]; exact k1
  · obtain ⟨c, e1, e2⟩ := k3 pos cv hc
    exact ⟨c, e1, by rw [upd_ne (fun q => by rw [q, h] at e2; exact h2 _ _ (Option.some.inj e2))]; exact e2⟩
section
variable {c : C} {ρ : List Addr} {H : Hp} {G : GH}
theorem Rel.at (r : Rel c ρ H G) {n : Nat} {o : ZO} (e : G[n]? = some o) : ∃ a, ρ[n]? = some a ∧ RO c ρ H o (H a) := by
  have hn : n < G.length := (List.getElem?_eq_some_iff.mp e).1
  have hn' : n < ρ.length := by rw [r.len]; exact hn
  exact ⟨ρ[n], List.getElem?_eq_getElem hn', r.ob n _ o (List.getElem?_eq_getElem hn') e⟩
theorem Rel.there (r : Rel c ρ H G) {n : Nat} {a : Addr} (e : ρ[n]? = some a) : ∃ o, G[n]? = some o ∧ RO c ρ H o (H a) := by
  have hn : n < ρ.length := (List.getElem?_eq_some_iff.mp e).1
  have hn' : n < G.length := by rw [← r.len]; exact hn
  exact ⟨G[n], List.getElem?_eq_getElem hn', r.ob n a _ e (List.getElem?_eq_getElem hn')⟩
theorem Rel.known (r : Rel c ρ H G) {a : Addr} (h : a ∈ ρ) : ∃ u, H a = some u := by
  obtain ⟨n, hn⟩ := List.getElem?_of_mem h
  obtain ⟨o, _, ro⟩ := r.there hn
  obtain ⟨u, h1, _⟩ := ro.trk
  exact ⟨u, h1⟩
/-- a thing that the plain heap does not tell is laid -/
theorem Rel.aside (r : Rel c ρ H G) {p : Addr} {o : HO} (hp : H p = none) : Rel c ρ (L2.upd H p o) G ∧ Ext ρ H ρ (L2.upd H p o) := by
  have e : Ext ρ H ρ (L2.upd H p o) := ⟨List.prefix_refl _, .new hp⟩
  refine ⟨⟨r.nd, r.len, fun n a z h1 h2 => ?_, tabs_new r.tabs hp, r.pay, c.dy.mono e r.iv⟩, e⟩
  have ro := r.ob n a z h1 h2
  obtain ⟨u, h3, _⟩ := ro.trk
  have ne : a ≠ p := fun q => by rw [q, hp] at h3; cases h3
  rw [upd_ne ne]; exact ro.mono e
/-- a new object -/
theorem Rel.new (r : Rel c ρ H G) {p : Addr} {o : HO} {z : ZO} (hp : H p = none) (ro : RO c ρ H z (Option.some o)) : Rel c (ρ ++ [p]) (L2.upd H p o) (G ++ [z]) ∧ Ext ρ H (ρ ++ [p]) (L2.upd H p o) := by
  have e : Ext ρ H (ρ ++ [p]) (L2.upd H p o) := ⟨List.prefix_append _ _, .new hp⟩
  have np : p ∉ ρ := fun h => by
    obtain ⟨u, h1⟩ := r.known h
    rw [hp] at h1; cases h1
  refine ⟨⟨?_, by simp [r.len], fun n a zo h1 h2 => ?_, tabs_new r.tabs hp, fun m hm => let ⟨b, h1, h2⟩ := r.pay m hm; ⟨b, pre_get e.pre h1, h2⟩, c.dy.mono e r.iv⟩, e⟩
  · rw [List.nodup_append]
    refine ⟨r.nd, by simp, ?_⟩
    intro a ha b hb q
    have : b = p := by simpa using hb
    subst this; subst q; exact np ha
  · by_cases hn : n < ρ.length
    · rw [List.getElem?_append_left hn] at h1
      rw [List.getElem?_append_left (by rw [← r.len]; exact hn)] at h2
      have q := r.ob n a zo h1 h2
      have ne : a ≠ p := fun z => np (z ▸ List.mem_of_getElem? h1)
      rw [upd_ne ne]; exact q.mono e
    · have hn2 : n = ρ.length := by
        have := (List.getElem?_eq_some_iff.mp h1).1
        simp at this; omega
      subst hn2
      rw [List.getElem?_append_right (Nat.le_refl _)] at h1
      rw [List.getElem?_append_right (by rw [r.len]; exact Nat.le_refl _)] at h2
      simp at h1 h2
      subst h1
      rw [r.len] at h2
      simp at h2; subst h2
      rw [upd_same]; exact ro.mono e
theorem get_new (ρ : List Addr) (p : Addr) : (ρ ++ [p])[ρ.length]? = some p := by simp
/-- an object is changed -/
theorem Rel.put (r : Rel c ρ H G) {n : Nat} {a : Addr} {z : ZO} {o : HO} (e : ρ[n]? = some a) (ro : RO c ρ H z (Option.some o)) : Rel c ρ (L2.upd H a o) (G.set n z) ∧ Ext ρ H ρ (L2.upd H a o) := by
  obtain ⟨zo, h1, ro1⟩ := r.there e
  obtain ⟨u, h3, h4, h5, h8, h9⟩ := ro1.trk
  have ex : Ext ρ H ρ (L2.upd H a o) := ⟨List.prefix_refl _, Stay.upd fun w hw => by rw [h3] at hw; cases hw; exact ⟨h4, h5, h9⟩⟩
  refine ⟨⟨r.nd, by simp [r.len], fun m b zo' h6 h7 => ?_, tabs_put r.tabs h3 h8 h9, r.pay, c.dy.mono ex r.iv⟩, ex⟩
  by_cases hm : m = n
  · subst hm
    rw [e] at h6; cases h6
    have hl : m < G.length := (List.getElem?_eq_some_iff.mp h1).1
    rw [List.getElem?_set_self hl] at h7; cases h7
    rw [upd_same]; exact ro.mono ex
  · rw [List.getElem?_set_ne (Ne.symm hm)] at h7
    have q := r.ob m b zo' h6 h7
    have ne : b ≠ a := fun z => hm (by
      subst z
      have l1 := (List.getElem?_eq_some_iff.mp h6)
      have l2 := (List.getElem?_eq_some_iff.mp e)
      obtain ⟨p1, q1⟩ := l1
      obtain ⟨p2, q2⟩ := l2
      exact (List.getElem_inj r.nd).mp (q1.trans q2.symm))
    rw [upd_ne ne]; exact q.mono ex
end

/-- the exception that stands for x -/
def RX (c : C) (ρ : List Addr) (x : XR) (cls : Value) (d : Option Addr) : Prop :=
  cls = clsV c x.cls ∧ (match x.pay with | none => d = none | some n => ∃ a, ρ[n]? = some a ∧ d = some a)
/-- what a result asks of what follows -/
def RQ {α β : Type} (c : C) (rel : List Addr → Hp → α → β → Prop) (ρ : List Addr) (H : Hp) (r : R α) (Q : β → Hp → Prop) (W : Value → Option Addr → Hp → Prop) : Prop :=
  match r with
  | .bad => False
  | .ok z G => ∀ ρ' H' v, Ext ρ H ρ' H' → Rel c ρ' H' G → rel ρ' H' z v → Q v H'
  | .exc x G => ∀ ρ' H' cls d, Ext ρ H ρ' H' → Rel c ρ' H' G → RX c ρ' x cls d → W cls d H'
theorem RQ.bind {α β γ δ : Type} {c : C} {rel : List Addr → Hp → α → β → Prop} {rel' : List Addr → Hp → γ → δ → Prop} {ρ : List Addr} {H : Hp} {r : R α} {f : α → GH → R γ} {Q : δ → Hp → Prop} {W : Value → Option Addr → Hp → Prop}
    (h : RQ c rel' ρ H (r.bind f) Q W) : RQ c rel ρ H r (fun v H1 => ∃ ρ1 G1 z, Ext ρ H ρ1 H1 ∧ Rel c ρ1 H1 G1 ∧ rel ρ1 H1 z v ∧ RQ c rel' ρ1 H1 (f z G1) Q W) W := by
  cases r with
  | bad => exact h
  | exc x G => exact h
  | ok z G =>
    intro ρ1 H1 v e r1 rz
    refine ⟨ρ1, G, z, e, r1, rz, ?_⟩
    have h' : RQ c rel' ρ H (f z G) Q W := h
    cases hf : f z G with
    | bad => rw [hf] at h'; exact h'
    | ok z' G' => rw [hf] at h'; exact fun ρ' H' v' e' => h' ρ' H' v' (e.trans e')
    | exc x' G' => rw [hf] at h'; exact fun ρ' H' v' d e' => h' ρ' H' v' d (e.trans e')
theorem RQ.imp {α β : Type} {c : C} {rel : List Addr → Hp → α → β → Prop} {ρ : List Addr} {H : Hp} {r : R α} {Q Q' : β → Hp → Prop} {W W' : Value → Option Addr → Hp → Prop} (h : RQ c rel ρ H r Q W) (hq : ∀ v H, Q v H → Q' v H) (hw : ∀ a b H, W a b H → W' a b H) :
    RQ c rel ρ H r Q' W' := by
  cases r with
  | bad => exact h
  | ok z G => exact fun ρ' H' v e r1 rz => hq _ _ (h ρ' H' v e r1 rz)
  | exc x G => exact fun ρ' H' cl d e r1 rz => hw _ _ _ (h ρ' H' cl d e r1 rz)
/-- room below, and no guard stands -/
structure Room (k : Nat) (A : Around) : Prop extends L2.Room k A where
  gd : A.guards = some []
theorem Room.mono {j k : Nat} {A : Around} (r : Room k A) (h : j ≤ k) : Room j A := ⟨r.toRoom.mono h, r.gd⟩
theorem Room.deeper {k : Nat} {A : Around} (r : Room (k + 1) A) (env : Env) : Room k (A.deeper env) := ⟨r.toRoom.deeper env, r.gd⟩
theorem Room.in1 {k : Nat} {A : Around} (r : Room (k + 1) A) : Room k A.in1 := ⟨r.toRoom.in1, r.gd⟩
/-- a def, asked where no guard stands -/
def FnR (Pr : Program) (wo : World) (K : PySem.W.Frag) (mg : Str → Option Value) (base : Heap) (CX : CXT) (k : Nat) (f : Addr) (sp : Sp) : Prop :=
  ∀ (A : Around) (outer : List Env) (s : Shared) (H : Hp) (us : List Value) (vs : List V) (Q : VK) (E : XK), Room k A → Env0 Pr wo K mg base A outer s H → Vals vs us → sp vs H Q E → codeAny (model Pr wo) A (.call (.ref f) ⟨us, []⟩) (CR CX outer Pr wo H s Q E) s
end Zy
end
section
set_option Elab.async false
set_option linter.all false
set_option maxRecDepth 100000
set_option maxHeartbeats 4000000
/-! == of plain data -/
namespace Zy
open PySem PySem.Spec PyProof.Rows L2

inductive Kd where
  | non | bl (b : Bool) | int (i : Int) | str (x : List Nat) | tup (xs : List Z) | lst (xs : List Z)
/-- the list at a place -/
def lstAt (G : GH) (n : Nat) : Option (List Z) := match G[n]? with
  | some (.lst xs) => some xs
  | _ => none
theorem lstAt_eq {G : GH} {n : Nat} {xs : List Z} : lstAt G n = some xs ↔ G[n]? = some (.lst xs) := by
  unfold lstAt
  constructor
  · intro h
    split at h
    · rename_i ys hy; cases h; exact hy
    · cases h
  · intro h; rw [h]
def kd (G : GH) : Z → Option Kd
  | .non => some .non
  | .bl b => some (.bl b)
  | .int i => some (.int i)
  | .str x => some (.str x)
  | .tup xs => some (.tup xs)
  | .rol xs => some (.lst xs)
  | .ref n => (lstAt G n).map .lst
  | _ => none
def zall (f : Z → Z → Option Bool) : List Z → List Z → Option Bool
  | [], [] => some true
  | x :: xs, y :: ys => match f x y, zall f xs ys with
    | some a, some b => some (a && b)
    | _, _ => none
  | [], _ :: _ => some false
  | _ :: _, [] => some false
def keq (f : Z → Z → Option Bool) : Kd → Kd → Option Bool
  | .non, .non => some true
  | .bl a, .bl b => some (a == b)
  | .bl a, .int j => some ((if a then 1 else 0) == j)
  | .int i, .bl b => some (i == (if b then 1 else 0))
  | .int i, .int j => some (i == j)
  | .str x, .str y => some (x == y)
  | .tup xs, .tup ys => zall f xs ys
  | .lst xs, .lst ys => zall f xs ys
  | _, _ => some false
def zeq : Nat → GH → Z → Z → Option Bool
  | 0, _, _, _ => none
  | n + 1, G, x, y => match kd G x, kd G y with
    | some a, some b => keq (zeq n G) a b
    | _, _ => none
theorem range_all_succ (e : Nat → Bool) (n : Nat) : (List.range (n + 1)).all e = (e 0 && (List.range n).all fun j => e (j + 1)) := by
  rw [List.range_succ_eq_map, List.all_cons, List.all_map]; rfl
theorem zall_spec {f : Z → Z → Option Bool} : ∀ {xs ys : List Z} {r : Bool}, zall f xs ys = some r →
    ∃ e : Nat → Bool, (∀ (j : Nat) x y, xs[j]? = some x → ys[j]? = some y → f x y = some (e j)) ∧ r = ((List.range (min xs.length ys.length)).all e && xs.length == ys.length)
  | [], [], r, h => ⟨fun _ => true, fun j x y h1 => by simp at h1, by simpa [zall] using h.symm⟩
  | x :: xs, [], r, h => ⟨fun _ => true, fun j x y h1 h2 => by simp at h2, by simpa [zall] using h.symm⟩
  | [], y :: ys, r, h => ⟨fun _ => true, fun j x y h1 h2 => by simp at h1, by simpa [zall] using h.symm⟩
  | x :: xs, y :: ys, r, h => by
    unfold zall at h
    cases e1 : f x y with
    | none => rw [e1] at h; cases h
    | some a =>
      cases e2 : zall f xs ys with
      | none => rw [e1, e2] at h; cases h
      | some b =>
        rw [e1, e2] at h
        have h' : some (a && b) = some r := h
        cases h'
        obtain ⟨e, h1, h2⟩ := zall_spec e2
        refine ⟨fun j => match j with | 0 => a | j + 1 => e j, fun j x' y' g1 g2 => ?_, ?_⟩
        · cases j with
          | zero => simp at g1 g2; subst g1; subst g2; exact e1
          | succ j => exact h1 j x' y' (by simpa using g1) (by simpa using g2)
        · rw [h2, List.length_cons, List.length_cons, Nat.succ_min_succ, range_all_succ]
          simp [Bool.and_assoc]

/-- the value that is of the kind k -/
def KU (c : C) (ρ : List Addr) (H : Hp) (h : Heap) : Kd → Value → Prop
  | .non, u => u = .none
  | .bl b, u => u = .bool b
  | .int i, u => ∃ t, u = .int i t
  | .str x, u => ∃ t, u = .str ⟨x.toArray⟩ t
  | .tup xs, u => ∃ a vs us, u = .ref a ∧ RZs c ρ H xs vs ∧ Vals vs us ∧ IsTup h a us.toArray
  | .lst xs, u => ∃ a vs us, u = .ref a ∧ RZs c ρ H xs vs ∧ Vals vs us ∧ h.IsList a us.toArray
section
variable {X : Cx} {pins : List (Addr × Obj)} {σ : L2.St} {H : Hp} {s : Shared} {c : C} {ρ : List Addr} {G : GH}
theorem RoL.seq {a : Addr} {vs : List V} (h : RoL c H a vs) : SqL c.K H a vs := by
  rcases h with ⟨o, h⟩ | h
  · exact .inl (.inr ⟨o, h⟩)
  · exact .inr h
/-- a list that is read -/
def rdl (G : GH) : Z → Option (List Z)
  | .ref n => lstAt G n
  | .rol xs => some xs
  | _ => none
theorem rdl_sound (R : Rel c ρ H G) {z : Z} {v : V} (r : RZ c ρ H z v) {xs : List Z} (e : rdl G z = some xs) : ∃ a vs, v = .ref a ∧ SqL c.K H a vs ∧ RZs c ρ H xs vs := by
  cases z with
  | ref n =>
    unfold RZ at r
    obtain ⟨a, h1, h2⟩ := r
    obtain ⟨b, g1, vs, g2, g3⟩ := R.at (lstAt_eq.mp (show lstAt G n = some xs from e))
    rw [h1] at g1; cases g1
    exact ⟨a, vs, h2, SqL.of g2, g3⟩
  | rol ys =>
    unfold rdl at e
    unfold RZ at r
    cases e
    obtain ⟨a, vs, h1, h2, h3⟩ := r
    exact ⟨a, vs, h1, h2.seq, h3⟩
  | _ => unfold rdl at e; cases e
theorem kd_ref {n : Nat} {k : Kd} (e : kd G (.ref n) = some k) : ∃ xs, k = .lst xs ∧ rdl G (.ref n) = some xs := by
  have e' : (lstAt G n).map Kd.lst = some k := e
  cases h : lstAt G n with
  | none => rw [h] at e'; cases e'
  | some ys => rw [h] at e'; cases e'; exact ⟨ys, rfl, h⟩
theorem kd_sound (hK : c.K = X.K) (I : Inv X pins σ H s) (R : Rel c ρ H G) {z : Z} {v : V} {u : Value} {k : Kd} (r : RZ c ρ H z v) (rv : RelV v u) (e : kd G z = some k) : KU c ρ H s.heap k u := by
  cases z with
  | non => cases e; unfold RZ at r; subst r; exact rv
  | bl b => cases e; unfold RZ at r; subst r; exact rv
  | int i => cases e; unfold RZ at r; subst r; exact rv
  | str x => cases e; unfold RZ at r; obtain ⟨_, rfl⟩ := r; exact rv
  | tup xs =>
    cases e
    unfold RZ at r
    obtain ⟨a, vs, rfl, h2, h3⟩ := r
    obtain ⟨us, g1, g2, _⟩ := I.tuple (hK ▸ h2)
    exact ⟨a, vs, us, rv, h3, g1, g2⟩
  | rol xs =>
    cases e
    unfold RZ at r
    obtain ⟨a, vs, rfl, h2, h3⟩ := r
    obtain ⟨us, g1, g2, _⟩ := I.list (hK ▸ h2.seq)
    exact ⟨a, vs, us, rv, h3, g1, g2.isList⟩
  | ref n =>
    obtain ⟨xs, rfl, e'⟩ := kd_ref e
    obtain ⟨a, vs, rfl, h2, h3⟩ := rdl_sound R r e'
    obtain ⟨us, g1, g2, _⟩ := I.list (hK ▸ h2)
    exact ⟨a, vs, us, rv, h3, g1, g2.isList⟩
  | _ => cases e
theorem istup_inj {h : Heap} {a : Addr} {us ws : List Value} (x : IsTup h a us.toArray) (y : IsTup h a ws.toArray) : us = ws := by
  obtain ⟨o, e, _, n, d⟩ := x
  obtain ⟨o', e', _, n', d'⟩ := y
  rw [e] at e'; cases e'
  rw [d] at d'
  injection d' with d1 _
  simpa using congrArg Array.toList d1
theorem islist_inj {h : Heap} {a : Addr} {us ws : List Value} (x : h.IsList a us.toArray) (y : h.IsList a ws.toArray) : us = ws := by
  obtain ⟨o, e, _, n, d⟩ := x
  obtain ⟨o', e', _, n', d'⟩ := y
  rw [e] at e'; cases e'
  rw [d] at d'
  injection d' with d1 _
  simpa using congrArg Array.toList d1
/-- one object, two readings -/
theorem zeq_same (hK : c.K = X.K) (I : Inv X pins σ H s) (R : Rel c ρ H G) : ∀ (n : Nat) {x y : Z} {v w : V} {u : Value} {r : Bool}, zeq n G x y = some r → RZ c ρ H x v → RZ c ρ H y w → RelV v u → RelV w u → r = true
  | 0, _, _, _, _, _, _, h, _, _, _, _ => by cases h
  | n + 1, x, y, v, w, u, r, h, rx, ry, rv, rw_ => by
    unfold zeq at h
    cases ex : kd G x with
    | none => rw [ex] at h; cases h
    | some a =>
      cases ey : kd G y with
      | none => rw [ex, ey] at h; cases h
      | some b =>
        rw [ex, ey] at h
        have h' : keq (zeq n G) a b = some r := h
        have ka := kd_sound hK I R rx rv ex
        have kb := kd_sound hK I R ry rw_ ey
        have items : ∀ {xs ys : List Z} {vs ws : List V} {us : List Value}, zall (zeq n G) xs ys = some r → RZs c ρ H xs vs → RZs c ρ H ys ws → Vals vs us → Vals ws us → r = true := by
          intro xs ys vs ws us hz h1 h2 h3 h4
          have e2 : vs = ws := Vals.inj h3 h4
          subst e2
          obtain ⟨e, g1, g2⟩ := zall_spec hz
          rw [g2]
          have hl : xs.length = ys.length := h1.length.trans h2.length.symm
          simp only [hl, Nat.min_self, beq_self_eq_true, Bool.and_true, List.all_eq_true, List.mem_range]
          intro j hj
          have j1 : j < xs.length := by omega
          have q1 : xs[j]? = some xs[j] := List.getElem?_eq_getElem j1
          have q2 : ys[j]? = some ys[j] := List.getElem?_eq_getElem hj
          obtain ⟨v1, p1, p2⟩ := h1.get q1
          obtain ⟨v2, p3, p4⟩ := h2.get q2
          rw [p1] at p3; cases p3
          obtain ⟨u', _, p6⟩ := h3.get p1
          exact zeq_same hK I R n (g1 j _ _ q1 q2) p2 p4 p6 p6
        cases a with
        | non => cases ka; cases b <;> simp only [KU] at kb <;> (try (cases kb; done)) <;> (try (obtain ⟨t, kb⟩ := kb; cases kb; done)) <;> (try (obtain ⟨_, _, _, kb, _⟩ := kb; cases kb; done)) <;> (cases h'; rfl)
        | bl a => cases ka; cases b <;> simp only [KU] at kb <;> (try (obtain ⟨t, kb⟩ := kb; cases kb; done)) <;> (try (obtain ⟨_, _, _, kb, _⟩ := kb; cases kb; done)) <;> cases kb <;> simpa [keq] using h'.symm
        | int i => obtain ⟨t, rfl⟩ := ka; cases b <;> simp only [KU] at kb <;> (try (cases kb; done)) <;> (try (obtain ⟨_, _, _, kb, _⟩ := kb; cases kb; done)) <;> obtain ⟨t, kb⟩ := kb <;> cases kb <;> simpa [keq] using h'.symm
        | str i =>
          obtain ⟨t, rfl⟩ := ka
          cases b <;> simp only [KU] at kb <;> (try (cases kb; done)) <;> (try (obtain ⟨_, _, _, kb, _⟩ := kb; cases kb; done)) <;> obtain ⟨t, kb⟩ := kb
          · cases kb
          · rename_i y
            have e3 : i = y := by
              have := congrArg (fun z => match z with | Value.str q _ => q.cps.toList | _ => []) kb
              simpa using this
            subst e3
            simpa [keq] using h'.symm
        | tup xs =>
          obtain ⟨a, vs, us, rfl, k1, k2, k3⟩ := ka
          cases b with
          | tup ys =>
            obtain ⟨a', vs', us', e3, k4, k5, k6⟩ := kb
            cases e3
            have := istup_inj k3 k6
            subst this
            exact items h' k1 k4 k2 k5
          | lst ys =>
            obtain ⟨a', vs', us', e3, k4, k5, k6⟩ := kb
            cases e3
            obtain ⟨o, e, hc, _⟩ := k3
            obtain ⟨o', e', hc', _⟩ := k6
            rw [e] at e'; cases e'
            rw [hc] at hc'; exact absurd hc' (by decide)
          | non => cases kb
          | bl _ => cases kb
          | int _ => obtain ⟨t, kb⟩ := kb; cases kb
          | str _ => obtain ⟨t, kb⟩ := kb; cases kb
        | lst xs =>
          obtain ⟨a, vs, us, rfl, k1, k2, k3⟩ := ka
          cases b with
          | lst ys =>
            obtain ⟨a', vs', us', e3, k4, k5, k6⟩ := kb
            cases e3
            have := islist_inj k3 k6
            subst this
            exact items h' k1 k4 k2 k5
          | tup ys =>
            obtain ⟨a', vs', us', e3, k4, k5, k6⟩ := kb
            cases e3
            obtain ⟨o, e, hc, _⟩ := k3
            obtain ⟨o', e', hc', _⟩ := k6
            rw [e] at e'; cases e'
            rw [hc] at hc'; exact absurd hc' (by decide)
          | non => cases kb
          | bl _ => cases kb
          | int _ => obtain ⟨t, kb⟩ := kb; cases kb
          | str _ => obtain ⟨t, kb⟩ := kb; cases kb
theorem tup_isTuple {h : Heap} {a : Addr} {vs : Array Value} (x : IsTup h a vs) : h.IsTuple a vs := x
theorem str_eq_beq (x y : List Nat) : ((⟨x.toArray⟩ : Str) == ⟨y.toArray⟩) = (x == y) := by
  by_cases e : x = y
  · subst e; simp
  · have : ¬ ((⟨x.toArray⟩ : Str) = ⟨y.toArray⟩) := fun q => e (by injection q with q; simpa using q)
    rw [beq_eq_false_iff_ne.mpr this, beq_eq_false_iff_ne.mpr e]
/-- == -/
theorem zeq_at (hK : c.K = X.K) (I : Inv X pins σ H s) (R : Rel c ρ H G) : ∀ (n : Nat) (A : Around) {x y : Z} {v w : V} {u1 u2 : Value} {r : Bool}, A.units + n < cLine → zeq n G x y = some r → RZ c ρ H x v → RZ c ρ H y w → RelV v u1 → RelV w u2 →
    SeqAt.RcAt A s u1 u2 r ∧ SeqAt.EqAt A s u1 u2 r ∧ SeqAt.RcNeAt A s u1 u2 (!r)
  | 0, _, _, _, _, _, _, _, _, _, h, _, _, _, _ => by cases h
  | n + 1, A, x, y, v, w, u1, u2, r, hu, h, rx, ry, rv, rw_ => by
    have hsame := fun {u : Value} => zeq_same (u := u) hK I R (n + 1) h rx ry
    unfold zeq at h
    have hu1 : A.units < cLine := by omega
    have hu2 : A.in1.units + n < cLine := by show A.units + 1 + n < cLine; omega
    cases ex : kd G x with
    | none => rw [ex] at h; cases h
    | some a =>
      cases ey : kd G y with
      | none => rw [ex, ey] at h; cases h
      | some b =>
        rw [ex, ey] at h
        have h' : keq (zeq n G) a b = some r := h
        have ka := kd_sound hK I R rx rv ex
        have kb := kd_sound hK I R ry rw_ ey
        have items : ∀ {xs ys : List Z} {vs ws : List V} {us us' : List Value}, zall (zeq n G) xs ys = some r → RZs c ρ H xs vs → RZs c ρ H ys ws → Vals vs us → Vals ws us' →
            ∃ e : Nat → Bool, (∀ j (h1 : j < us.toArray.size) (h2 : j < us'.toArray.size), SeqAt.EqAt A.in1 s us.toArray[j] us'.toArray[j] (e j)) ∧ r = ((List.range (min us.toArray.size us'.toArray.size)).all e && us.toArray.size == us'.toArray.size) := by
          intro xs ys vs ws us us' hz h1 h2 h3 h4
          obtain ⟨e, g1, g2⟩ := zall_spec hz
          have l1 : xs.length = us.length := h1.length.trans h3.length
          have l2 : ys.length = us'.length := h2.length.trans h4.length
          refine ⟨e, fun j j1 j2 => ?_, by rw [g2]; simp [l1, l2]⟩
          have j1 : j < us.length := by simpa using j1
          have j2 : j < us'.length := by simpa using j2
          have q1 : xs[j]? = some xs[j] := List.getElem?_eq_getElem (by omega)
          have q2 : ys[j]? = some ys[j] := List.getElem?_eq_getElem (by omega)
          obtain ⟨v1, p1, p2⟩ := h1.get q1
          obtain ⟨v2, p3, p4⟩ := h2.get q2
          obtain ⟨u1', p5, p6⟩ := h3.get p1
          obtain ⟨u2', p7, p8⟩ := h4.get p3
          have e1 : us[j] = u1' := by rw [List.getElem?_eq_getElem j1] at p5; exact Option.some.inj p5
          have e2 : us'[j] = u2' := by rw [List.getElem?_eq_getElem j2] at p7; exact Option.some.inj p7
          have := (zeq_at hK I R n A.in1 hu2 (g1 j _ _ q1 q2) p2 p4 p6 p8).2.1
          simpa [e1, e2] using this
        cases a with
        | non =>
          cases ka
          cases b with
          | non => cases kb; cases h'; exact ⟨SeqAt.RcAt.none_none, SeqAt.EqAt.same _, SeqAt.RcNeAt.none_none⟩
          | bl b => cases kb; cases h'; exact ⟨SeqAt.RcAt.none_bool _, SeqAt.EqAt.none_bool _, SeqAt.RcNeAt.none_bool _⟩
          | int j => obtain ⟨t, rfl⟩ := kb; cases h'; exact ⟨SeqAt.RcAt.none_int _ _, SeqAt.EqAt.none_int _ _, SeqAt.RcNeAt.none_int _ _⟩
          | str j => obtain ⟨t, rfl⟩ := kb; cases h'; exact ⟨SeqAt.RcAt.none_str _ _, SeqAt.EqAt.none_str _ _, SeqAt.RcNeAt.none_str _ _⟩
          | tup ys => obtain ⟨a, vs, us, rfl, k1, k2, k3⟩ := kb; cases h'; exact ⟨SeqAt.RcAt.none_tuple k3 hu1, SeqAt.EqAt.none_tuple k3 hu1, SeqAt.RcNeAt.none_tuple k3 hu1⟩
          | lst ys => obtain ⟨a, vs, us, rfl, k1, k2, k3⟩ := kb; cases h'; exact ⟨SeqAt.RcAt.none_list k3 hu1, SeqAt.EqAt.none_list k3 hu1, SeqAt.RcNeAt.none_list k3 hu1⟩
        | bl a =>
          cases ka
          cases b with
          | non => cases kb; cases h'; exact ⟨SeqAt.RcAt.bool_none _, SeqAt.EqAt.bool_none _, SeqAt.RcNeAt.bool_none _⟩
          | bl b => cases kb; cases h'; exact ⟨SeqAt.RcAt.bool_bool _ _, SeqAt.EqAt.bool_bool _ _, SeqAt.RcNeAt.bool_bool _ _⟩
          | int j => obtain ⟨t, rfl⟩ := kb; cases h'; exact ⟨SeqAt.RcAt.bool_int _ _ _, SeqAt.EqAt.bool_int _ _ _, SeqAt.RcNeAt.bool_int _ _ _⟩
          | str j => obtain ⟨t, rfl⟩ := kb; cases h'; exact ⟨SeqAt.RcAt.bool_str _ _ _, SeqAt.EqAt.bool_str _ _ _, SeqAt.RcNeAt.bool_str _ _ _⟩
          | tup ys => obtain ⟨a, vs, us, rfl, k1, k2, k3⟩ := kb; cases h'; exact ⟨SeqAt.RcAt.bool_tuple _ k3 hu1, SeqAt.EqAt.bool_tuple _ k3 hu1, SeqAt.RcNeAt.bool_tuple _ k3 hu1⟩
          | lst ys => obtain ⟨a, vs, us, rfl, k1, k2, k3⟩ := kb; cases h'; exact ⟨SeqAt.RcAt.bool_list _ k3 hu1, SeqAt.EqAt.bool_list _ k3 hu1, SeqAt.RcNeAt.bool_list _ k3 hu1⟩
        | int i =>
          obtain ⟨t0, rfl⟩ := ka
          cases b with
          | non => cases kb; cases h'; exact ⟨SeqAt.RcAt.int_none _ _, SeqAt.EqAt.int_none _ _, SeqAt.RcNeAt.int_none _ _⟩
          | bl b => cases kb; cases h'; exact ⟨SeqAt.RcAt.int_bool _ _ _, SeqAt.EqAt.int_bool _ _ _, SeqAt.RcNeAt.int_bool _ _ _⟩
          | int j => obtain ⟨t, rfl⟩ := kb; cases h'; exact ⟨SeqAt.RcAt.int_int _ _ _ _, SeqAt.EqAt.int_int _ _ _ _, SeqAt.RcNeAt.int_int _ _ _ _⟩
          | str j => obtain ⟨t, rfl⟩ := kb; cases h'; exact ⟨SeqAt.RcAt.int_str _ _ _ _, SeqAt.EqAt.int_str _ _ _ _, SeqAt.RcNeAt.int_str _ _ _ _⟩
          | tup ys => obtain ⟨a, vs, us, rfl, k1, k2, k3⟩ := kb; cases h'; exact ⟨SeqAt.RcAt.int_tuple _ _ k3 hu1, SeqAt.EqAt.int_tuple _ _ k3 hu1, SeqAt.RcNeAt.int_tuple _ _ k3 hu1⟩
          | lst ys => obtain ⟨a, vs, us, rfl, k1, k2, k3⟩ := kb; cases h'; exact ⟨SeqAt.RcAt.int_list _ _ k3 hu1, SeqAt.EqAt.int_list _ _ k3 hu1, SeqAt.RcNeAt.int_list _ _ k3 hu1⟩
        | str i =>
          obtain ⟨t0, rfl⟩ := ka
          cases b with
          | non => cases kb; cases h'; exact ⟨SeqAt.RcAt.str_none _ _, SeqAt.EqAt.str_none _ _, SeqAt.RcNeAt.str_none _ _⟩
          | bl b => cases kb; cases h'; exact ⟨SeqAt.RcAt.str_bool _ _ _, SeqAt.EqAt.str_bool _ _ _, SeqAt.RcNeAt.str_bool _ _ _⟩
          | int j => obtain ⟨t, rfl⟩ := kb; cases h'; exact ⟨SeqAt.RcAt.str_int _ _ _ _, SeqAt.EqAt.str_int _ _ _ _, SeqAt.RcNeAt.str_int _ _ _ _⟩
          | str j => obtain ⟨t, rfl⟩ := kb; cases h'; rw [← str_eq_beq]; exact ⟨SeqAt.RcAt.str_str _ _ _ _, SeqAt.EqAt.str_str _ _ _ _, SeqAt.RcNeAt.str_str _ _ _ _⟩
          | tup ys => obtain ⟨a, vs, us, rfl, k1, k2, k3⟩ := kb; cases h'; exact ⟨SeqAt.RcAt.str_tuple _ _ k3 hu1, SeqAt.EqAt.str_tuple _ _ k3 hu1, SeqAt.RcNeAt.str_tuple _ _ k3 hu1⟩
          | lst ys => obtain ⟨a, vs, us, rfl, k1, k2, k3⟩ := kb; cases h'; exact ⟨SeqAt.RcAt.str_list _ _ k3 hu1, SeqAt.EqAt.str_list _ _ k3 hu1, SeqAt.RcNeAt.str_list _ _ k3 hu1⟩
        | tup xs =>
          obtain ⟨a, vs, us, e0, k1, k2, k3⟩ := ka
          cases b with
          | non => cases e0; cases kb; cases h'; exact ⟨SeqAt.RcAt.tuple_none k3 hu1, SeqAt.EqAt.tuple_none k3 hu1, SeqAt.RcNeAt.tuple_none k3 hu1⟩
          | bl b => cases e0; cases kb; cases h'; exact ⟨SeqAt.RcAt.tuple_bool _ k3 hu1, SeqAt.EqAt.tuple_bool _ k3 hu1, SeqAt.RcNeAt.tuple_bool _ k3 hu1⟩
          | int j => cases e0; obtain ⟨t, rfl⟩ := kb; cases h'; exact ⟨SeqAt.RcAt.tuple_int _ _ k3 hu1, SeqAt.EqAt.tuple_int _ _ k3 hu1, SeqAt.RcNeAt.tuple_int _ _ k3 hu1⟩
          | str j => cases e0; obtain ⟨t, rfl⟩ := kb; cases h'; exact ⟨SeqAt.RcAt.tuple_str _ _ k3 hu1, SeqAt.EqAt.tuple_str _ _ k3 hu1, SeqAt.RcNeAt.tuple_str _ _ k3 hu1⟩
          | lst ys => cases e0; obtain ⟨a, vs, us, rfl, k4, k5, k6⟩ := kb; cases h'; exact ⟨SeqAt.RcAt.tuple_list k3 k6 hu1, SeqAt.EqAt.tuple_list k3 k6 hu1, SeqAt.RcNeAt.tuple_list k3 k6 hu1⟩
          | tup ys =>
            obtain ⟨b, vs', us', e1, k4, k5, k6⟩ := kb
            obtain ⟨e, g1, g2⟩ := items h' k1 k4 k2 k5
            have rc : SeqAt.RcAt A s (.ref a) (.ref b) r := by rw [g2]; exact SeqAt.RcAt.tuples k3 k6 hu1 g1
            have rn : SeqAt.RcNeAt A s (.ref a) (.ref b) (!r) := by rw [g2]; exact SeqAt.RcNeAt.tuples k3 k6 hu1 g1
            by_cases hab : a = b
            · subst hab
              have : r = true := hsame rv (by rw [e0]; rw [e1] at rw_; exact rw_)
              subst this
              rw [e0, e1]
              exact ⟨rc, SeqAt.EqAt.same _, rn⟩
            · rw [e0, e1]
              exact ⟨rc, SeqAt.EqAt.of_refs hab rc, rn⟩
        | lst xs =>
          obtain ⟨a, vs, us, e0, k1, k2, k3⟩ := ka
          cases b with
          | non => cases e0; cases kb; cases h'; exact ⟨SeqAt.RcAt.list_none k3 hu1, SeqAt.EqAt.list_none k3 hu1, SeqAt.RcNeAt.list_none k3 hu1⟩
          | bl b => cases e0; cases kb; cases h'; exact ⟨SeqAt.RcAt.list_bool _ k3 hu1, SeqAt.EqAt.list_bool _ k3 hu1, SeqAt.RcNeAt.list_bool _ k3 hu1⟩
          | int j => cases e0; obtain ⟨t, rfl⟩ := kb; cases h'; exact ⟨SeqAt.RcAt.list_int _ _ k3 hu1, SeqAt.EqAt.list_int _ _ k3 hu1, SeqAt.RcNeAt.list_int _ _ k3 hu1⟩
          | str j => cases e0; obtain ⟨t, rfl⟩ := kb; cases h'; exact ⟨SeqAt.RcAt.list_str _ _ k3 hu1, SeqAt.EqAt.list_str _ _ k3 hu1, SeqAt.RcNeAt.list_str _ _ k3 hu1⟩
          | tup ys => cases e0; obtain ⟨a, vs, us, rfl, k4, k5, k6⟩ := kb; cases h'; exact ⟨SeqAt.RcAt.list_tuple k3 k6 hu1, SeqAt.EqAt.list_tuple k3 k6 hu1, SeqAt.RcNeAt.list_tuple k3 k6 hu1⟩
          | lst ys =>
            obtain ⟨b, vs', us', e1, k4, k5, k6⟩ := kb
            obtain ⟨e, g1, g2⟩ := items h' k1 k4 k2 k5
            have rc : SeqAt.RcAt A s (.ref a) (.ref b) r := by
              by_cases hsz : us.toArray.size = us'.toArray.size
              · rw [g2, hsz, Nat.min_self]
                simp only [beq_self_eq_true, Bool.and_true]
                rw [← hsz]
                exact SeqAt.RcAt.lists k3 k6 hsz hu1 g1
              · have : r = false := by rw [g2, beq_eq_false_iff_ne.mpr hsz, Bool.and_false]
                rw [this]
                exact SeqAt.RcAt.lists_lengths k3 k6 (by simpa [bne] using hsz) hu1
            have rn : SeqAt.RcNeAt A s (.ref a) (.ref b) (!r) := by
              by_cases hsz : us.toArray.size = us'.toArray.size
              · rw [g2, hsz, Nat.min_self]
                simp only [beq_self_eq_true, Bool.and_true]
                rw [← hsz]
                exact SeqAt.RcNeAt.lists k3 k6 hsz hu1 g1
              · have : r = false := by rw [g2, beq_eq_false_iff_ne.mpr hsz, Bool.and_false]
                rw [this]
                exact SeqAt.RcNeAt.lists_lengths k3 k6 (by simpa [bne] using hsz) hu1
            by_cases hab : a = b
            · subst hab
              have : r = true := hsame rv (by rw [e0]; rw [e1] at rw_; exact rw_)
              subst this
              rw [e0, e1]
              exact ⟨rc, SeqAt.EqAt.same _, rn⟩
            · rw [e0, e1]
              exact ⟨rc, SeqAt.EqAt.of_refs hab rc, rn⟩
end
end Zy
end
section
set_option Elab.async false
set_option linter.all false
set_option maxRecDepth 100000
set_option maxHeartbeats 4000000
/-! operations on plain data -/
namespace Zy
open PySem PySem.Spec PyProof.Rows L2

abbrev QW := Value → Option Addr → Hp → Prop
def newO (o : ZO) (G : GH) : R Z := .ok (.ref G.length) (G ++ [o])
def putO (n : Nat) (o : ZO) (z : Z) (G : GH) : R Z := .ok z (G.set n o)
/-- an operation of two values, as a rule of the hand layer -/
def rz2 (c : C) (g : Z → Z → GH → R Z) : R2 := fun x y H Q => ∃ W : QW, ∃ ρ G zx zy, Rel c ρ H G ∧ RZ c ρ H zx x ∧ RZ c ρ H zy y ∧ RQ c (RZ c) ρ H (g zx zy G) Q W
def rz1 (c : C) (g : Z → GH → R Z) : V → Hp → VK → Prop := fun x H Q => ∃ W : QW, ∃ ρ G zx, Rel c ρ H G ∧ RZ c ρ H zx x ∧ RQ c (RZ c) ρ H (g zx G) Q W
def rzs (c : C) (g : List Z → GH → R Z) : List V → Hp → VK → Prop := fun xs H Q => ∃ W : QW, ∃ ρ G zs, Rel c ρ H G ∧ RZs c ρ H zs xs ∧ RQ c (RZ c) ρ H (g zs G) Q W

section
variable {c : C} {ρ : List Addr} {H : Hp} {G : GH} {Q : VK} {W : QW}
theorem RQ.here {z : Z} {v : V} (h : RQ c (RZ c) ρ H (.ok z G) Q W) (R : Rel c ρ H G) (r : RZ c ρ H z v) : Q v H := h ρ H v (Ext.refl _ _) R r
theorem rz_int {i : Int} : RZ c ρ H (.int i) (.int i) := by unfold RZ; rfl
theorem rz_bl {i : Bool} : RZ c ρ H (.bl i) (.bl i) := by unfold RZ; rfl
theorem rz_non : RZ c ρ H .non .non := by unfold RZ; rfl
theorem rz_str {x : List Nat} (h : x.length ≤ sizeLine) : RZ c ρ H (.str x) (.str ⟨x.toArray⟩) := by unfold RZ; exact ⟨h, rfl⟩
theorem rz_tup {xs : List Z} {a : Addr} {vs : List V} (h : SqT c.K H a vs) (r : RZs c ρ H xs vs) : RZ c ρ H (.tup xs) (.ref a) := by unfold RZ; exact ⟨a, vs, rfl, h, r⟩
theorem rz_ref {n : Nat} {a : Addr} (h : ρ[n]? = some a) : RZ c ρ H (.ref n) (.ref a) := by unfold RZ; exact ⟨a, h, rfl⟩
theorem un_int {i : Int} {v : V} (h : RZ c ρ H (.int i) v) : v = .int i := by unfold RZ at h; exact h
theorem un_bl {i : Bool} {v : V} (h : RZ c ρ H (.bl i) v) : v = .bl i := by unfold RZ at h; exact h
theorem un_non {v : V} (h : RZ c ρ H .non v) : v = .non := by unfold RZ at h; exact h
theorem un_str {x : List Nat} {v : V} (h : RZ c ρ H (.str x) v) : x.length ≤ sizeLine ∧ v = .str ⟨x.toArray⟩ := by unfold RZ at h; exact h
theorem un_tup {xs : List Z} {v : V} (h : RZ c ρ H (.tup xs) v) : ∃ a vs, v = .ref a ∧ SqT c.K H a vs ∧ RZs c ρ H xs vs := by unfold RZ at h; exact h
theorem un_ref {n : Nat} {v : V} (h : RZ c ρ H (.ref n) v) : ∃ a, ρ[n]? = some a ∧ v = .ref a := by unfold RZ at h; exact h
/-- a new list, a new tuple -/
theorem RQ.newLst {zs : List Z} {vs : List V} (h : RQ c (RZ c) ρ H (newO (.lst zs) G) Q W) (R : Rel c ρ H G) (r : RZs c ρ H zs vs) : ∀ p, H p = none → Q (.ref p) (upd H p (.lst vs)) := fun p hp => by
  obtain ⟨R', e'⟩ := R.new (z := .lst zs) hp ⟨vs, rfl, r⟩
  exact h _ _ _ e' R' (by rw [← R.len]; exact rz_ref (get_new ρ p))
theorem RQ.newTup {zs : List Z} {vs : List V} (h : RQ c (RZ c) ρ H (.ok (.tup zs) G) Q W) (R : Rel c ρ H G) (r : RZs c ρ H zs vs) : ∀ p, H p = none → Q (.ref p) (upd H p (.tup vs)) := fun p hp => by
  obtain ⟨R', e'⟩ := R.aside (o := .tup vs) hp
  exact h _ _ _ e' R' (rz_tup (.of upd_same) (r.mono e'))
theorem RQ.putLst {n : Nat} {a : Addr} {zs : List Z} {vs : List V} {z : Z} {v : V} (h : RQ c (RZ c) ρ H (putO n (.lst zs) z G) Q W) (R : Rel c ρ H G) (e : ρ[n]? = some a) (r : RZs c ρ H zs vs) (rz : RZ c ρ H z v) : Q v (upd H a (.lst vs)) := by
  obtain ⟨R', e'⟩ := R.put (z := .lst zs) e ⟨vs, rfl, r⟩
  exact h _ _ _ e' R' (rz.mono e')
theorem Rel.lstAt (R : Rel c ρ H G) {n : Nat} {a : Addr} {xs : List Z} (h : lstAt G n = some xs) (e : ρ[n]? = some a) : ∃ vs, H a = some (.lst vs) ∧ RZs c ρ H xs vs := by
  obtain ⟨b, g1, vs, g2, g3⟩ := R.at (lstAt_eq.mp h)
  rw [e] at g1; cases g1
  exact ⟨vs, g2, g3⟩
end

/-! ### arithmetic -/
def b2z (b : Bool) : Int := if b then 1 else 0
def zAdd : Z → Z → GH → R Z
  | .int i, .int j, G => .ok (.int (i + j)) G
  | .int i, .bl b, G => .ok (.int (i + b2z b)) G
  | .str x, .str y, G => if x.length + y.length ≤ sizeLine then .ok (.str (x ++ y)) G else .bad
  | .tup x, .tup y, G => if x.length + y.length ≤ sizeLine then .ok (.tup (x ++ y)) G else .bad
  | .ref m, .ref n, G => match lstAt G m, lstAt G n with
    | some x, some y => if x.length + y.length ≤ sizeLine then newO (.lst (x ++ y)) G else .bad
    | _, _ => .bad
  | _, _, _ => .bad
def zSub : Z → Z → GH → R Z
  | .int i, .int j, G => .ok (.int (i - j)) G
  | _, _, _ => .bad
def mulOk (i j : Int) : Bool := decide (i.natAbs < 2 ^ 64) || decide (j.natAbs < 2 ^ 64) || decide (i.natAbs.log2 + j.natAbs.log2 < 1000000)
def zMul : Z → Z → GH → R Z
  | .int i, .int j, G => if mulOk i j then .ok (.int (i * j)) G else .bad
  | .ref m, .int k, G => match lstAt G m with
    | some x => if decide (-(2 ^ 63) ≤ k) && decide (k < 2 ^ 63) && decide (x.length * k.toNat ≤ sizeLine) then newO (.lst (List.replicate k.toNat x).flatten) G else .bad
    | _ => .bad
  | .tup x, .int k, G => if !x.isEmpty && decide (2 ≤ k) && decide (k ≤ 1000) && decide (x.length ≤ 1000) then .ok (.tup (List.replicate k.toNat x).flatten) G else .bad
  | _, _, _ => .bad
def zMod : Z → Z → GH → R Z
  | .int i, .int j, G => if j ≠ 0 then .ok (.int (i.fmod j)) G else .bad
  | _, _, _ => .bad
def zDiv : Z → Z → GH → R Z
  | .int i, .int j, G => if (decide (j ≠ 0) && decide (j.natAbs < 1073741824)) || (decide (0 < j) && decide (j.natAbs.log2 < 9000)) then .ok (.int (i.fdiv j)) G else .bad
  | _, _, _ => .bad
def zPow : Z → Z → GH → R Z
  | .int i, .int j, G => if decide (0 ≤ j) && decide ((Builtin.Int.intBits i : Int) * j ≤ 2 ^ 27) then .ok (.int (i ^ j.toNat)) G else .bad
  | _, _, _ => .bad
def zShr : Z → Z → GH → R Z
  | .int i, .int j, G => if 0 ≤ j then .ok (.int (i / 2 ^ j.toNat)) G else .bad
  | _, _, _ => .bad
def zAnd : Z → Z → GH → R Z
  | .int i, .int j, G => .ok (.int (Builtin.bitAnd i j)) G
  | _, _, _ => .bad
def zBin : Operator → Z → Z → GH → R Z
  | .Add => zAdd
  | .Sub => zSub
  | .Mult => zMul
  | .Mod => zMod
  | .FloorDiv => zDiv
  | .Pow => zPow
  | .RShift => zShr
  | .BitAnd => zAnd
  | _ => fun _ _ _ => .bad
theorem arr_app (x y : List Nat) : (⟨x.toArray⟩ : Str) ++ ⟨y.toArray⟩ = ⟨(x ++ y).toArray⟩ := by
  show Str.mk (x.toArray ++ y.toArray) = _
  rw [List.append_toArray]
theorem str_len (x : List Nat) : (⟨x.toArray⟩ : Str).length = x.length := by
  show Array.size _ = _
  simp
section
variable {X : Cx} {c : C} {W : QW}
theorem opz_add (hK : c.K = X.K) : OpR X (binaryOp .Add) (rz2 c zAdd) := by
  intro pins s σ H x y v u Q I rx ry h
  obtain ⟨W, ρ, G, zx, zy, R, hx, hy, q⟩ := h
  cases zx <;> cases zy <;> (try exact q.elim)
  · cases un_int hx; cases un_bl hy
    refine op_add_ib pins s σ H _ _ v u Q I rx ry ⟨_, _, rfl, rfl, ?_⟩
    exact q.here R rz_int
  · cases un_int hx; cases un_int hy
    exact op_add pins s σ H _ _ v u Q I rx ry ⟨_, _, rfl, rfl, q.here R rz_int⟩
  · rename_i x y
    obtain ⟨hx1, rfl⟩ := un_str hx
    obtain ⟨hy1, rfl⟩ := un_str hy
    simp only [zAdd] at q
    split at q
    · rename_i hz
      refine op_add_str pins s σ H _ _ v u Q I rx ry ⟨_, _, rfl, rfl, by rw [str_len, str_len]; exact hz, ?_⟩
      rw [arr_app]
      exact q.here R (rz_str (by simpa using hz))
    · exact q.elim
  · rename_i x y
    obtain ⟨a, vs, rfl, h1, h2⟩ := un_tup hx
    obtain ⟨b, ws, rfl, h3, h4⟩ := un_tup hy
    simp only [zAdd] at q
    split at q
    · rename_i hz
      have l1 := h2.length
      have l2 := h4.length
      refine op_catA pins s σ H _ _ v u Q I rx ry ⟨a, b, vs, ws, rfl, rfl, hK ▸ h1, hK ▸ h3, by omega, fun e => ?_, fun _ e => ?_, fun _ _ => q.newTup R (h2.append h4)⟩
      · subst e
        have : x = [] := List.eq_nil_of_length_eq_zero l1
        subst this
        exact q.here R (rz_tup h3 h4)
      · subst e
        have : y = [] := List.eq_nil_of_length_eq_zero l2
        subst this
        rw [List.append_nil] at q
        exact q.here R (rz_tup h1 h2)
    · exact q.elim
  · rename_i m n
    obtain ⟨a, ha, rfl⟩ := un_ref hx
    obtain ⟨b, hb, rfl⟩ := un_ref hy
    simp only [zAdd] at q
    split at q
    · rename_i x y ex ey
      split at q
      · rename_i hz
        obtain ⟨vs, g1, g2⟩ := R.lstAt ex ha
        obtain ⟨ws, g3, g4⟩ := R.lstAt ey hb
        have l1 := g2.length
        have l2 := g4.length
        exact op_cat pins s σ H _ _ v u Q I rx ry ⟨a, b, vs, ws, rfl, rfl, g1, g3, by omega, q.newLst R (g2.append g4)⟩
      · exact q.elim
    · exact q.elim
theorem opz_sub : OpR X (binaryOp .Sub) (rz2 c zSub) := by
  intro pins s σ H x y v u Q I rx ry h
  obtain ⟨W, ρ, G, zx, zy, R, hx, hy, q⟩ := h
  cases zx <;> cases zy <;> (try exact q.elim)
  cases un_int hx; cases un_int hy
  exact op_sub pins s σ H _ _ v u Q I rx ry ⟨_, _, rfl, rfl, q.here R rz_int⟩
theorem mulOk_ok {i j : Int} (h : mulOk i j = true) : IntMulOk i j := by
  unfold mulOk at h
  simp only [Bool.or_eq_true, decide_eq_true_eq] at h
  rcases h with (h | h) | h
  · exact CMul.ok (.inl (by omega))
  · exact CMul.ok (.inr (by omega))
  · exact CMulW.ok h
theorem op_mulA : OpR X (binaryOp .Mult) (rI (fun i j => mulOk i j = true) fun i j => .int (i * j)) := opI fun _ _ _ _ _ _ _ hc q => mul_int q (mulOk_ok hc)
theorem opz_mul (hK : c.K = X.K) : OpR X (binaryOp .Mult) (rz2 c zMul) := by
  intro pins s σ H x y v u Q I rx ry h
  obtain ⟨W, ρ, G, zx, zy, R, hx, hy, q⟩ := h
  cases zx <;> cases zy <;> (try exact q.elim)
  · cases un_int hx; cases un_int hy
    simp only [zMul] at q
    split at q
    · rename_i hz
      exact op_mulA pins s σ H _ _ v u Q I rx ry ⟨_, _, rfl, rfl, hz, q.here R rz_int⟩
    · exact q.elim
  · rename_i x k
    obtain ⟨a, vs, rfl, h1, h2⟩ := un_tup hx
    cases un_int hy
    simp only [zMul] at q
    split at q
    · rename_i hz
      simp only [Bool.and_eq_true, decide_eq_true_eq, Bool.not_eq_true'] at hz
      have l1 := h2.length
      refine op_repT pins s σ H _ _ v u Q I rx ry ⟨a, k, vs, rfl, rfl, hK ▸ h1, ?_, hz.1.1.2, hz.1.2, by omega, q.newTup R (h2.rep _)⟩
      rintro rfl
      have : x = [] := List.eq_nil_of_length_eq_zero l1
      subst this
      exact absurd hz.1.1.1 (by simp)
    · exact q.elim
  · rename_i m k
    obtain ⟨a, ha, rfl⟩ := un_ref hx
    cases un_int hy
    simp only [zMul] at q
    split at q
    · rename_i x ex
      split at q
      · rename_i hz
        simp only [Bool.and_eq_true, decide_eq_true_eq] at hz
        obtain ⟨vs, g1, g2⟩ := R.lstAt ex ha
        have l1 := g2.length
        exact op_rep pins s σ H _ _ v u Q I rx ry ⟨a, k, vs, rfl, rfl, g1, hz.1.1, hz.1.2, by rw [← l1]; exact hz.2, q.newLst R (g2.rep _)⟩
      · exact q.elim
    · exact q.elim
theorem opz_mod : OpR X (binaryOp .Mod) (rz2 c zMod) := by
  intro pins s σ H x y v u Q I rx ry h
  obtain ⟨W, ρ, G, zx, zy, R, hx, hy, q⟩ := h
  cases zx <;> cases zy <;> (try exact q.elim)
  cases un_int hx; cases un_int hy
  simp only [zMod] at q
  split at q
  · rename_i hz
    exact op_modN pins s σ H _ _ v u Q I rx ry ⟨_, _, rfl, rfl, hz, q.here R rz_int⟩
  · exact q.elim
theorem opz_div : OpR X (binaryOp .FloorDiv) (rz2 c zDiv) := by
  intro pins s σ H x y v u Q I rx ry h
  obtain ⟨W, ρ, G, zx, zy, R, hx, hy, q⟩ := h
  cases zx <;> cases zy <;> (try exact q.elim)
  cases un_int hx; cases un_int hy
  simp only [zDiv] at q
  split at q
  · rename_i hz
    simp only [Bool.or_eq_true, Bool.and_eq_true, decide_eq_true_eq] at hz
    rcases hz with hz | hz
    · exact op_fdivN pins s σ H _ _ v u Q I rx ry ⟨_, _, rfl, rfl, hz, q.here R rz_int⟩
    · refine op_fdivW pins s σ H _ _ v u Q I rx ry ⟨_, _, rfl, rfl, hz, ?_⟩
      rename_i i j
      have e : i.fdiv j = i / j := Int.fdiv_eq_ediv_of_nonneg i (Int.le_of_lt hz.1)
      rw [e] at q
      exact q.here R rz_int
  · exact q.elim
theorem op_powA : OpR X (binaryOp .Pow) (rI (fun i j => 0 ≤ j ∧ (Builtin.Int.intBits i : Int) * j ≤ 2 ^ 27) fun i j => .int (i ^ j.toNat)) := opI fun _ _ _ _ _ _ _ hc q => pow_int hc.1 hc.2 q
theorem opz_pow : OpR X (binaryOp .Pow) (rz2 c zPow) := by
  intro pins s σ H x y v u Q I rx ry h
  obtain ⟨W, ρ, G, zx, zy, R, hx, hy, q⟩ := h
  cases zx <;> cases zy <;> (try exact q.elim)
  cases un_int hx; cases un_int hy
  simp only [zPow] at q
  split at q
  · rename_i hz
    simp only [Bool.and_eq_true, decide_eq_true_eq] at hz
    exact op_powA pins s σ H _ _ v u Q I rx ry ⟨_, _, rfl, rfl, hz, q.here R rz_int⟩
  · exact q.elim
theorem opz_shr : OpR X (binaryOp .RShift) (rz2 c zShr) := by
  intro pins s σ H x y v u Q I rx ry h
  obtain ⟨W, ρ, G, zx, zy, R, hx, hy, q⟩ := h
  cases zx <;> cases zy <;> (try exact q.elim)
  cases un_int hx; cases un_int hy
  simp only [zShr] at q
  split at q
  · rename_i hz
    exact op_shr pins s σ H _ _ v u Q I rx ry ⟨_, _, rfl, rfl, hz, q.here R rz_int⟩
  · exact q.elim
theorem opz_and : OpR X (binaryOp .BitAnd) (rz2 c zAnd) := by
  intro pins s σ H x y v u Q I rx ry h
  obtain ⟨W, ρ, G, zx, zy, R, hx, hy, q⟩ := h
  cases zx <;> cases zy <;> (try exact q.elim)
  cases un_int hx; cases un_int hy
  exact op_and pins s σ H _ _ v u Q I rx ry ⟨_, _, rfl, rfl, q.here R rz_int⟩
theorem opz_never {f : Value → Value → Sem Value} : OpR X f (rz2 c fun _ _ _ => .bad) := by
  intro pins s σ H x y v u Q I rx ry h
  obtain ⟨W, ρ, G, zx, zy, R, hx, hy, q⟩ := h
  exact q.elim
theorem opz_bin (hK : c.K = X.K) : ∀ op : Operator, OpR X (binaryOp op) (rz2 c (zBin op))
  | .Add => opz_add hK
  | .Sub => opz_sub
  | .Mult => opz_mul hK
  | .Mod => opz_mod
  | .FloorDiv => opz_div
  | .Pow => opz_pow
  | .RShift => opz_shr
  | .BitAnd => opz_and
  | .MatMult => opz_never
  | .Div => opz_never
  | .LShift => opz_never
  | .BitOr => opz_never
  | .BitXor => opz_never
end
end Zy
end
section
set_option Elab.async false
set_option linter.all false
set_option maxRecDepth 100000
set_option maxHeartbeats 4000000
/-! order, in, is, truth, len -/
namespace Zy
open PySem PySem.Spec PyProof.Rows L2
open PySem.SeqAt (RcAt EqAt RcOp firstLt)

inductive Oo where
  | lt | le | gt | ge
  deriving DecidableEq
def Oo.op : Oo → CmpOp
  | .lt => .Lt | .le => .LtE | .gt => .Gt | .ge => .GtE
def oInt : Oo → Int → Int → Bool
  | .lt, i, j => decide (i < j) | .le, i, j => decide (i ≤ j) | .gt, i, j => decide (j < i) | .ge, i, j => decide (j ≤ i)
def oStr : Oo → List Nat → List Nat → Bool
  | .lt, i, j => decide (i < j) | .le, i, j => !decide (j < i) | .gt, i, j => decide (j < i) | .ge, i, j => !decide (i < j)
def oNat : Oo → Nat → Nat → Bool
  | .lt, i, j => decide (i < j) | .le, i, j => decide (i ≤ j) | .gt, i, j => decide (i > j) | .ge, i, j => decide (i ≥ j)
def zlex (f g : Z → Z → Option Bool) (fin : Bool) : List Z → List Z → Option Bool
  | x :: xs, y :: ys => match f x y, zlex f g fin xs ys with
    | some true, some r => some r
    | some false, some _ => g x y
    | _, _ => none
  | _, _ => some fin
def zord (o : Oo) : Nat → GH → Z → Z → Option Bool
  | 0, _, _, _ => none
  | n + 1, G, x, y => match kd G x, kd G y with
    | some (.int i), some (.int j) => some (oInt o i j)
    | some (.str i), some (.str j) => some (oStr o i j)
    | some (.tup i), some (.tup j) => zlex (zeq n G) (zord o n G) (oNat o i.length j.length) i j
    | some (.lst i), some (.lst j) => zlex (zeq n G) (zord o n G) (oNat o i.length j.length) i j
    | _, _ => none
theorem firstLt_congr {e e' r r' : Nat → Bool} {fin : Bool} : ∀ {l : List Nat}, (∀ j ∈ l, e j = e' j ∧ (e j = false → r j = r' j)) → firstLt e r fin l = firstLt e' r' fin l
  | [], _ => rfl
  | j :: t, h => by
    unfold firstLt
    obtain ⟨h1, h2⟩ := h j List.mem_cons_self
    rw [firstLt_congr fun k hk => h k (List.mem_cons_of_mem _ hk), ← h1]
    cases q : e j with
    | true => rfl
    | false => rw [if_neg (by simp), if_neg (by simp)]; exact h2 q
theorem firstLt_map (f : Nat → Nat) (e r : Nat → Bool) (fin : Bool) : ∀ l : List Nat, firstLt e r fin (l.map f) = firstLt (fun j => e (f j)) (fun j => r (f j)) fin l
  | [] => rfl
  | j :: t => by
    rw [List.map_cons]
    unfold firstLt
    rw [firstLt_map f e r fin t]
theorem zlex_spec {f g : Z → Z → Option Bool} {fin : Bool} : ∀ {xs ys : List Z} {k : Bool}, zlex f g fin xs ys = some k →
    ∃ e r : Nat → Bool, (∀ (j : Nat) x y, xs[j]? = some x → ys[j]? = some y → f x y = some (e j)) ∧ (∀ (j : Nat) x y, xs[j]? = some x → ys[j]? = some y → e j = false → g x y = some (r j)) ∧
      k = firstLt e r fin (List.range (min xs.length ys.length))
  | [], ys, k, h => ⟨fun _ => true, fun _ => true, fun j x y h1 => by simp at h1, fun j x y h1 => by simp at h1, by unfold zlex at h; cases h; simp [firstLt]⟩
  | x :: xs, [], k, h => ⟨fun _ => true, fun _ => true, fun j x y h1 h2 => by simp at h2, fun j x y h1 h2 => by simp at h2, by unfold zlex at h; cases h; simp [firstLt]⟩
  | x :: xs, y :: ys, k, h => by
    unfold zlex at h
    cases e2 : zlex f g fin xs ys with
    | none => rw [e2] at h; cases e1 : f x y with
      | none => rw [e1] at h; cases h
      | some a => rw [e1] at h; cases a <;> cases h
    | some b =>
      obtain ⟨e, r, h1, h2, h3⟩ := zlex_spec e2
      cases e1 : f x y with
      | none => rw [e1, e2] at h; cases h
      | some a =>
        rw [e1, e2] at h
        refine ⟨fun j => match j with | 0 => a | j + 1 => e j, fun j => match j with | 0 => k | j + 1 => r j, fun j x' y' g1 g2 => ?_, fun j x' y' g1 g2 ha => ?_, ?_⟩
        · cases j with
          | zero => simp at g1 g2; subst g1; subst g2; exact e1
          | succ j => exact h1 j x' y' (by simpa using g1) (by simpa using g2)
        · cases j with
          | zero =>
            simp at g1 g2; subst g1; subst g2
            have ha' : a = false := ha
            subst ha'
            exact h
          | succ j => exact h2 j x' y' (by simpa using g1) (by simpa using g2) ha
        · rw [List.length_cons, List.length_cons, Nat.succ_min_succ, List.range_succ_eq_map]
          cases a with
          | true =>
            rw [SeqAt.firstLt_yes (by rfl), firstLt_map]
            have h' : some b = some k := h
            cases h'
            exact h3
          | false => rw [SeqAt.firstLt_no (by rfl)]
theorem oInt_at (o : Oo) {A : Around} {s : Shared} (i j : Int) (t u : Tok) : RcOp o.op A s (.int i t) (.int j u) (oInt o i j) := by
  cases o with
  | lt => exact fun _ _ _ _ h => PyProof.Rows.lt_int h
  | le => exact fun _ _ _ _ h => PyProof.Rows.le_int h
  | gt => exact fun _ _ _ _ h => PyProof.Rows.gt_int h
  | ge => exact fun _ _ _ _ h => PyProof.Rows.ge_int h
theorem oStr_at (o : Oo) {A : Around} {s : Shared} (x y : List Nat) (t u : Tok) : RcOp o.op A s (.str ⟨x.toArray⟩ t) (.str ⟨y.toArray⟩ u) (oStr o x y) := by
  cases o with
  | lt => exact fun _ _ _ _ h => lt_str (by simpa [oStr] using h)
  | le => exact fun _ _ _ _ h => PySem.P.le_str (by simpa [oStr] using h)
  | gt => exact fun _ _ _ _ h => PySem.P.gt_str (by simpa [oStr] using h)
  | ge => exact fun _ _ _ _ h => PySem.P.ge_str (by simpa [oStr] using h)
section
variable {X : Cx} {pins : List (Addr × Obj)} {σ : L2.St} {H : Hp} {s : Shared} {c : C} {ρ : List Addr} {G : GH}
theorem oTup_at (o : Oo) {A : Around} {l b : Addr} {items items2 : Array Value} {e r : Nat → Bool} (hl : s.heap.IsTuple l items) (hb : s.heap.IsTuple b items2) (hu : A.units < cLine)
    (he : ∀ j (h1 : j < items.size) (h2 : j < items2.size), EqAt A.in1 s items[j] items2[j] (e j)) (hr : ∀ j (h1 : j < items.size) (h2 : j < items2.size), e j = false → RcOp o.op A.in1 s items[j] items2[j] (r j)) :
    RcOp o.op A s (.ref l) (.ref b) (firstLt e r (oNat o items.size items2.size) (List.range (min items.size items2.size))) := by
  cases o with
  | lt => exact RcOp.of_lt (SeqAt.RcLt.tuples hl hb hu he hr)
  | le => exact SeqAt.RcOp.tuples_le hl hb hu he hr
  | gt => exact SeqAt.RcOp.tuples_gt hl hb hu he hr
  | ge => exact SeqAt.RcOp.tuples_ge hl hb hu he hr
theorem oLst_at (o : Oo) {A : Around} {l b : Addr} {items items2 : Array Value} {e r : Nat → Bool} (hl : s.heap.IsList l items) (hb : s.heap.IsList b items2) (hu : A.units < cLine)
    (he : ∀ j (h1 : j < items.size) (h2 : j < items2.size), EqAt A.in1 s items[j] items2[j] (e j)) (hr : ∀ j (h1 : j < items.size) (h2 : j < items2.size), e j = false → RcOp o.op A.in1 s items[j] items2[j] (r j)) :
    RcOp o.op A s (.ref l) (.ref b) (firstLt e r (oNat o items.size items2.size) (List.range (min items.size items2.size))) := by
  cases o with
  | lt => exact RcOp.of_lt (SeqAt.RcLt.lists hl hb hu he hr)
  | le => exact SeqAt.RcOp.lists_le hl hb hu he hr
  | gt => exact SeqAt.RcOp.lists_gt hl hb hu he hr
  | ge => exact SeqAt.RcOp.lists_ge hl hb hu he hr
theorem zord_at (o : Oo) (hK : c.K = X.K) (I : Inv X pins σ H s) (R : Rel c ρ H G) : ∀ (n : Nat) (A : Around) {x y : Z} {v w : V} {u1 u2 : Value} {r : Bool}, A.units + n < cLine → zord o n G x y = some r → RZ c ρ H x v → RZ c ρ H y w → RelV v u1 → RelV w u2 →
    RcOp o.op A s u1 u2 r
  | 0, _, _, _, _, _, _, _, _, _, h, _, _, _, _ => by cases h
  | n + 1, A, x, y, v, w, u1, u2, r, hu, h, rx, ry, rv, rw_ => by
    have hu1 : A.units < cLine := by omega
    have hu2 : A.in1.units + n < cLine := by show A.units + 1 + n < cLine; omega
    have items : ∀ {xs ys : List Z} {vs ws : List V} {us us' : List Value} {fin : Bool}, zlex (zeq n G) (zord o n G) fin xs ys = some r → RZs c ρ H xs vs → RZs c ρ H ys ws → Vals vs us → Vals ws us' →
        ∃ e r' : Nat → Bool, (∀ j (h1 : j < us.toArray.size) (h2 : j < us'.toArray.size), EqAt A.in1 s us.toArray[j] us'.toArray[j] (e j)) ∧ (∀ j (h1 : j < us.toArray.size) (h2 : j < us'.toArray.size), e j = false → RcOp o.op A.in1 s us.toArray[j] us'.toArray[j] (r' j)) ∧
          r = firstLt e r' fin (List.range (min us.toArray.size us'.toArray.size)) ∧ xs.length = us.toArray.size ∧ ys.length = us'.toArray.size := by
      intro xs ys vs ws us us' fin hz h1 h2 h3 h4
      obtain ⟨e, r', g1, g2, g3⟩ := zlex_spec hz
      have l1 : xs.length = us.length := h1.length.trans h3.length
      have l2 : ys.length = us'.length := h2.length.trans h4.length
      have at_ : ∀ j (j1 : j < us.length) (j2 : j < us'.length), ∃ x y v1 v2, xs[j]? = some x ∧ ys[j]? = some y ∧ RZ c ρ H x v1 ∧ RZ c ρ H y v2 ∧ RelV v1 us[j] ∧ RelV v2 us'[j] := by
        intro j j1 j2
        have q1 : xs[j]? = some xs[j] := List.getElem?_eq_getElem (by omega)
        have q2 : ys[j]? = some ys[j] := List.getElem?_eq_getElem (by omega)
        obtain ⟨v1, p1, p2⟩ := h1.get q1
        obtain ⟨v2, p3, p4⟩ := h2.get q2
        obtain ⟨u1', p5, p6⟩ := h3.get p1
        obtain ⟨u2', p7, p8⟩ := h4.get p3
        have e1 : us[j] = u1' := by rw [List.getElem?_eq_getElem j1] at p5; exact Option.some.inj p5
        have e2 : us'[j] = u2' := by rw [List.getElem?_eq_getElem j2] at p7; exact Option.some.inj p7
        exact ⟨_, _, v1, v2, q1, q2, p2, p4, by rw [e1]; exact p6, by rw [e2]; exact p8⟩
      refine ⟨e, r', fun j j1 j2 => ?_, fun j j1 j2 he => ?_, by rw [g3]; simp [l1, l2], by simp [l1], by simp [l2]⟩
      · obtain ⟨x, y, v1, v2, q1, q2, q3, q4, q5, q6⟩ := at_ j (by simpa using j1) (by simpa using j2)
        have := (zeq_at hK I R n A.in1 hu2 (g1 j _ _ q1 q2) q3 q4 q5 q6).2.1
        simpa using this
      · obtain ⟨x, y, v1, v2, q1, q2, q3, q4, q5, q6⟩ := at_ j (by simpa using j1) (by simpa using j2)
        have := zord_at o hK I R n A.in1 hu2 (g2 j _ _ q1 q2 he) q3 q4 q5 q6
        simpa using this
    unfold zord at h
    split at h
    · rename_i i j ex ey
      obtain ⟨t, rfl⟩ := kd_sound hK I R rx rv ex
      obtain ⟨t', rfl⟩ := kd_sound hK I R ry rw_ ey
      cases h
      exact oInt_at o i j t t'
    · rename_i i j ex ey
      obtain ⟨t, rfl⟩ := kd_sound hK I R rx rv ex
      obtain ⟨t', rfl⟩ := kd_sound hK I R ry rw_ ey
      cases h
      exact oStr_at o i j t t'
    · rename_i i j ex ey
      obtain ⟨a, vs, us, rfl, k1, k2, k3⟩ := kd_sound hK I R rx rv ex
      obtain ⟨b, vs', us', rfl, k4, k5, k6⟩ := kd_sound hK I R ry rw_ ey
      obtain ⟨e, r', g1, g2, g3, g4, g5⟩ := items h k1 k4 k2 k5
      rw [g3, g4, g5]
      exact oTup_at o k3 k6 hu1 g1 g2
    · rename_i i j ex ey
      obtain ⟨a, vs, us, rfl, k1, k2, k3⟩ := kd_sound hK I R rx rv ex
      obtain ⟨b, vs', us', rfl, k4, k5, k6⟩ := kd_sound hK I R ry rw_ ey
      obtain ⟨e, r', g1, g2, g3, g4, g5⟩ := items h k1 k4 k2 k5
      rw [g3, g4, g5]
      exact oLst_at o k3 k6 hu1 g1 g2
    · cases h
end

/-! ### comparisons -/
def dep : Nat := 40
def ofB (o : Option Bool) (G : GH) : R Z := match o with
  | some b => .ok (.bl b) G
  | none => .bad
def zanyB (f : Z → Option Bool) : List Z → Option Bool
  | [] => some false
  | x :: xs => match f x, zanyB f xs with
    | some a, some b => some (a || b)
    | _, _ => none
/-- the items of a list or a tuple -/
def its (G : GH) : Z → Option (List Z)
  | .tup xs => some xs
  | z => rdl G z
/-- does y stand in x as a part -/
def subB (x y : List Nat) : Bool := !(Builtin.Str.occurrences ⟨y.toArray⟩ ⟨x.toArray⟩ 0 y.length 1).isEmpty
def zin (G : GH) : Z → Z → Option Bool
  | .str x, .str y => some (subB x y)
  | x, y => match its G y with
    | some ys => zanyB (fun z => zeq dep G z x) ys
    | none => none
def zis (G : GH) : Z → Z → Option Bool
  | .non, .non => some true
  | .bl a, .bl b => some (decide (a = b))
  | .ref _, .non => some false
  | .int _, .non => some false
  | .str _, .non => some false
  | .bl _, .non => some false
  | .tup _, .non => some false
  | .rol _, .non => some false
  | .fn _, .non => some false
  | .cl _, .non => some false
  | .ty _, .non => some false
  | _, _ => none
def zCmp : CmpOp → Z → Z → GH → R Z
  | .Eq, x, y, G => ofB (zeq dep G x y) G
  | .NotEq, x, y, G => ofB ((zeq dep G x y).map (!·)) G
  | .Lt, x, y, G => ofB (zord .lt dep G x y) G
  | .LtE, x, y, G => ofB (zord .le dep G x y) G
  | .Gt, x, y, G => ofB (zord .gt dep G x y) G
  | .GtE, x, y, G => ofB (zord .ge dep G x y) G
  | .In, x, y, G => ofB (zin G x y) G
  | .NotIn, x, y, G => ofB ((zin G x y).map (!·)) G
  | .Is, x, y, G => ofB (zis G x y) G
  | .IsNot, x, y, G => ofB ((zis G x y).map (!·)) G
theorem ofB_some {o : Option Bool} {G : GH} {c : C} {ρ : List Addr} {H : Hp} {Q : VK} {W : QW} (h : RQ c (RZ c) ρ H (ofB o G) Q W) : ∃ b, o = some b ∧ RQ c (RZ c) ρ H (.ok (.bl b) G) Q W := by
  cases o with
  | none => exact h.elim
  | some b => exact ⟨b, rfl, h⟩
section
variable {X : Cx} {pins : List (Addr × Obj)} {σ : L2.St} {H : Hp} {s : Shared} {c : C} {ρ : List Addr} {G : GH} {W : QW}
theorem its_sound (hK : c.K = X.K) (I : Inv X pins σ H s) (R : Rel c ρ H G) {z : Z} {v : V} {u : Value} (r : RZ c ρ H z v) (rv : RelV v u) {xs : List Z} (e : its G z = some xs) :
    ∃ a vs us, u = .ref a ∧ v = .ref a ∧ RZs c ρ H xs vs ∧ Vals vs us ∧ (SqL X.K H a vs ∧ s.heap.IsList a us.toArray ∨ SqT X.K H a vs ∧ IsTup s.heap a us.toArray) := by
  have lst : rdl G z = some xs → ∃ a vs us, u = .ref a ∧ v = .ref a ∧ RZs c ρ H xs vs ∧ Vals vs us ∧ (SqL X.K H a vs ∧ s.heap.IsList a us.toArray ∨ SqT X.K H a vs ∧ IsTup s.heap a us.toArray) := fun e => by
    obtain ⟨a, vs, rfl, h1, h2⟩ := rdl_sound R r e
    obtain ⟨us, g1, g2, _⟩ := I.list (hK ▸ h1)
    exact ⟨a, vs, us, rv, rfl, h2, g1, .inl ⟨hK ▸ h1, g2.isList⟩⟩
  cases z with
  | tup ys =>
    have e' : some ys = some xs := e
    cases e'
    obtain ⟨a, vs, rfl, h1, h2⟩ := un_tup r
    obtain ⟨us, g1, g2, _⟩ := I.tuple (hK ▸ h1)
    exact ⟨a, vs, us, rv, rfl, h2, g1, .inr ⟨hK ▸ h1, g2⟩⟩
  | _ => exact lst e
theorem zanyB_spec {f : Z → Option Bool} : ∀ {xs : List Z} {r : Bool}, zanyB f xs = some r → ∃ e : Nat → Bool, (∀ (j : Nat) x, xs[j]? = some x → f x = some (e j)) ∧ r = (List.range xs.length).any e
  | [], r, h => ⟨fun _ => true, fun j x h1 => by simp at h1, by unfold zanyB at h; cases h; rfl⟩
  | x :: xs, r, h => by
    unfold zanyB at h
    cases e1 : f x with
    | none => rw [e1] at h; cases h
    | some a =>
      cases e2 : zanyB f xs with
      | none => rw [e1, e2] at h; cases h
      | some b =>
        rw [e1, e2] at h
        have h' : some (a || b) = some r := h
        cases h'
        obtain ⟨e, h1, h2⟩ := zanyB_spec e2
        refine ⟨fun j => match j with | 0 => a | j + 1 => e j, fun j x' g1 => ?_, ?_⟩
        · cases j with
          | zero => simp at g1; subst g1; exact e1
          | succ j => exact h1 j x' (by simpa using g1)
        · rw [h2, List.length_cons, List.range_succ_eq_map, List.any_cons, List.any_map]; rfl
/-- in a list or a tuple -/
theorem zin_items (hK : c.K = X.K) (I : Inv X pins σ H s) (R : Rel c ρ H G) {A : Around} (hu : A.units + 50 < cLine) {x : Z} {v : V} {u : Value} (rx : RZ c ρ H x v) (rv : RelV v u) {ys : List Z} {vs : List V} {us : List Value} (h1 : RZs c ρ H ys vs) (h2 : Vals vs us) {r : Bool}
    (h : zanyB (fun z => zeq dep G z x) ys = some r) : ∃ e : Value → Bool, (∀ y, y ∈ us.toArray → EqAt A.in1 s y u (e y)) ∧ us.toArray.any e = r := by
  obtain ⟨e, g1, g2⟩ := zanyB_spec h
  have at_ : ∀ j (hj : j < us.length), EqAt A.in1 s us[j] u (e j) := fun j hj => by
    have l1 : ys.length = us.length := h1.length.trans h2.length
    have q1 : ys[j]? = some ys[j] := List.getElem?_eq_getElem (by omega)
    obtain ⟨v1, p1, p2⟩ := h1.get q1
    obtain ⟨u1, p3, p4⟩ := h2.get p1
    have e1 : us[j] = u1 := by rw [List.getElem?_eq_getElem hj] at p3; exact Option.some.inj p3
    rw [e1]
    exact (zeq_at hK I R dep A.in1 (by show A.units + 1 + 40 < cLine; omega) (g1 j _ q1) p2 rx p4 rv).2.1
  classical
  refine ⟨fun y => decide (∃ j, ∃ hj : j < us.length, us[j] = y ∧ e j = true), fun y hy => ?_, ?_⟩
  · show EqAt A.in1 s y u (decide (∃ j, ∃ hj : j < us.length, us[j] = y ∧ e j = true))
    by_cases q : ∃ j, ∃ hj : j < us.length, us[j] = y ∧ e j = true
    · rw [decide_eq_true q]
      obtain ⟨j, hj, q1, q2⟩ := q
      have := at_ j hj
      rw [q1, q2] at this; exact this
    · rw [decide_eq_false q]
      have hy' : y ∈ us := by simpa using hy
      obtain ⟨j, hj, e1⟩ := List.getElem_of_mem hy'
      have := at_ j hj
      have e2 : e j = false := by
        cases z : e j with
        | false => rfl
        | true => exact absurd ⟨j, hj, e1, z⟩ q
      rw [e1, e2] at this; exact this
  · have l1 : ys.length = us.length := h1.length.trans h2.length
    rw [g2, l1, List.any_toArray]
    rw [Bool.eq_iff_iff]
    simp only [List.any_eq_true, decide_eq_true_eq, List.mem_range]
    constructor
    · rintro ⟨y, _, j, hj, _, q⟩; exact ⟨j, hj, q⟩
    · rintro ⟨j, hj, q⟩; exact ⟨us[j], List.getElem_mem hj, j, hj, rfl, q⟩
theorem occ_eq (x y : List Nat) : (!(Builtin.Str.occurrences ⟨y.toArray⟩ ⟨x.toArray⟩ 0 (⟨y.toArray⟩ : Str).length 1).isEmpty) = subB x y := by
  unfold subB; rw [str_len]
theorem zin_str {x y : Z} {r : Bool} (h : zin G x y = some r) : (∃ a b, x = .str a ∧ y = .str b ∧ r = subB a b) ∨ ∃ ys, its G y = some ys ∧ zanyB (fun z => zeq dep G z x) ys = some r := by
  have other : (match its G y with | some ys => zanyB (fun z => zeq dep G z x) ys | none => none) = some r → ∃ ys, its G y = some ys ∧ zanyB (fun z => zeq dep G z x) ys = some r := fun h => by
    cases e : its G y with
    | none => rw [e] at h; cases h
    | some ys => rw [e] at h; exact ⟨ys, rfl, h⟩
  unfold zin at h
  split at h
  · rename_i a b
    cases h
    exact .inl ⟨a, b, rfl, rfl, rfl⟩
  · exact .inr (other h)
theorem zis_cases {x y : Z} {v w : V} (hx : RZ c ρ H x v) (hy : RZ c ρ H y w) {b : Bool} (e : zis G x y = some b) : (w = .non ∧ b = decide (v = .non)) ∨ ∃ a a', v = .bl a ∧ w = .bl a' ∧ b = decide (a = a') := by
  cases y with
  | non =>
    left
    refine ⟨un_non hy, ?_⟩
    cases x with
    | non => cases e; cases un_non hx; rfl
    | bl _ => cases e; cases un_bl hx; rfl
    | int _ => cases e; cases un_int hx; rfl
    | str _ => cases e; obtain ⟨_, rfl⟩ := un_str hx; rfl
    | tup _ => cases e; obtain ⟨_, _, rfl, _⟩ := un_tup hx; rfl
    | rol _ => cases e; unfold RZ at hx; obtain ⟨_, _, rfl, _⟩ := hx; rfl
    | ref _ => cases e; obtain ⟨_, _, rfl⟩ := un_ref hx; rfl
    | fn _ => cases e; unfold RZ at hx; cases hx; rfl
    | cl _ => cases e; unfold RZ at hx; cases hx; rfl
    | ty _ => cases e; unfold RZ at hx; cases hx; rfl
    | ex => unfold RZ at hx; exact hx.elim
  | bl b' =>
    right
    cases x with
    | bl a => cases e; exact ⟨a, b', un_bl hx, un_bl hy, rfl⟩
    | _ => cases e
  | _ => cases x <;> cases e
theorem cmpz (hK : c.K = X.K) (hu : X.A.units + 60 < cLine) : ∀ op : CmpOp, OpR X (compareOp op) (rz2 c (zCmp op)) := by
  intro op pins s σ H x y v u Q I rx ry h
  obtain ⟨W, ρ, G, zx, zy, R, hx, hy, q⟩ := h
  have eqc : ∀ {r : Bool} {f : Value → Shared → Prop}, zeq dep G zx zy = some r → RcAt X.A s v u r := fun h => (zeq_at hK I R dep X.A (by show X.A.units + 40 < cLine; omega) h hx hy rx ry).1
  have orc : ∀ (o : Oo) {r : Bool}, zord o dep G zx zy = some r → RcOp o.op X.A s v u r := fun o r h => zord_at o hK I R dep X.A (by show X.A.units + 40 < cLine; omega) h hx hy rx ry
  have fin : ∀ {b : Bool}, RQ c (RZ c) ρ H (.ok (.bl b) G) Q W → EP X pins σ Q (.bool b) s := fun {b} q => ⟨.bl b, H, I, rfl, q.here R rz_bl⟩
  cases op with
  | Eq =>
    obtain ⟨b, e, q⟩ := ofB_some (show RQ c (RZ c) ρ H (ofB (zeq dep G zx zy) G) Q W from q)
    exact eqc (f := fun _ _ => True) e X.prog X.w X.xe _ (fin q)
  | NotEq =>
    obtain ⟨b, e, q⟩ := ofB_some (show RQ c (RZ c) ρ H (ofB ((zeq dep G zx zy).map (!·)) G) Q W from q)
    obtain ⟨b', e', rfl⟩ := Option.map_eq_some_iff.mp e
    exact (zeq_at hK I R dep X.A (by show X.A.units + 40 < cLine; omega) e' hx hy rx ry).2.2 X.prog X.w X.xe _ (fin q)
  | Lt =>
    obtain ⟨b, e, q⟩ := ofB_some (show RQ c (RZ c) ρ H (ofB (zord .lt dep G zx zy) G) Q W from q)
    exact orc .lt e X.prog X.w X.xe _ (fin q)
  | LtE =>
    obtain ⟨b, e, q⟩ := ofB_some (show RQ c (RZ c) ρ H (ofB (zord .le dep G zx zy) G) Q W from q)
    exact orc .le e X.prog X.w X.xe _ (fin q)
  | Gt =>
    obtain ⟨b, e, q⟩ := ofB_some (show RQ c (RZ c) ρ H (ofB (zord .gt dep G zx zy) G) Q W from q)
    exact orc .gt e X.prog X.w X.xe _ (fin q)
  | GtE =>
    obtain ⟨b, e, q⟩ := ofB_some (show RQ c (RZ c) ρ H (ofB (zord .ge dep G zx zy) G) Q W from q)
    exact orc .ge e X.prog X.w X.xe _ (fin q)
  | In =>
    obtain ⟨b, e, q⟩ := ofB_some (show RQ c (RZ c) ρ H (ofB (zin G zx zy) G) Q W from q)
    rcases zin_str e with ⟨a, b', rfl, rfl, rfl⟩ | ⟨ys, e1, e2⟩
    · obtain ⟨_, rfl⟩ := un_str hx
      obtain ⟨_, rfl⟩ := un_str hy
      exact op_in_str pins s σ H _ _ v u Q I rx ry ⟨_, _, rfl, rfl, by rw [occ_eq]; exact q.here R rz_bl⟩
    · obtain ⟨p, vs, us, rfl, rfl, h1, h2, h3⟩ := its_sound hK I R hy ry e1
      obtain ⟨f, g1, g2⟩ := zin_items hK I R (A := X.A) (by omega) hx rx h1 h2 e2
      rcases h3 with ⟨_, h3⟩ | ⟨_, h3⟩
      · exact SeqAt.in_listAt f h3 g1 (by rw [g2]; exact fin q)
      · exact SeqAt.in_tupleAt f h3 g1 (by rw [g2]; exact fin q)
  | NotIn =>
    obtain ⟨b, e, q⟩ := ofB_some (show RQ c (RZ c) ρ H (ofB ((zin G zx zy).map (!·)) G) Q W from q)
    obtain ⟨b', e', rfl⟩ := Option.map_eq_some_iff.mp e
    rcases zin_str e' with ⟨a, b', rfl, rfl, rfl⟩ | ⟨ys, e1, e2⟩
    · obtain ⟨_, rfl⟩ := un_str hx
      obtain ⟨_, rfl⟩ := un_str hy
      exact op_notIn_str pins s σ H _ _ v u Q I rx ry ⟨_, _, rfl, rfl, by rw [occ_eq]; exact q.here R rz_bl⟩
    · obtain ⟨p, vs, us, rfl, rfl, h1, h2, h3⟩ := its_sound hK I R hy ry e1
      obtain ⟨f, g1, g2⟩ := zin_items hK I R (A := X.A) (by omega) hx rx h1 h2 e2
      rcases h3 with ⟨_, h3⟩ | ⟨_, h3⟩
      · exact SeqAt.notIn_listAt f h3 g1 (by rw [g2]; exact fin q)
      · exact SeqAt.notIn_tupleAt f h3 g1 (by rw [g2]; exact fin q)
  | Is =>
    obtain ⟨b, e, q⟩ := ofB_some (show RQ c (RZ c) ρ H (ofB (zis G zx zy) G) Q W from q)
    rcases zis_cases hx hy e with ⟨rfl, rfl⟩ | ⟨a, a', rfl, rfl, rfl⟩
    · exact op_isN pins s σ H _ _ v u Q I rx ry ⟨rfl, q.here R rz_bl⟩
    · exact op_is_bl pins s σ H _ _ v u Q I rx ry ⟨_, _, rfl, rfl, q.here R rz_bl⟩
  | IsNot =>
    obtain ⟨b, e, q⟩ := ofB_some (show RQ c (RZ c) ρ H (ofB ((zis G zx zy).map (!·)) G) Q W from q)
    obtain ⟨b', e', rfl⟩ := Option.map_eq_some_iff.mp e
    rcases zis_cases hx hy e' with ⟨rfl, rfl⟩ | ⟨a, a', rfl, rfl, rfl⟩
    · exact op_notN pins s σ H _ _ v u Q I rx ry ⟨rfl, q.here R rz_bl⟩
    · exact op_isnot_bl pins s σ H _ _ v u Q I rx ry ⟨_, _, rfl, rfl, q.here R rz_bl⟩
end
end Zy
end
section
set_option Elab.async false
set_option linter.all false
set_option maxRecDepth 100000
set_option maxHeartbeats 4000000
/-! truth, items, slices, methods, built-in functions -/
namespace Zy
open PySem PySem.Spec PyProof.Rows L2
open PySem.SeqAt (RcAt EqAt RcOp firstLt)

/-! ### truth -/
def zTru (G : GH) : Z → Option Bool
  | .non => some false
  | .bl b => some b
  | .int i => some (i != 0)
  | .str x => some (!x.isEmpty)
  | .tup xs => some (!xs.isEmpty)
  | .rol xs => some (!xs.isEmpty)
  | .ref n => (lstAt G n).map (!·.isEmpty)
  | _ => none
section
variable {X : Cx} {pins : List (Addr × Obj)} {σ : L2.St} {H : Hp} {s : Shared} {c : C} {ρ : List Addr} {G : GH} {W : QW}
theorem emptyZ {zs : List Z} {vs : List V} (h : RZs c ρ H zs vs) : (!zs.isEmpty) = !vs.isEmpty := by
  have := h.length
  cases zs <;> cases vs <;> simp_all
theorem zTru_sound (hK : c.K = X.K) (R : Rel c ρ H G) {z : Z} {v : V} (r : RZ c ρ H z v) {b : Bool} (e : zTru G z = some b) : TruV X.K v H b := by
  cases z with
  | non => cases e; cases un_non r; rfl
  | bl _ => cases e; cases un_bl r; rfl
  | int _ => cases e; cases un_int r; rfl
  | str x =>
    obtain ⟨h1, rfl⟩ := un_str r
    cases e
    show (⟨x.toArray⟩ : Str).length ≤ sizeLine ∧ _
    rw [str_len]
    refine ⟨h1, ?_⟩
    cases x with
    | nil => rfl
    | cons a t =>
      have h2 : ((a :: t).length : Int) ≠ 0 := by
        rw [List.length_cons]; omega
      rw [bne_iff_ne.mpr h2]; rfl
  | tup xs =>
    cases e
    obtain ⟨a, vs, rfl, h1, h2⟩ := un_tup r
    exact .inr (.inl ⟨vs, hK ▸ h1, emptyZ h2⟩)
  | rol xs =>
    cases e
    unfold RZ at r
    obtain ⟨a, vs, rfl, h1, h2⟩ := r
    exact .inl ⟨vs, hK ▸ h1.seq, emptyZ h2⟩
  | ref n =>
    obtain ⟨xs, h, rfl⟩ := Option.map_eq_some_iff.mp (show (lstAt G n).map (!·.isEmpty) = some b from e)
    obtain ⟨a, ha, rfl⟩ := un_ref r
    obtain ⟨vs, h1, h2⟩ := R.lstAt h ha
    exact .inl ⟨vs, SqL.of h1, emptyZ h2⟩
  | _ => cases e

/-! ### items -/
def zIx : Z → Z → GH → R Z
  | .str x, .int i, G => match atI x i with
    | some c => .ok (.str [c]) G
    | none => .bad
  | x, .int i, G => match (its G x).bind fun xs => atI xs i with
    | some z => .ok z G
    | none => .bad
  | _, _, _ => .bad
theorem atI_rel {zs : List Z} {vs : List V} (h : RZs c ρ H zs vs) {i : Int} {z : Z} (e : atI zs i = some z) : ∃ v, atI vs i = some v ∧ RZ c ρ H z v := by
  unfold atI at e ⊢
  rw [← h.length]
  cases q : ixN zs.length i with
  | none => rw [q] at e; cases e
  | some j =>
    rw [q] at e
    obtain ⟨v, h1, h2⟩ := h.get (show zs[j]? = some z from e)
    exact ⟨v, h1, h2⟩
theorem its_at (hK : c.K = X.K) (R : Rel c ρ H G) {z : Z} {v : V} (r : RZ c ρ H z v) {xs : List Z} (e : its G z = some xs) : ∃ a vs, v = .ref a ∧ RZs c ρ H xs vs ∧ (SqL X.K H a vs ∨ SqT X.K H a vs) := by
  have lst : rdl G z = some xs → ∃ a vs, v = .ref a ∧ RZs c ρ H xs vs ∧ (SqL X.K H a vs ∨ SqT X.K H a vs) := fun e => by
    obtain ⟨a, vs, rfl, h1, h2⟩ := rdl_sound R r e
    exact ⟨a, vs, rfl, h2, .inl (hK ▸ h1)⟩
  cases z with
  | tup ys =>
    have e' : some ys = some xs := e
    cases e'
    obtain ⟨a, vs, rfl, h1, h2⟩ := un_tup r
    exact ⟨a, vs, rfl, h2, .inr (hK ▸ h1)⟩
  | _ => exact lst e
theorem ixz (hK : c.K = X.K) : IxR X (rz2 c zIx) := by
  intro value slice pins s σ H x y v u Q I rx ry h hs
  obtain ⟨W, ρ, G, zx, zy, R, hx, hy, q⟩ := h
  cases zy with
  | int i =>
    cases un_int hy
    have other : RQ c (RZ c) ρ H (match (its G zx).bind fun xs => atI xs i with | some z => .ok z G | none => .bad) Q W → wpAny (model X.prog X.w) X.A (subscriptTail value slice v u) (EP X pins σ Q) X.xe s := fun q => by
      cases e : its G zx with
      | none => rw [e] at q; exact q.elim
      | some xs =>
        rw [e] at q
        cases e2 : atI xs i with
        | none => rw [Option.bind_some, e2] at q; exact q.elim
        | some z =>
          rw [Option.bind_some, e2] at q
          obtain ⟨a, vs, rfl, h1, h2⟩ := its_at hK R hx e
          obtain ⟨w, h3, h4⟩ := atI_rel h1 e2
          refine ix_seq value slice pins s σ H _ _ v u Q I rx ry ?_ hs
          rcases h2 with h2 | h2
          · exact .inl ⟨a, vs, i, w, rfl, rfl, h2, h3, q.here R h4⟩
          · exact .inr (.inl ⟨a, vs, i, w, rfl, rfl, h2, h3, q.here R h4⟩)
    cases zx with
    | str x =>
      obtain ⟨h1, rfl⟩ := un_str hx
      cases e : atI x i with
      | none => simp only [zIx, e] at q; exact q.elim
      | some ch =>
        simp only [zIx, e] at q
        refine ix_seq value slice pins s σ H _ _ v u Q I rx ry (.inr (.inr ⟨_, i, ch, rfl, rfl, by rw [str_len]; exact h1, by simpa using e, ?_⟩)) hs
        exact q.here R (rz_str (x := [ch]) (by rw [sizeLine_eq]; simp))
    | _ => exact other q
  | _ => cases zx <;> exact q.elim

/-! ### slices -/
def cutZ {α : Type} (xs : List α) (lo hi : Option Int) : List α := (xs.drop (HT.sIx xs.length 0 lo)).take (HT.sIx xs.length xs.length hi - HT.sIx xs.length 0 lo)
def zSlc : Z → Option Int → Option Int → GH → R Z
  | .str x, lo, hi, G => .ok (.str (cutZ x lo hi)) G
  | .tup xs, lo, hi, G => .ok (.tup (cutZ xs lo hi)) G
  | x, lo, hi, G => match rdl G x with
    | some xs => newO (.lst (cutZ xs lo hi)) G
    | none => .bad
theorem cutZ_len {α : Type} (xs : List α) (lo hi : Option Int) : (cutZ xs lo hi).length ≤ xs.length := by
  unfold cutZ; rw [List.length_take, List.length_drop]; omega
theorem cutZ_rel {zs : List Z} {vs : List V} (h : RZs c ρ H zs vs) (lo hi : Option Int) : RZs c ρ H (cutZ zs lo hi) (cutV vs lo hi) := by
  unfold cutZ cutV
  rw [h.length]
  exact (h.drop _).take _
theorem slz (hK : c.K = X.K) : SlR X (fun x lo hi H Q => ∃ W : QW, ∃ ρ G zx, Rel c ρ H G ∧ RZ c ρ H zx x ∧ RQ c (RZ c) ρ H (zSlc zx lo hi G) Q W) := by
  intro pins s σ H x v vl vu lo hi sl Q I rx hs pl pu h
  obtain ⟨W, ρ, G, zx, R, hx, q⟩ := h
  have other : RQ c (RZ c) ρ H (match rdl G zx with | some xs => newO (.lst (cutZ xs lo hi)) G | none => .bad) Q W → ∃ xs a vs, x = .ref a ∧ SqL X.K H a vs ∧ ∀ p, H p = none → Q (.ref p) (upd H p (.lst (cutV vs lo hi))) := fun q => by
    cases e : rdl G zx with
    | none => rw [e] at q; exact q.elim
    | some xs =>
      rw [e] at q
      obtain ⟨a, vs, rfl, h1, h2⟩ := rdl_sound R hx e
      exact ⟨xs, a, vs, rfl, hK ▸ h1, q.newLst R (cutZ_rel h2 lo hi)⟩
  cases zx with
  | str y =>
    obtain ⟨h1, rfl⟩ := un_str hx
    refine sl_str pins s σ H _ v vl vu lo hi sl Q I rx hs pl pu ⟨_, rfl, by rw [str_len]; exact h1, ?_⟩
    have e : cutS ⟨y.toArray⟩ lo hi = ⟨(cutZ y lo hi).toArray⟩ := by
      unfold cutS cutZ
      rw [str_len]
    rw [e]
    exact (show RQ c (RZ c) ρ H (.ok (.str (cutZ y lo hi)) G) Q W from q).here R (rz_str (Nat.le_trans (cutZ_len _ _ _) h1))
  | tup xs =>
    obtain ⟨a, vs, rfl, h1, h2⟩ := un_tup hx
    have q' : RQ c (RZ c) ρ H (.ok (.tup (cutZ xs lo hi)) G) Q W := q
    refine sl_tupA pins s σ H _ v vl vu lo hi sl Q I rx hs pl pu ⟨a, vs, rfl, hK ▸ h1, fun ⟨e1, e2⟩ => ?_, fun _ => q'.newTup R (cutZ_rel h2 lo hi)⟩
    have e3 : cutZ xs lo hi = xs := by
      unfold cutZ
      rw [h2.length, e1, e2, List.drop_zero, ← h2.length, Nat.sub_zero, List.take_length]
    rw [e3] at q'
    exact q'.here R hx
  | _ =>
    obtain ⟨xs, a, vs, ex, h1, h2⟩ := other q
    exact sl_list pins s σ H x v vl vu lo hi sl Q I rx hs pl pu ⟨a, vs, ex, h1, h2⟩

/-! ### isinstance -/
def tyName (G : GH) : Z → Option String
  | .non => some "NoneType"
  | .bl _ => some "bool"
  | .int _ => some "int"
  | .str _ => some "str"
  | .tup _ => some "tuple"
  | .rol _ => some "list"
  | .ref n => match G[n]? with
    | some (.lst _) => some "list"
    | some (.dK _ _) => some "dict"
    | _ => none
  | _ => none
theorem tyName_sound (hK : c.K = X.K) (R : Rel c ρ H G) {z : Z} {v : V} (r : RZ c ρ H z v) {n : String} (e : tyName G z = some n) : TyX X.K H v (.type n) := by
  cases z with
  | non => cases e; cases un_non r; exact .base .non
  | bl _ => cases e; cases un_bl r; exact .base (.bl _)
  | int _ => cases e; cases un_int r; exact .base (.int _)
  | str x => cases e; obtain ⟨_, rfl⟩ := un_str r; exact .base (.str _)
  | tup xs =>
    cases e
    obtain ⟨a, vs, rfl, h1, h2⟩ := un_tup r
    rcases h1 with (h1 | ⟨o, h1⟩) | ⟨o, its, n, h1, h2, _⟩
    · exact .base (.tup h1)
    · exact .fTuple h1
    · exact .kTuple (hK ▸ h1) h2
  | rol xs =>
    cases e
    unfold RZ at r
    obtain ⟨a, vs, rfl, h1, h2⟩ := r
    rcases h1 with ⟨o, h1⟩ | ⟨o, its, n, h1, h2, _⟩
    · exact .base (.frz h1)
    · exact .kList (hK ▸ h1) h2
  | ref m =>
    obtain ⟨a, ha, rfl⟩ := un_ref r
    replace e : (match G[m]? with
      | some (.lst _) => some "list"
      | some (.dK _ _) => some "dict"
      | _ => none) = some n := e
    split at e
    · rename_i xs h
      cases e
      obtain ⟨b, g1, vs, g2, g3⟩ := R.at h
      rw [ha] at g1; cases g1
      exact .base (.lst g2)
    · rename_i ks xs h
      cases e
      obtain ⟨b, g1, vs, g2, g3⟩ := R.at h
      rw [ha] at g1; cases g1
      exact .base (.dK g2)
    · cases e
  | _ => cases e
theorem RZs.two {x y : Z} {vs : List V} (h : RZs c ρ H [x, y] vs) : ∃ v w, vs = [v, w] ∧ RZ c ρ H x v ∧ RZ c ρ H y w := by
  unfold RZs at h; obtain ⟨v, r, rfl, h1, h2⟩ := h
  unfold RZs at h2; obtain ⟨w, r, rfl, h3, h4⟩ := h2
  unfold RZs at h4; subst h4
  exact ⟨v, w, rfl, h1, h3⟩
theorem RZs.one {x : Z} {vs : List V} (h : RZs c ρ H [x] vs) : ∃ v, vs = [v] ∧ RZ c ρ H x v := by
  unfold RZs at h; obtain ⟨v, r, rfl, h1, h2⟩ := h
  unfold RZs at h2; subst h2
  exact ⟨v, rfl, h1⟩
theorem RZs.nil_ {vs : List V} (h : RZs c ρ H [] vs) : vs = [] := by unfold RZs at h; exact h
/-! ### one, two arguments -/
def on1 (f : Z → GH → R Z) : List Z → GH → R Z
  | [x], G => f x G
  | _, _ => .bad
def on2 (f : Z → Z → GH → R Z) : List Z → GH → R Z
  | [x, y], G => f x y G
  | _, _ => .bad
theorem on1_sound {f : Z → GH → R Z} {Q : VK} {zs : List Z} {xs : List V} (hz : RZs c ρ H zs xs) (q : RQ c (RZ c) ρ H (on1 f zs G) Q W) : ∃ x v, xs = [v] ∧ RZ c ρ H x v ∧ RQ c (RZ c) ρ H (f x G) Q W := by
  match zs, hz, q with
  | [x], hz, q =>
    obtain ⟨v, rfl, h1⟩ := hz.one
    exact ⟨x, v, rfl, h1, q⟩
  | [], hz, q => exact q.elim
  | _ :: _ :: _, hz, q => exact q.elim
theorem on2_sound {f : Z → Z → GH → R Z} {Q : VK} {zs : List Z} {xs : List V} (hz : RZs c ρ H zs xs) (q : RQ c (RZ c) ρ H (on2 f zs G) Q W) : ∃ x y v w, xs = [v, w] ∧ RZ c ρ H x v ∧ RZ c ρ H y w ∧ RQ c (RZ c) ρ H (f x y G) Q W := by
  match zs, hz, q with
  | [x, y], hz, q =>
    obtain ⟨v, w, rfl, h1, h2⟩ := hz.two
    exact ⟨x, y, v, w, rfl, h1, h2, q⟩
  | [], hz, q => exact q.elim
  | [_], hz, q => exact q.elim
  | _ :: _ :: _ :: _, hz, q => exact q.elim
def tyKnown : List String := ["NoneType", "bool", "int", "str", "tuple", "list", "dict", "set"]
def isaB (t n : String) : Option Bool := if tyKnown.contains t && (tyKnown.contains n && n != "NoneType") then some (t == n || (t == "bool" && n == "int")) else none
theorem isaB_all : (tyKnown.all fun t => tyKnown.all fun n => n == "NoneType" || kitB t n == some (t == n || (t == "bool" && n == "int"))) = true := by decide +kernel
theorem isaB_ok {t n : String} {b : Bool} (h : isaB t n = some b) : kitB t n = some b := by
  unfold isaB at h
  split at h
  · rename_i hc
    simp only [Bool.and_eq_true] at hc
    cases h
    have h1 := List.all_eq_true.mp isaB_all t (List.contains_iff_mem.mp hc.1)
    have h2 := List.all_eq_true.mp h1 n (List.contains_iff_mem.mp hc.2.1)
    simp only [Bool.or_eq_true] at h2
    rcases h2 with h2 | h2
    · have h3 := hc.2.2
      rw [beq_iff_eq.mp h2] at h3
      exact absurd h3 (by decide)
    · exact beq_iff_eq.mp h2
  · cases h
def zIsi : Z → Z → GH → R Z
  | x, .ty n, G => match (tyName G x).bind fun t => isaB t n with
    | some b => .ok (.bl b) G
    | none => .bad
  | _, _, _ => .bad
theorem callz_isi (hK : c.K = X.K) : CallR X (.builtin "isinstance") (rzs c (on2 zIsi)) := by
  intro pins s σ H xs us Q I r h
  obtain ⟨W, ρ, G, zs, R, hz, q⟩ := h
  obtain ⟨x, y, v, w, rfl, hx, hy, q⟩ := on2_sound hz q
  cases y with
  | ty n =>
    unfold RZ at hy
    subst hy
    cases e : tyName G x with
    | none => simp only [zIsi, e] at q; exact q.elim
    | some t =>
      cases e2 : isaB t n with
      | none => simp only [zIsi, e, Option.bind_some, e2] at q; exact q.elim
      | some b =>
        simp only [zIsi, e, Option.bind_some, e2] at q
        exact call_isi pins s σ H _ us Q I r ⟨v, .ty n, .type t, .type n, b, rfl, .ty n, tyName_sound hK R hx e, kit_ty (isaB_ok e2), q.here R rz_bl⟩
  | _ => exact q.elim
def zLen : Z → GH → R Z
  | .str x, G => .ok (.int x.length) G
  | x, G => match its G x with
    | some xs => .ok (.int xs.length) G
    | none => .bad
theorem callz_len (hK : c.K = X.K) : CallR X (.builtin "len") (rzs c (on1 zLen)) := by
  intro pins s σ H xs us Q I r h
  obtain ⟨W, ρ, G, zs, R, hz, q⟩ := h
  obtain ⟨x, v, rfl, hx, q⟩ := on1_sound hz q
  have other : RQ c (RZ c) ρ H (match its G x with | some xs => .ok (.int xs.length) G | none => .bad) Q W → wpAny (model X.prog X.w) X.A (call (.builtin "len") us) (EP X pins σ Q) X.xe s := fun q => by
    cases e : its G x with
    | none => rw [e] at q; exact q.elim
    | some ys =>
      rw [e] at q
      obtain ⟨a, vs, rfl, h1, h2⟩ := its_at hK R hx e
      refine call_len pins s σ H _ us Q I r ⟨_, vs.length, rfl, ?_, ?_⟩
      · rcases h2 with h2 | h2
        · exact .inl ⟨vs, h2, rfl⟩
        · exact .inr ⟨vs, h2, rfl⟩
      · rw [← h1.length]; exact q.here R rz_int
  cases x with
  | str y =>
    obtain ⟨h1, rfl⟩ := un_str hx
    refine call_len pins s σ H _ us Q I r ⟨_, y.length, rfl, ⟨by rw [str_len]; exact h1, by rw [str_len]⟩, ?_⟩
    exact (show RQ c (RZ c) ρ H (.ok (.int y.length) G) Q W from q).here R rz_int
  | _ => exact other q
def zAbs : Z → GH → R Z
  | .int i, G => .ok (.int i.natAbs) G
  | _, _ => .bad
theorem callz_abs : CallR X (.builtin "abs") (rzs c (on1 zAbs)) := by
  intro pins s σ H xs us Q I r h
  obtain ⟨W, ρ, G, zs, R, hz, q⟩ := h
  obtain ⟨x, v, rfl, hx, q⟩ := on1_sound hz q
  cases x <;> (try exact q.elim)
  rename_i i
  cases un_int hx
  refine call_abs pins s σ H _ us Q I r ⟨i, rfl, ?_⟩
  have e : (if i < 0 then -i else i) = (i.natAbs : Int) := by split <;> omega
  rw [e]; exact (show RQ c (RZ c) ρ H (.ok (.int i.natAbs) G) Q W from q).here R rz_int
def zMax2 : Z → Z → GH → R Z
  | .int i, .int j, G => .ok (.int (if j > i then j else i)) G
  | _, _, _ => .bad
def zMin2 : Z → Z → GH → R Z
  | .int i, .int j, G => .ok (.int (if j < i then j else i)) G
  | _, _, _ => .bad
def zInt : Z → GH → R Z
  | .int i, G => .ok (.int i) G
  | .bl b, G => .ok (.int (b2z b)) G
  | _, _ => .bad
theorem callz_int : CallR X (.type "int") (rzs c (on1 zInt)) := by
  intro pins s σ H xs us Q I r h
  obtain ⟨W, ρ, G, zs, R, hz, q⟩ := h
  obtain ⟨x, v, rfl, hx, q⟩ := on1_sound hz q
  cases x <;> (try exact q.elim)
  · cases un_bl hx
    exact call_int1 pins s σ H _ us Q I r (.inr ⟨_, rfl, (show RQ c (RZ c) ρ H (.ok (.int (b2z _)) G) Q W from q).here R rz_int⟩)
  · cases un_int hx
    exact call_int1 pins s σ H _ us Q I r (.inl ⟨_, rfl, (show RQ c (RZ c) ρ H (.ok (.int _) G) Q W from q).here R rz_int⟩)
def zBool : Z → GH → R Z
  | .int i, G => .ok (.bl (i != 0)) G
  | .bl b, G => .ok (.bl b) G
  | _, _ => .bad
theorem callz_bool : CallR X (.type "bool") (rzs c (on1 zBool)) := by
  intro pins s σ H xs us Q I r h
  obtain ⟨W, ρ, G, zs, R, hz, q⟩ := h
  obtain ⟨x, v, rfl, hx, q⟩ := on1_sound hz q
  cases x <;> (try exact q.elim)
  · cases un_bl hx
    exact call_bool1 pins s σ H _ us Q I r (.inr ⟨_, rfl, (show RQ c (RZ c) ρ H (.ok (.bl _) G) Q W from q).here R rz_bl⟩)
  · cases un_int hx
    exact call_bool1 pins s σ H _ us Q I r (.inl ⟨_, rfl, RQ.here (z := .bl (_ != 0)) q R rz_bl⟩)
def zTuple : Z → GH → R Z
  | .tup xs, G => .ok (.tup xs) G
  | x, G => match rdl G x with
    | some xs => .ok (.tup xs) G
    | none => .bad
theorem callz_tuple (hK : c.K = X.K) : CallR X (.type "tuple") (rzs c (on1 zTuple)) := by
  intro pins s σ H xs us Q I r h
  obtain ⟨W, ρ, G, zs, R, hz, q⟩ := h
  obtain ⟨x, v, rfl, hx, q⟩ := on1_sound hz q
  have other : RQ c (RZ c) ρ H (match rdl G x with | some xs => .ok (.tup xs) G | none => .bad) Q W → wpAny (model X.prog X.w) X.A (call (.type "tuple") us) (EP X pins σ Q) X.xe s := fun q => by
    cases e : rdl G x with
    | none => rw [e] at q; exact q.elim
    | some ys =>
      rw [e] at q
      obtain ⟨a, vs, rfl, h1, h2⟩ := rdl_sound R hx e
      exact call_tuple_of pins s σ H _ us Q I r ⟨a, vs, rfl, .inl ⟨hK ▸ h1, q.newTup R h2⟩⟩
  cases x with
  | tup ys =>
    obtain ⟨a, vs, rfl, h1, h2⟩ := un_tup hx
    exact call_tuple_of pins s σ H _ us Q I r ⟨a, vs, rfl, .inr ⟨hK ▸ h1, (show RQ c (RZ c) ρ H (.ok (.tup ys) G) Q W from q).here R hx⟩⟩
  | _ => exact other q
def zList : Z → GH → R Z := fun x G => match its G x with
  | some xs => newO (.lst xs) G
  | none => .bad
theorem callz_list (hK : c.K = X.K) : CallR X (.type "list") (rzs c (on1 zList)) := by
  intro pins s σ H xs us Q I r h
  obtain ⟨W, ρ, G, zs, R, hz, q⟩ := h
  obtain ⟨x, v, rfl, hx, q⟩ := on1_sound hz q
  unfold zList at q
  cases e : its G x with
  | none => rw [e] at q; exact q.elim
  | some ys =>
    rw [e] at q
    obtain ⟨a, vs, rfl, h1, h2⟩ := its_at hK R hx e
    exact call_list_of pins s σ H _ us Q I r ⟨a, vs, rfl, h2, q.newLst R h1⟩
/-- the truth values of a list -/
def blsOf : List Z → Option (List Bool)
  | [] => some []
  | .bl b :: r => (blsOf r).map (b :: ·)
  | _ => none
theorem blsOf_eq : ∀ {zs : List Z} {bs : List Bool}, blsOf zs = some bs → zs = bs.map .bl
  | [], bs, h => by unfold blsOf at h; cases h; rfl
  | .bl b :: r, bs, h => by
    unfold blsOf at h
    obtain ⟨cs, h1, rfl⟩ := Option.map_eq_some_iff.mp h
    rw [blsOf_eq h1]; rfl
  | .non :: r, bs, h => by cases h
  | .int _ :: r, bs, h => by cases h
  | .str _ :: r, bs, h => by cases h
  | .tup _ :: r, bs, h => by cases h
  | .rol _ :: r, bs, h => by cases h
  | .ref _ :: r, bs, h => by cases h
  | .fn _ :: r, bs, h => by cases h
  | .cl _ :: r, bs, h => by cases h
  | .ty _ :: r, bs, h => by cases h
theorem bls_rel : ∀ {bs : List Bool} {vs : List V}, RZs c ρ H (bs.map .bl) vs → vs = bs.map V.bl
  | [], vs, h => by unfold RZs at h; exact h
  | b :: bs, vs, h => by
    rw [List.map_cons] at h
    unfold RZs at h
    obtain ⟨v, r, rfl, h1, h2⟩ := h
    rw [un_bl h1, bls_rel h2]; rfl
def intsOf : List Z → Option (List Int)
  | [] => some []
  | .int b :: r => (intsOf r).map (b :: ·)
  | _ => none
theorem intsOf_eq : ∀ {zs : List Z} {bs : List Int}, intsOf zs = some bs → zs = bs.map .int
  | [], bs, h => by unfold intsOf at h; cases h; rfl
  | .int b :: r, bs, h => by
    unfold intsOf at h
    obtain ⟨cs, h1, rfl⟩ := Option.map_eq_some_iff.mp h
    rw [intsOf_eq h1]; rfl
  | .non :: r, bs, h => by cases h
  | .bl _ :: r, bs, h => by cases h
  | .str _ :: r, bs, h => by cases h
  | .tup _ :: r, bs, h => by cases h
  | .rol _ :: r, bs, h => by cases h
  | .ref _ :: r, bs, h => by cases h
  | .fn _ :: r, bs, h => by cases h
  | .cl _ :: r, bs, h => by cases h
  | .ty _ :: r, bs, h => by cases h
theorem ints_rel : ∀ {bs : List Int} {vs : List V}, RZs c ρ H (bs.map .int) vs → vs = bs.map V.int
  | [], vs, h => by unfold RZs at h; exact h
  | b :: bs, vs, h => by
    rw [List.map_cons] at h
    unfold RZs at h
    obtain ⟨v, r, rfl, h1, h2⟩ := h
    rw [un_int h1, ints_rel h2]; rfl
def zAll : Z → GH → R Z := fun x G => match (rdl G x).bind blsOf with
  | some bs => .ok (.bl (bs.all id)) G
  | none => .bad
def zAny : Z → GH → R Z := fun x G => match (rdl G x).bind blsOf with
  | some bs => .ok (.bl (bs.any id)) G
  | none => .bad
def zSum : Z → GH → R Z := fun x G => match (rdl G x).bind intsOf with
  | some bs => .ok (.int bs.sum) G
  | none => .bad
theorem callz_all (hK : c.K = X.K) (hc : X.calm = true) : CallR X (.builtin "all") (rzs c (on1 zAll)) := by
  intro pins s σ H xs us Q I r h
  obtain ⟨W, ρ, G, zs, R, hz, q⟩ := h
  obtain ⟨x, v, rfl, hx, q⟩ := on1_sound hz q
  unfold zAll at q
  cases e : rdl G x with
  | none => rw [e] at q; exact q.elim
  | some ys =>
    rw [e, Option.bind_some] at q
    cases e2 : blsOf ys with
    | none => rw [e2] at q; exact q.elim
    | some bs =>
      rw [e2] at q
      obtain ⟨a, vs, rfl, h1, h2⟩ := rdl_sound R hx e
      rw [blsOf_eq e2] at h2
      exact cr_all hc pins s σ H _ us Q I r ⟨a, bs, rfl, by rw [← bls_rel h2]; exact hK ▸ h1, q.here R rz_bl⟩
theorem callz_any (hK : c.K = X.K) (hc : X.calm = true) : CallR X (.builtin "any") (rzs c (on1 zAny)) := by
  intro pins s σ H xs us Q I r h
  obtain ⟨W, ρ, G, zs, R, hz, q⟩ := h
  obtain ⟨x, v, rfl, hx, q⟩ := on1_sound hz q
  unfold zAny at q
  cases e : rdl G x with
  | none => rw [e] at q; exact q.elim
  | some ys =>
    rw [e, Option.bind_some] at q
    cases e2 : blsOf ys with
    | none => rw [e2] at q; exact q.elim
    | some bs =>
      rw [e2] at q
      obtain ⟨a, vs, rfl, h1, h2⟩ := rdl_sound R hx e
      rw [blsOf_eq e2] at h2
      exact cr_any hc pins s σ H _ us Q I r ⟨a, bs, rfl, by rw [← bls_rel h2]; exact hK ▸ h1, q.here R rz_bl⟩
theorem callz_sum (hK : c.K = X.K) (hc : X.calm = true) : CallR X (.builtin "sum") (rzs c (on1 zSum)) := by
  intro pins s σ H xs us Q I r h
  obtain ⟨W, ρ, G, zs, R, hz, q⟩ := h
  obtain ⟨x, v, rfl, hx, q⟩ := on1_sound hz q
  unfold zSum at q
  cases e : rdl G x with
  | none => rw [e] at q; exact q.elim
  | some ys =>
    rw [e, Option.bind_some] at q
    cases e2 : intsOf ys with
    | none => rw [e2] at q; exact q.elim
    | some bs =>
      rw [e2] at q
      obtain ⟨a, vs, rfl, h1, h2⟩ := rdl_sound R hx e
      rw [intsOf_eq e2] at h2
      exact cr_sum hc pins s σ H _ us Q I r ⟨a, bs, rfl, by rw [← ints_rel h2]; exact hK ▸ h1, q.here R rz_int⟩
theorem callz_max2 (hc : X.calm = true) : CallR X (.builtin "max") (rzs c (on2 zMax2)) := by
  intro pins s σ H xs us Q I r h
  obtain ⟨W, ρ, G, zs, R, hz, q⟩ := h
  obtain ⟨x, y, v, w, rfl, hx, hy, q⟩ := on2_sound hz q
  cases x <;> cases y <;> (try exact q.elim)
  cases un_int hx; cases un_int hy
  exact call_max2 hc pins s σ H _ us Q I r ⟨_, _, rfl, (show RQ c (RZ c) ρ H (.ok (.int _) G) Q W from q).here R rz_int⟩
theorem callz_min2 (hc : X.calm = true) : CallR X (.builtin "min") (rzs c (on2 zMin2)) := by
  intro pins s σ H xs us Q I r h
  obtain ⟨W, ρ, G, zs, R, hz, q⟩ := h
  obtain ⟨x, y, v, w, rfl, hx, hy, q⟩ := on2_sound hz q
  cases x <;> cases y <;> (try exact q.elim)
  cases un_int hx; cases un_int hy
  exact call_min2 hc pins s σ H _ us Q I r ⟨_, _, rfl, (show RQ c (RZ c) ρ H (.ok (.int _) G) Q W from q).here R rz_int⟩
end
end Zy
end
section
set_option Elab.async false
set_option linter.all false
set_option maxRecDepth 100000
set_option maxHeartbeats 4000000
set_option autoImplicit false
/-! what expressions of the text compute on plain data, and that they do -/
namespace Zy
open PySem PySem.Spec PyProof.Rows L2
open PySem.SeqAt (RcAt EqAt RcOp firstLt)

abbrev L := List (Option Z)
abbrev DE := L → GH → R Z
abbrev DA := L → GH → R (List Z)
abbrev DT := L → GH → R Bool
abbrev CF := Nat → List Z → GH → R Z
structure RL (c : C) (ρ : List Addr) (H : Hp) (l : L) (σ : L2.St) : Prop where
  len : l.length = σ.length
  at_ : ∀ (i : Nat) (z : Z), l[i]? = some (some z) → ∃ v, σ[i]? = some (some v) ∧ (RZ c ρ H z v ∨ z = .ex ∧ v = .ref c.dy.xa)
theorem RL.mono {c : C} {ρ ρ' : List Addr} {H H' : Hp} {l : L} {σ : L2.St} (e : Ext ρ H ρ' H') (r : RL c ρ H l σ) : RL c ρ' H' l σ :=
  ⟨r.len, fun i z h => let ⟨v, h1, h2⟩ := r.at_ i z h; ⟨v, h1, h2.imp (fun h => h.mono e) id⟩⟩
theorem RL.set {c : C} {ρ : List Addr} {H : Hp} {l : L} {σ : L2.St} (r : RL c ρ H l σ) {i : Nat} {z : Z} {v : V} (h : RZ c ρ H z v) : RL c ρ H (l.set i (some z)) (σ.set i (some v)) := by
  refine ⟨by simp [r.len], fun j z' e => ?_⟩
  by_cases hj : j = i
  · subst hj
    by_cases hl : j < l.length
    · rw [List.getElem?_set_self hl] at e
      cases e
      exact ⟨v, by rw [List.getElem?_set_self (by rw [← r.len]; exact hl)], .inl h⟩
    · rw [List.getElem?_eq_none (by simpa using hl)] at e; cases e
  · rw [List.getElem?_set_ne (Ne.symm hj)] at e ⊢
    exact r.at_ j z' e
theorem RL.unset {c : C} {ρ : List Addr} {H : Hp} {l : L} {σ : L2.St} (r : RL c ρ H l σ) (i : Nat) : RL c ρ H (l.set i none) (σ.set i none) := by
  refine ⟨by simp [r.len], fun j z' e => ?_⟩
  by_cases hj : j = i
  · subst hj
    by_cases hl : j < l.length
    · rw [List.getElem?_set_self hl] at e; cases e
    · rw [List.getElem?_eq_none (by simpa using hl)] at e; cases e
  · rw [List.getElem?_set_ne (Ne.symm hj)] at e ⊢
    exact r.at_ j z' e

abbrev atW (W : WX) (σ : L2.St) : QW := fun cls d H => W cls d σ H
def rB (ρ : List Addr) (H : Hp) (b : Bool) (b' : Bool) : Prop := b' = b
def tE (c : C) (W : WX) (d : DE) : TE := fun σ H Q => ∃ ρ G l, Rel c ρ H G ∧ RL c ρ H l σ ∧ RQ c (RZ c) ρ H (d l G) Q (atW W σ)
def tT (c : C) (W : WX) (d : DT) : TT := fun σ H Q => ∃ ρ G l, Rel c ρ H G ∧ RL c ρ H l σ ∧ RQ c rB ρ H (d l G) Q (atW W σ)
def tA (c : C) (W : WX) (d : DA) : TA := fun σ H Q => ∃ ρ G l, Rel c ρ H G ∧ RL c ρ H l σ ∧ RQ c (RZs c) ρ H (d l G) Q (atW W σ)
section
variable {c : C} {W : WX} {ρ : List Addr} {H : Hp} {G : GH} {l : L} {σ : L2.St}
/-- first this, then the rest -/
theorem tE.bind {β δ : Type} {rel : List Addr → Hp → β → δ → Prop} {d : DE} {f : Z → GH → R β} {Q : δ → Hp → Prop} {Q' : VK} (R1 : Rel c ρ H G) (hl : RL c ρ H l σ) (q : RQ c rel ρ H ((d l G).bind f) Q (atW W σ))
    (k : ∀ ρ1 H1 G1 z v, Ext ρ H ρ1 H1 → Rel c ρ1 H1 G1 → RL c ρ1 H1 l σ → RZ c ρ1 H1 z v → RQ c rel ρ1 H1 (f z G1) Q (atW W σ) → Q' v H1) : tE c W d σ H Q' :=
  ⟨ρ, G, l, R1, hl, RQ.imp (RQ.bind (rel := RZ c) q) (fun v H1 ⟨ρ1, G1, z, e, r1, rz, q1⟩ => k ρ1 H1 G1 z v e r1 (hl.mono e) rz q1) fun _ _ _ h => h⟩
theorem tT.bind {β δ : Type} {rel : List Addr → Hp → β → δ → Prop} {d : DT} {f : Bool → GH → R β} {Q : δ → Hp → Prop} {Q' : Bool → Hp → Prop} (R1 : Rel c ρ H G) (hl : RL c ρ H l σ) (q : RQ c rel ρ H ((d l G).bind f) Q (atW W σ))
    (k : ∀ ρ1 H1 G1 b, Ext ρ H ρ1 H1 → Rel c ρ1 H1 G1 → RL c ρ1 H1 l σ → RQ c rel ρ1 H1 (f b G1) Q (atW W σ) → Q' b H1) : tT c W d σ H Q' :=
  ⟨ρ, G, l, R1, hl, RQ.imp (RQ.bind (rel := rB) q) (fun v H1 ⟨ρ1, G1, z, e, r1, rz, q1⟩ => by rw [show v = z from rz]; exact k ρ1 H1 G1 z e r1 (hl.mono e) q1) fun _ _ _ h => h⟩
theorem tA.bind {β δ : Type} {rel : List Addr → Hp → β → δ → Prop} {d : DA} {f : List Z → GH → R β} {Q : δ → Hp → Prop} {Q' : List V → Hp → Prop} (R1 : Rel c ρ H G) (hl : RL c ρ H l σ) (q : RQ c rel ρ H ((d l G).bind f) Q (atW W σ))
    (k : ∀ ρ1 H1 G1 z v, Ext ρ H ρ1 H1 → Rel c ρ1 H1 G1 → RL c ρ1 H1 l σ → RZs c ρ1 H1 z v → RQ c rel ρ1 H1 (f z G1) Q (atW W σ) → Q' v H1) : tA c W d σ H Q' :=
  ⟨ρ, G, l, R1, hl, RQ.imp (RQ.bind (rel := RZs c) q) (fun v H1 ⟨ρ1, G1, z, e, r1, rz, q1⟩ => k ρ1 H1 G1 z v e r1 (hl.mono e) rz q1) fun _ _ _ h => h⟩
end
theorem _root_.L2.PE.weak {X : Cx} {e : Expr} {t t' : TE} (h : PE X e t) (w : ∀ σ H Q, t' σ H Q → t σ H Q) : PE X e t' := ⟨fun pins s σ H Q I q => h.run pins s σ H Q I (w σ H Q q)⟩
theorem _root_.L2.PT.weak {X : Cx} {e : Expr} {t t' : TT} (h : PT X e t) (w : ∀ σ H Q, t' σ H Q → t σ H Q) : PT X e t' := ⟨fun pins s σ H Q I q => h.run pins s σ H Q I (w σ H Q q)⟩
theorem _root_.L2.PA.weak {X : Cx} {e : List Expr} {t t' : TA} (h : PA X e t) (w : ∀ σ H Q, t' σ H Q → t σ H Q) : PA X e t' := ⟨fun pos pins s σ H Q I q => h.run pos pins s σ H Q I (w σ H Q q)⟩

/-! ### the meanings -/
def dVar (i : Nat) : DE := fun l G => match l[i]? with
  | some (some .ex) => .bad
  | some (some z) => .ok z G
  | _ => .bad
def dC (z : Z) : DE := fun _ G => .ok z G
def dBin (op : Operator) (a b : DE) : DE := fun l G => (a l G).bind fun x G1 => (b l G1).bind fun y G2 => zBin op x y G2
def dCmp (op : CmpOp) (a b : DE) : DE := fun l G => (a l G).bind fun x G1 => (b l G1).bind fun y G2 => zCmp op x y G2
def dChn (o1 o2 : CmpOp) (a b c : DE) : DE := fun l G => (a l G).bind fun x G1 => (b l G1).bind fun y G2 => (zCmp o1 x y G2).bind fun r G3 => match r with
  | .bl true => (c l G3).bind fun z G4 => zCmp o2 y z G4
  | .bl false => .ok (.bl false) G3
  | _ => .bad
def zNeg : Z → GH → R Z
  | .int i, G => .ok (.int (-i)) G
  | _, _ => .bad
def dNeg (a : DE) : DE := fun l G => (a l G).bind zNeg
def truD {α : Type} (x : Z) (G : GH) (f : Bool → R α) : R α := match zTru G x with
  | some b => f b
  | none => .bad
def dNot (a : DE) : DE := fun l G => (a l G).bind fun x G1 => truD x G1 fun b => .ok (.bl (!b)) G1
def dAnd (a b : DE) : DE := fun l G => (a l G).bind fun x G1 => truD x G1 fun t => if t then b l G1 else .ok x G1
def dOr (a b : DE) : DE := fun l G => (a l G).bind fun x G1 => truD x G1 fun t => if t then .ok x G1 else b l G1
def dTru (a : DE) : DT := fun l G => (a l G).bind fun x G1 => truD x G1 fun b => .ok b G1
def uAnd (a b : DT) : DT := fun l G => (a l G).bind fun t G1 => if t then b l G1 else .ok false G1
def uOr (a b : DT) : DT := fun l G => (a l G).bind fun t G1 => if t then .ok true G1 else b l G1
def uNot (a : DT) : DT := fun l G => (a l G).bind fun t G1 => .ok (!t) G1
/-- a comparison as a test -/
def uB (a : DE) : DT := fun l G => (a l G).bind fun x G1 => match x with
  | .bl b => .ok b G1
  | _ => .bad
def dIf (t : DT) (a b : DE) : DE := fun l G => (t l G).bind fun k G1 => if k then a l G1 else b l G1
def dNil : DA := fun _ G => .ok [] G
def dCons (a : DE) (r : DA) : DA := fun l G => (a l G).bind fun x G1 => (r l G1).bind fun xs G2 => .ok (x :: xs) G2
def dTup (a : DA) : DE := fun l G => (a l G).bind fun xs G1 => if xs.length ≤ sizeLine then .ok (.tup xs) G1 else .bad
def dLst (a : DA) : DE := fun l G => (a l G).bind fun xs G1 => if xs.length ≤ sizeLine then newO (.lst xs) G1 else .bad
def dCall (cf : CF) (k : Nat) (a : DA) : DE := fun l G => (a l G).bind fun xs G1 => cf k xs G1
/-- a built-in function -/
def dFn (f : List Z → GH → R Z) (a : DA) : DE := fun l G => (a l G).bind f
def dIx (a b : DE) : DE := fun l G => (a l G).bind fun x G1 => (b l G1).bind fun y G2 => zIx x y G2
def dNoPart : L → GH → R (Option Int) := fun _ G => .ok none G
def dPart (a : DE) : L → GH → R (Option Int) := fun l G => (a l G).bind fun x G1 => match x with
  | .int i => .ok (some i) G1
  | _ => .bad
def dSlc (a : DE) (lo hi : L → GH → R (Option Int)) : DE := fun l G => (a l G).bind fun x G1 => (lo l G1).bind fun i G2 => (hi l G2).bind fun j G3 => zSlc x i j G3

section
variable {X : Cx} {c : C} {W : WX} {a b : Expr} {da db : DE} {pos : Pos}
theorem se_var {i : Nat} {x : Str} (hN : X.N[i]? = some x) (hv : Vis X.env.scope x) (hd : (x == ("__debug__" : Str)) = false) (hcd : (x == ("__classdict__" : Str)) = false) : PE X (.Name x pos) (tE c W (dVar i)) :=
  (pe_var hN hv hd hcd).weak fun σ H Q ⟨ρ, G, l, R, hl, q⟩ => by
    unfold dVar at q
    split at q
    · exact q.elim
    · rename_i z hz e
      obtain ⟨v, h1, h2⟩ := hl.at_ _ _ e
      refine ⟨v, h1, q.here R (h2.resolve_right fun h => ?_)⟩
      obtain ⟨rfl, _⟩ := h
      first | exact hz rfl | exact hz _ rfl
    · exact q.elim
theorem se_int {i : Int} {j : Nat} : PE X (.Constant (.int i) j pos) (tE c W (dC (.int i))) := pe_int.weak fun σ H Q ⟨ρ, G, l, R, hl, q⟩ => RQ.here (show RQ c (RZ c) ρ H (.ok (.int i) G) Q _ from q) R rz_int
theorem se_bl {i : Bool} {j : Nat} : PE X (.Constant (.bool i) j pos) (tE c W (dC (.bl i))) := pe_bl.weak fun σ H Q ⟨ρ, G, l, R, hl, q⟩ => RQ.here (show RQ c (RZ c) ρ H (.ok (.bl i) G) Q _ from q) R rz_bl
theorem se_non {j : Nat} : PE X (.Constant .none j pos) (tE c W (dC .non)) := pe_non.weak fun σ H Q ⟨ρ, G, l, R, hl, q⟩ => RQ.here (show RQ c (RZ c) ρ H (.ok .non G) Q _ from q) R rz_non
theorem se_str {x : Str} {j : Nat} (h : x.length ≤ sizeLine) : PE X (.Constant (.str x) j pos) (tE c W (dC (.str x.cps.toList))) := pe_str.weak fun σ H Q ⟨ρ, G, l, R, hl, q⟩ => by
  have e : x = ⟨x.cps.toList.toArray⟩ := by cases x; simp
  have h' : x.cps.toList.length ≤ sizeLine := by rw [Array.length_toList]; exact h
  show Q (.str x) H
  rw [e]
  exact RQ.here (show RQ c (RZ c) ρ H (.ok (.str x.cps.toList) G) Q _ from q) R (rz_str h')
theorem se_bin (hK : c.K = X.K) {op : Operator} (ha : PE X a (tE c W da)) (hb : PE X b (tE c W db)) : PE X (.BinOp a op b pos) (tE c W (dBin op da db)) :=
  (pe_op (opz_bin hK op) ha hb).weak fun σ H Q ⟨ρ, G, l, R, hl, q⟩ =>
    tE.bind R hl q fun ρ1 H1 G1 x v e1 R1 l1 r1 q1 => tE.bind R1 l1 q1 fun ρ2 H2 G2 y w e2 R2 l2 r2 q2 => ⟨_, ρ2, G2, x, y, R2, r1.mono e2, r2, q2⟩
theorem se_cmp (hK : c.K = X.K) (hu : X.A.units + 60 < cLine) {op : CmpOp} (ha : PE X a (tE c W da)) (hb : PE X b (tE c W db)) (hm : behindInMarks op b = false) : PE X (.Compare a [op] [b] pos) (tE c W (dCmp op da db)) :=
  (pe_cmpR (cmpz hK hu op) ha hb hm).weak fun σ H Q ⟨ρ, G, l, R, hl, q⟩ =>
    tE.bind R hl q fun ρ1 H1 G1 x v e1 R1 l1 r1 q1 => tE.bind R1 l1 q1 fun ρ2 H2 G2 y w e2 R2 l2 r2 q2 => ⟨_, ρ2, G2, x, y, R2, r1.mono e2, r2, q2⟩
theorem st_cmp (hK : c.K = X.K) (hu : X.A.units + 60 < cLine) {op : CmpOp} (ha : PE X a (tE c W da)) (hb : PE X b (tE c W db)) (hm : behindInMarks op b = false) : PT X (.Compare a [op] [b] pos) (tT c W (uB (dCmp op da db))) :=
  (pt_cmpR (cmpz hK hu op) ha hb hm).weak fun σ H Q ⟨ρ, G, l, R, hl, q⟩ => by
    have q' : RQ c rB ρ H ((da l G).bind fun x G1 => (db l G1).bind fun y G2 => (zCmp op x y G2).bind fun x G1 => match x with | .bl b => .ok b G1 | _ => .bad) Q (atW W σ) := by
      have e : ∀ r : Zy.R Z, ((r.bind fun x G1 => (db l G1).bind fun y G2 => zCmp op x y G2).bind fun x G1 => match x with | .bl b => Zy.R.ok b G1 | _ => .bad) = r.bind fun x G1 => (db l G1).bind fun y G2 => (zCmp op x y G2).bind fun x G1 => match x with | .bl b => .ok b G1 | _ => .bad := by
        intro r
        cases r with
        | bad => rfl
        | exc => rfl
        | ok z G1 =>
          simp only [Zy.R.bind_ok]
          cases db l G1 <;> rfl
      rw [← e]; exact q
    refine tE.bind R hl q' fun ρ1 H1 G1 x v e1 R1 l1 r1 q1 => tE.bind R1 l1 q1 fun ρ2 H2 G2 y w e2 R2 l2 r2 q2 => ?_
    refine ⟨atW W σ, ρ2, G2, x, y, R2, r1.mono e2, r2, ?_⟩
    refine RQ.imp (RQ.bind (rel := RZ c) q2) (fun v' H3 ⟨ρ3, G3, z, e3, R3, rz, q3⟩ => ?_) fun _ _ _ h => h
    cases z with
    | bl k => exact ⟨k, un_bl rz, (show RQ c rB ρ3 H3 (.ok k G3) Q _ from q3) ρ3 H3 k (Ext.refl _ _) R3 rfl⟩
    | _ => exact q3.elim
theorem chn_weak {o1 o2 : CmpOp} {dc : DE} : ∀ (σ : L2.St) (H : Hp) (Q : VK), tE c W (dChn o1 o2 da db dc) σ H Q → tChain (rz2 c (zCmp o1)) (rz2 c (zCmp o2)) (tE c W da) (tE c W db) (tE c W dc) σ H Q := fun σ H Q ⟨ρ, G, l, R, hl, q⟩ => by
    refine tE.bind R hl q fun ρ1 H1 G1 x v e1 R1 l1 r1 q1 => tE.bind R1 l1 q1 fun ρ2 H2 G2 y w e2 R2 l2 r2 q2 => ?_
    refine ⟨atW W σ, ρ2, G2, x, y, R2, r1.mono e2, r2, ?_⟩
    refine RQ.imp (RQ.bind (rel := RZ c) q2) (fun v' H3 ⟨ρ3, G3, z, e3, R3, rz, q3⟩ => ?_) fun _ _ _ h => h
    cases z with
    | bl k =>
      refine ⟨k, un_bl rz, ?_⟩
      cases k with
      | true =>
        rw [if_pos rfl]
        exact tE.bind R3 (l2.mono e3) (show RQ c (RZ c) ρ3 H3 ((dc l G3).bind fun z G4 => zCmp o2 y z G4) Q (atW W σ) from q3) fun ρ4 H4 G4 z' v4 e4 R4 l4 r4 q4 => ⟨_, ρ4, G4, y, z', R4, (r2.mono e3).mono e4, r4, q4⟩
      | false =>
        rw [if_neg Bool.false_ne_true]
        have q4 : RQ c (RZ c) ρ3 H3 (.ok (.bl false) G3) Q (atW W σ) := q3
        exact q4.here R3 rz_bl
    | _ => exact q3.elim
theorem se_chn (hK : c.K = X.K) (hu : X.A.units + 60 < cLine) {o1 o2 : CmpOp} {e : Expr} {dc : DE} (ha : PE X a (tE c W da)) (hb : PE X b (tE c W db)) (hc : PE X e (tE c W dc)) (hm : lastMarks [o1, o2] [b, e] = false) :
    PE X (.Compare a [o1, o2] [b, e] pos) (tE c W (dChn o1 o2 da db dc)) :=
  (pe_chain (cmpz hK hu o1) (cmpz hK hu o2) ha hb hc hm).weak chn_weak
theorem st_chn (hK : c.K = X.K) (hu : X.A.units + 60 < cLine) {o1 o2 : CmpOp} {e : Expr} {dc : DE} (ha : PE X a (tE c W da)) (hb : PE X b (tE c W db)) (hc : PE X e (tE c W dc)) (hm : lastMarks [o1, o2] [b, e] = false) :
    PT X (.Compare a [o1, o2] [b, e] pos) (tT c W (uB (dChn o1 o2 da db dc))) :=
  (pt_chain (cmpz hK hu o1) (cmpz hK hu o2) ha hb hc hm).weak fun σ H Q ⟨ρ, G, l, R, hl, q⟩ => by
    refine chn_weak σ H _ ⟨ρ, G, l, R, hl, ?_⟩
    have q' : RQ c rB ρ H (uB (dChn o1 o2 da db dc) l G) Q (atW W σ) := q
    unfold uB at q'
    cases hd : dChn o1 o2 da db dc l G with
    | bad => rw [hd] at q'; exact q'
    | exc x G1 => rw [hd] at q'; exact q'
    | ok z G1 =>
      rw [hd] at q'
      cases z with
      | bl k => exact fun ρ1 H1 v e1 R1 rz => ⟨k, un_bl rz, (show RQ c rB ρ H (.ok k G1) Q _ from q') ρ1 H1 k e1 R1 rfl⟩
      | _ => exact q'.elim
theorem se_neg (ha : PE X a (tE c W da)) : PE X (.UnaryOp .USub a pos) (tE c W (dNeg da)) :=
  (pe_un un_neg ha).weak fun σ H Q ⟨ρ, G, l, R, hl, q⟩ => tE.bind R hl q fun ρ1 H1 G1 x v e1 R1 l1 r1 q1 => by
    cases x <;> (try exact q1.elim)
    rename_i i
    cases un_int r1
    exact ⟨_, rfl, RQ.here (show RQ c (RZ c) ρ1 H1 (.ok (.int (-i)) G1) Q _ from q1) R1 rz_int⟩
/-- by the truth of a value -/
theorem truD_cases {α β : Type} {rel : List Addr → Hp → α → β → Prop} (hK : c.K = X.K) {ρ : List Addr} {H : Hp} {G : GH} {x : Z} {v : V} {f : Bool → R α} {Q : β → Hp → Prop} {W' : QW} (R1 : Rel c ρ H G) (r : RZ c ρ H x v) (q : RQ c rel ρ H (truD x G f) Q W') :
    ∃ b, TruV X.K v H b ∧ RQ c rel ρ H (f b) Q W' := by
  unfold truD at q
  cases e : zTru G x with
  | none => rw [e] at q; exact q.elim
  | some b => rw [e] at q; exact ⟨b, zTru_sound hK R1 r e, q⟩
theorem se_not (hK : c.K = X.K) (ha : PE X a (tE c W da)) : PE X (.UnaryOp .Not a pos) (tE c W (dNot da)) :=
  (pe_notT ha).weak fun σ H Q ⟨ρ, G, l, R, hl, q⟩ => tE.bind R hl q fun ρ1 H1 G1 x v e1 R1 l1 r1 q1 => by
    obtain ⟨k, h1, q2⟩ := truD_cases hK R1 r1 q1
    exact ⟨k, h1, q2.here R1 rz_bl⟩
theorem se_and {rest : List Expr} (hK : c.K = X.K) (ha : PE X a (tE c W da)) (hb : PE X (.BoolOp .And (b :: rest) pos) (tE c W db)) : PE X (.BoolOp .And (a :: b :: rest) pos) (tE c W (dAnd da db)) :=
  (pe_andT ha hb).weak fun σ H Q ⟨ρ, G, l, R, hl, q⟩ => tE.bind R hl q fun ρ1 H1 G1 x v e1 R1 l1 r1 q1 => by
    obtain ⟨k, h1, q2⟩ := truD_cases hK R1 r1 q1
    refine ⟨k, h1, ?_⟩
    cases k with
    | true => rw [if_pos rfl]; exact ⟨ρ1, G1, l, R1, l1, q2⟩
    | false => rw [if_neg Bool.false_ne_true]; exact RQ.here (show RQ c (RZ c) ρ1 H1 (.ok x G1) Q _ from q2) R1 r1
theorem se_or {rest : List Expr} (hK : c.K = X.K) (ha : PE X a (tE c W da)) (hb : PE X (.BoolOp .Or (b :: rest) pos) (tE c W db)) : PE X (.BoolOp .Or (a :: b :: rest) pos) (tE c W (dOr da db)) :=
  (pe_orT ha hb).weak fun σ H Q ⟨ρ, G, l, R, hl, q⟩ => tE.bind R hl q fun ρ1 H1 G1 x v e1 R1 l1 r1 q1 => by
    obtain ⟨k, h1, q2⟩ := truD_cases hK R1 r1 q1
    refine ⟨k, h1, ?_⟩
    cases k with
    | false => exact ⟨ρ1, G1, l, R1, l1, q2⟩
    | true => exact RQ.here (show RQ c (RZ c) ρ1 H1 (.ok x G1) Q _ from q2) R1 r1
theorem se_one {op : BoolOp} (ha : PE X a (tE c W da)) : PE X (.BoolOp op [a] pos) (tE c W da) := pe_one ha
variable {ta tb : DT}
theorem st_tru (hK : c.K = X.K) (ha : PE X a (tE c W da)) (he : ∀ whole, isTrue a X.env whole = (do let v ← whole; standAt a.pos; holding [v] (truthy v))) : PT X a (tT c W (dTru da)) :=
  (pt_truth ha he).weak fun σ H Q ⟨ρ, G, l, R, hl, q⟩ => tE.bind R hl q fun ρ1 H1 G1 x v e1 R1 l1 r1 q1 => by
    obtain ⟨k, h1, q2⟩ := truD_cases hK R1 r1 q1
    exact ⟨k, h1, q2 ρ1 H1 k (Ext.refl _ _) R1 rfl⟩
theorem st_and1 (ha : PT X a (tT c W ta)) : PW X (.BoolOp .And [a] pos) (tT c W ta) := pw_and1 ha
theorem st_or1 (ha : PT X a (tT c W ta)) : PW X (.BoolOp .Or [a] pos) (tT c W ta) := pw_or1 ha
theorem _root_.L2.PW.weak {e : Expr} {t t' : TT} (h : PW X e t) (w : ∀ σ H Q, t' σ H Q → t σ H Q) : PW X e t' := ⟨fun wh pins s σ H Q I q => h.run wh pins s σ H Q I (w σ H Q q)⟩
theorem st_and {rest : List Expr} (ha : PT X a (tT c W ta)) (hb : PW X (.BoolOp .And (b :: rest) pos) (tT c W tb)) : PW X (.BoolOp .And (a :: b :: rest) pos) (tT c W (uAnd ta tb)) :=
  (pw_and ha hb).weak fun σ H Q ⟨ρ, G, l, R, hl, q⟩ => tT.bind R hl q fun ρ1 H1 G1 k e1 R1 l1 q1 => by
    cases k with
    | true => rw [if_pos rfl]; exact ⟨ρ1, G1, l, R1, l1, q1⟩
    | false => rw [if_neg Bool.false_ne_true]; exact (show RQ c rB ρ1 H1 (.ok false G1) Q _ from q1) ρ1 H1 false (Ext.refl _ _) R1 rfl
theorem st_or {rest : List Expr} (ha : PT X a (tT c W ta)) (hb : PW X (.BoolOp .Or (b :: rest) pos) (tT c W tb)) : PW X (.BoolOp .Or (a :: b :: rest) pos) (tT c W (uOr ta tb)) :=
  (pw_or ha hb).weak fun σ H Q ⟨ρ, G, l, R, hl, q⟩ => tT.bind R hl q fun ρ1 H1 G1 k e1 R1 l1 q1 => by
    cases k with
    | true => rw [if_pos rfl]; exact (show RQ c rB ρ1 H1 (.ok true G1) Q _ from q1) ρ1 H1 true (Ext.refl _ _) R1 rfl
    | false => rw [if_neg Bool.false_ne_true]; exact ⟨ρ1, G1, l, R1, l1, q1⟩
theorem st_not (ha : PT X a (tT c W ta)) : PT X (.UnaryOp .Not a pos) (tT c W (uNot ta)) :=
  (pt_not ha).weak fun σ H Q ⟨ρ, G, l, R, hl, q⟩ => tT.bind R hl q fun ρ1 H1 G1 k e1 R1 l1 q1 => q1 ρ1 H1 (!k) (Ext.refl _ _) R1 rfl
theorem se_if {e : Expr} (ht : PT X e (tT c W ta)) (ha : PE X a (tE c W da)) (hb : PE X b (tE c W db)) : PE X (.IfExp e a b pos) (tE c W (dIf ta da db)) :=
  (pe_ifExp ht ha hb).weak fun σ H Q ⟨ρ, G, l, R, hl, q⟩ => tT.bind R hl q fun ρ1 H1 G1 k e1 R1 l1 q1 => by
    cases k with
    | true => rw [if_pos rfl]; exact ⟨ρ1, G1, l, R1, l1, q1⟩
    | false => rw [if_neg Bool.false_ne_true]; exact ⟨ρ1, G1, l, R1, l1, q1⟩
variable {es : List Expr} {ds : DA}
theorem sa_nil : PA X [] (tA c W dNil) := pa_nil.weak fun σ H Q ⟨ρ, G, l, R, hl, q⟩ => (show RQ c (RZs c) ρ H (.ok [] G) Q _ from q) ρ H [] (Ext.refl _ _) R .nil
theorem sa_cons (ha : PE X a (tE c W da)) (hr : PA X es (tA c W ds)) (hs : starEach (a :: es) X.env = (false, eval a X.env) :: starEach es X.env) : PA X (a :: es) (tA c W (dCons da ds)) :=
  (pa_cons ha hr hs).weak fun σ H Q ⟨ρ, G, l, R, hl, q⟩ => tE.bind R hl q fun ρ1 H1 G1 x v e1 R1 l1 r1 q1 => tA.bind R1 l1 q1 fun ρ2 H2 G2 y w e2 R2 l2 r2 q2 =>
    (show RQ c (RZs c) ρ2 H2 (.ok (x :: y) G2) Q _ from q2) ρ2 H2 _ (Ext.refl _ _) R2 (.cons (r1.mono e2) r2)
theorem se_tup {k : Nat} (h : PA X es (tA c W ds)) : PE X (.Tuple es k pos) (tE c W (dTup ds)) :=
  (pe_tup h).weak fun σ H Q ⟨ρ, G, l, R, hl, q⟩ => tA.bind R hl q fun ρ1 H1 G1 x v e1 R1 l1 r1 q1 => by
    split at q1
    · rename_i hz
      exact ⟨by rw [← r1.length]; exact hz, q1.newTup R1 r1⟩
    · exact q1.elim
theorem se_lst (h : PA X es (tA c W ds)) : PE X (.List es pos) (tE c W (dLst ds)) :=
  (pe_lst h).weak fun σ H Q ⟨ρ, G, l, R, hl, q⟩ => tA.bind R hl q fun ρ1 H1 G1 x v e1 R1 l1 r1 q1 => by
    split at q1
    · rename_i hz
      exact ⟨by rw [← r1.length]; exact hz, q1.newLst R1 r1⟩
    · exact q1.elim
theorem se_ix (hK : c.K = X.K) (ha : PE X a (tE c W da)) (hb : PE X b (tE c W db)) (hs : PlainIx b) : PE X (.Subscript a b pos) (tE c W (dIx da db)) :=
  (pe_ix (ixz hK) ha hb hs).weak fun σ H Q ⟨ρ, G, l, R, hl, q⟩ =>
    tE.bind R hl q fun ρ1 H1 G1 x v e1 R1 l1 r1 q1 => tE.bind R1 l1 q1 fun ρ2 H2 G2 y w e2 R2 l2 r2 q2 => ⟨_, ρ2, G2, x, y, R2, r1.mono e2, r2, q2⟩
def rOI (ρ : List Addr) (H : Hp) (b : Option Int) (b' : Option Int) : Prop := b' = b
def tOI (c : C) (W : WX) (d : L → GH → R (Option Int)) : TO := fun σ H Q => ∃ ρ G l, Rel c ρ H G ∧ RL c ρ H l σ ∧ RQ c rOI ρ H (d l G) Q (atW W σ)
theorem _root_.L2.PO.weak {e : Option Expr} {t t' : TO} (h : PO X e t) (w : ∀ σ H Q, t' σ H Q → t σ H Q) : PO X e t' := ⟨fun pins s σ H Q I q => h.run pins s σ H Q I (w σ H Q q)⟩
theorem so_none : PO X none (tOI c W dNoPart) := po_none.weak fun σ H Q ⟨ρ, G, l, R, hl, q⟩ => (show RQ c rOI ρ H (.ok none G) Q _ from q) ρ H none (Ext.refl _ _) R rfl
theorem so_some (ha : PE X a (tE c W da)) : PO X (some a) (tOI c W (dPart da)) := (po_some ha).weak fun σ H Q ⟨ρ, G, l, R, hl, q⟩ => tE.bind R hl q fun ρ1 H1 G1 x v e1 R1 l1 r1 q1 => by
  cases x <;> (try exact q1.elim)
  rename_i i
  exact ⟨i, un_int r1, (show RQ c rOI ρ1 H1 (.ok (some i) G1) Q _ from q1) ρ1 H1 _ (Ext.refl _ _) R1 rfl⟩
theorem tOI.bind {β δ : Type} {rel : List Addr → Hp → β → δ → Prop} {ρ : List Addr} {H : Hp} {G : GH} {l : L} {σ : L2.St} {d : L → GH → R (Option Int)} {f : Option Int → GH → R β} {Q : δ → Hp → Prop} {Q' : Option Int → Hp → Prop} (R1 : Rel c ρ H G) (hl : RL c ρ H l σ) (q : RQ c rel ρ H ((d l G).bind f) Q (atW W σ))
    (k : ∀ ρ1 H1 G1 b, Ext ρ H ρ1 H1 → Rel c ρ1 H1 G1 → RL c ρ1 H1 l σ → RQ c rel ρ1 H1 (f b G1) Q (atW W σ) → Q' b H1) : tOI c W d σ H Q' :=
  ⟨ρ, G, l, R1, hl, RQ.imp (RQ.bind (rel := rOI) q) (fun v H1 ⟨ρ1, G1, z, e, r1, rz, q1⟩ => by rw [show v = z from rz]; exact k ρ1 H1 G1 z e r1 (hl.mono e) q1) fun _ _ _ h => h⟩
theorem se_slc (hK : c.K = X.K) {lo hi : Option Expr} {dl dh : L → GH → R (Option Int)} {p2 : Pos} (ha : PE X a (tE c W da)) (h1 : PO X lo (tOI c W dl)) (h2 : PO X hi (tOI c W dh)) : PE X (.Subscript a (.Slice lo hi none p2) pos) (tE c W (dSlc da dl dh)) :=
  (pe_slice (slz hK) ha h1 h2).weak fun σ H Q ⟨ρ, G, l, R, hl, q⟩ =>
    tE.bind R hl q fun ρ1 H1 G1 x v e1 R1 l1 r1 q1 => tOI.bind R1 l1 q1 fun ρ2 H2 G2 i e2 R2 l2 q2 => tOI.bind R2 l2 q2 fun ρ3 H3 G3 j e3 R3 l3 q3 => ⟨_, ρ3, G3, x, R3, (r1.mono e2).mono e3, q3⟩

/-! ### calls -/
def spR (c : C) (g : List Z → GH → R Z) : Sp := fun vs H Q E => ∃ ρ G zs, Rel c ρ H G ∧ RZs c ρ H zs vs ∧ RQ c (RZ c) ρ H (g zs G) Q E
theorem run_fnRσ {pins : List (Addr × Obj)} {σ : L2.St} {H : Hp} {s : Shared} {CX : CXT} {k : Nat} {f : Addr} {sp : Sp} {E : XK} {Q : VK} {us : List Value} {vs : List V} (F : FnR X.prog X.w X.K X.mg X.base CX k f sp) (hr : Room k X.A) (hx : PassesAt CX X σ E) (I : Inv X pins σ H s) (r : Vals vs us) (h : sp vs H Q E) :
    wpAny (model X.prog X.w) X.A (call (.ref f) us) (EP X pins σ Q) X.xe s := by
  refine wpAny_call (codeAny_mono (F X.A X.stack s H us vs Q E hr I.env0 r h) fun r s' hq => ?_)
  cases r with
  | error e => exact hx pins H s e s' I hq
  | ok fl =>
    cases fl with
    | ret u => exact I.after hq
    | next => exact False.elim hq
    | brk => exact False.elim hq
    | cont => exact False.elim hq
theorem se_call0 {x : Str} {p : Pos} {cf : CF} {k d : Nat} (F : FnR X.prog X.w X.K X.mg X.base (L2.CX X.prog X.w) d (c.fa k) (spR c (cf k))) (hr : Room d X.A) (tk : Takes X W) (hg : Gl X x) (hm : X.mg x = some (.ref (c.fa k))) (hk : PySem.W.keepIn X.K (.ref (c.fa k)) = true)
    (hdb : (x == ("__debug__" : Str)) = false) : PE X (.Call (.Name x p) [] [] pos) (tE c W (dCall cf k dNil)) := by
  refine ⟨fun pins s σ H Q I ⟨ρ, G, l, R, hl, q⟩ => ?_⟩
  refine wpAny_Call_Name_kw (ld_glob I hg hm ?_ hdb)
  exact PySem.W.callWith_K0 I.kIn hk (run_fnRσ (us := []) (E := atW W σ) F hr (passAt tk σ) I .nil ⟨ρ, G, [], R, .nil, q⟩)
theorem se_call {x : Str} {p : Pos} {e : Expr} {cf : CF} {k d : Nat} (F : FnR X.prog X.w X.K X.mg X.base (L2.CX X.prog X.w) d (c.fa k) (spR c (cf k))) (hr : Room d X.A) (tk : Takes X W) (hg : Gl X x) (hm : X.mg x = some (.ref (c.fa k))) (hk : PySem.W.keepIn X.K (.ref (c.fa k)) = true)
    (ha : PA X (e :: es) (tA c W ds)) (hdb : (x == ("__debug__" : Str)) = false) (he : starEach (e :: es) X.env = (false, eval e X.env) :: starEach es X.env) (hpl : (backTo pos (starEach es X.env)).any (·.1) = false) : PE X (.Call (.Name x p) (e :: es) [] pos) (tE c W (dCall cf k ds)) := by
  refine ⟨fun pins s σ H Q I ⟨ρ, G, l, R, hl, q⟩ => ?_⟩
  refine wpAny_Call_Name_kw (ld_glob I hg hm ?_ hdb)
  have h0 := ha.run pos pins s σ H (fun vs H1 => spR c (cf k) vs H1 Q (atW W σ)) I (tA.bind R hl q fun ρ1 H1 G1 z v e R1 l1 r1 q1 => ⟨ρ1, G1, z, R1, r1, q1⟩)
  exact PySem.W.callWith_K (h₀ := X.base) I.ok.mod.kin hk (thn h0 fun us s1 ⟨vs, H1, I1, r, q⟩ => ⟨I1.kIn, run_fnRσ F hr (passAt tk σ) I1 r q⟩) he hpl
theorem starEach_plain (env : Env) : ∀ {e : Expr} {es : List Expr}, (∀ a p, e ≠ .Starred a p) → starEach (e :: es) env = (false, eval e env) :: starEach es env := by
  intro e es h
  cases e with
  | Starred a p => exact absurd rfl (h a p)
  | _ => rfl
theorem starEach_none (env : Env) (pos : Pos) : ∀ {es : List Expr}, (∀ e ∈ es, ∀ a p, e ≠ .Starred a p) → (backTo pos (starEach es env)).any (·.1) = false
  | [], _ => rfl
  | e :: es, h => by
    rw [starEach_plain env (h e List.mem_cons_self)]
    have := starEach_none env pos (es := es) fun x hx => h x (List.mem_cons_of_mem _ hx)
    simpa [backTo] using this
/-- a built-in function by its name -/
theorem se_callB {x : Str} {p : Pos} {e : Expr} {id : String} {g : List Z → GH → Zy.R Z} (hc : CallR X (.builtin id) (rzs c g)) (hg : Gl X x) (hm : X.mg x = none) (hv : bootBuiltins x = some (.builtin id)) (ha : PA X (e :: es) (tA c W ds)) (hn : x ≠ "__name__") (hdb : (x == ("__debug__" : Str)) = false)
    (he : starEach (e :: es) X.env = (false, eval e X.env) :: starEach es X.env) (hpl : (backTo pos (starEach es X.env)).any (·.1) = false) : PE X (.Call (.Name x p) (e :: es) [] pos) (tE c W (dFn g ds)) :=
  (pe_callB hc hg hm hv ha hn hdb he hpl).weak fun σ H Q ⟨ρ, G, l, R, hl, q⟩ => tA.bind R hl q fun ρ1 H1 G1 z v e1 R1 l1 r1 q1 => ⟨_, ρ1, G1, z, R1, r1, q1⟩
theorem se_callTy {x : Str} {p : Pos} {e : Expr} {id : String} {g : List Z → GH → Zy.R Z} (hc : CallR X (.type id) (rzs c g)) (hg : Gl X x) (hm : X.mg x = none) (hv : bootBuiltins x = some (.type id)) (ha : PA X (e :: es) (tA c W ds)) (hn : x ≠ "__name__") (hdb : (x == ("__debug__" : Str)) = false)
    (he : starEach (e :: es) X.env = (false, eval e X.env) :: starEach es X.env) (hpl : (backTo pos (starEach es X.env)).any (·.1) = false) : PE X (.Call (.Name x p) (e :: es) [] pos) (tE c W (dFn g ds)) :=
  (pe_callTy hc hg hm hv ha hn hdb he hpl).weak fun σ H Q ⟨ρ, G, l, R, hl, q⟩ => tA.bind R hl q fun ρ1 H1 G1 z v e1 R1 l1 r1 q1 => ⟨_, ρ1, G1, z, R1, r1, q1⟩
/-- a global name's value -/
theorem se_glob {x : Str} {p : Pos} {z : Z} {v : V} {u : Value} (hg : Gl X x) (hm : X.mg x = some u) (r : RelV v u) (rz : ∀ ρ H, RZ c ρ H z v) (hd : (x == ("__debug__" : Str)) = false) : PE X (.Name x p) (tE c W (dC z)) :=
  (pe_glob hg hm r hd).weak fun σ H Q ⟨ρ, G, l, R, hl, q⟩ => RQ.here (show RQ c (RZ c) ρ H (.ok z G) Q _ from q) R (rz ρ H)
theorem se_ty {x : Str} {p : Pos} {n : String} (hg : Gl X x) (hm : X.mg x = none) (hv : bootBuiltins x = some (.type n)) (hn : x ≠ "__name__") (hd : (x == ("__debug__" : Str)) = false) : PE X (.Name x p) (tE c W (dC (.ty n))) :=
  (pe_bltn (v := .ty n) hg hm hv rfl hn hd).weak fun σ H Q ⟨ρ, G, l, R, hl, q⟩ => RQ.here (show RQ c (RZ c) ρ H (.ok (.ty n) G) Q _ from q) R (by unfold RZ; rfl)
end
end Zy
end
section
set_option Elab.async false
set_option linter.all false
set_option maxRecDepth 100000
set_option maxHeartbeats 4000000
set_option autoImplicit false
/-! methods of lists and texts -/
namespace Zy
open PySem PySem.Spec PyProof.Rows L2
open PySem.SeqAt (RcAt EqAt RcOp firstLt)

abbrev MF := String → Z → List Z → GH → R Z
/-- the built-in type of a receiver -/
def recvT (G : GH) : Z → Option String
  | .str _ => some "str"
  | .rol _ => some "list"
  | .ref n => (lstAt G n).map fun _ => "list"
  | _ => none
def dMth (m : MF) (ts : List String) (o : DE) (a : DA) : DE := fun l G => (o l G).bind fun x G1 => match recvT G1 x with
  | some T => if ts.contains T then (a l G1).bind fun xs G2 => m T x xs G2 else .bad
  | none => .bad
section
variable {X : Cx} {c : C} {W : WX}
theorem recvT_sound (hK : c.K = X.K) {pins : List (Addr × Obj)} {σ : L2.St} {H : Hp} {s : Shared} {ρ : List Addr} {G : GH} (I : Inv X pins σ H s) (R : Rel c ρ H G) {x : Z} {v : V} {u : Value} (r : RZ c ρ H x v) (rv : RelV v u) {T : String} (e : recvT G x = some T) :
    (T = "str" ∨ T = "list") ∧ s.TypeIs u T ∧ ∀ a, u = .ref a → ∃ ob, s.heap.get? a = some ob ∧ ob.dict = none := by
  cases x with
  | str y => cases e; obtain ⟨_, rfl⟩ := un_str r; exact ⟨.inl rfl, tyV_is I rv (T := "str") rfl⟩
  | rol xs =>
    cases e
    unfold RZ at r
    obtain ⟨a, vs, rfl, h1, h2⟩ := r
    exact ⟨.inr rfl, tyV_is I rv (T := "list") (.inl ⟨rfl, vs, hK ▸ h1.seq⟩)⟩
  | ref n =>
    obtain ⟨xs, h, rfl⟩ := Option.map_eq_some_iff.mp (show (lstAt G n).map (fun _ => "list") = some T from e)
    obtain ⟨a, ha, rfl⟩ := un_ref r
    obtain ⟨vs, h1, h2⟩ := R.lstAt h ha
    exact ⟨.inr rfl, tyV_is I rv (T := "list") (.inl ⟨rfl, vs, SqL.of h1⟩)⟩
  | _ => cases e
/-- a method of a type, by values -/
def rzm (c : C) (g : Z → List Z → GH → R Z) : V → List V → Hp → VK → Prop := fun x xs H Q => ∃ W : QW, ∃ ρ G zx zs, Rel c ρ H G ∧ RZ c ρ H zx x ∧ RZs c ρ H zs xs ∧ RQ c (RZ c) ρ H (g zx zs G) Q W
/-- what the method `name` is at the receivers of type T -/
def MthOk (X : Cx) (c : C) (T : String) (name : Str) (g : Z → List Z → GH → R Z) : Prop :=
  ∃ id, PlainAttrs T ∧ Slot T name id ∧ typeOf (.builtin id) = pure (.type "method_descriptor") ∧ MtR X id (rzm c g)
variable {o e : Expr} {es : List Expr} {dO : DE} {ds : DA} {name : Str} {apos cpos : Pos} {m : MF}
theorem se_mth (hK : c.K = X.K) {ts : List String} (hm : ∀ T ∈ ts, MthOk X c T name (m T)) (ho : PE X o (tE c W dO)) (ha : PA X (e :: es) (tA c W ds))
    (hbase : attributeBase o name X.env (eval o X.env) = eval o X.env)
    (hfew : ((backTo cpos (starEach (e :: es) X.env)).all (fun x => !x.1) && (backToKw cpos (keywordEach [] X.env)).all (fun x => x.1.isSome)
      && decide ((e :: es).length + ([] : List Keyword).length + (if ([] : List Keyword).isEmpty then 0 else 1) < 30)) = true)
    (hline : (apos.endLine == cpos.line) = true) (hs : starEach (e :: es) X.env = (false, eval e X.env) :: starEach es X.env) (hplain : (backTo cpos (starEach es X.env)).any (·.1) = false) :
    PE X (.Call (.Attribute o name apos) (e :: es) [] cpos) (tE c W (dMth m ts dO ds)) := by
  refine ⟨fun pins s σ H Q I ⟨ρ, G, l, R, hl, q⟩ => ?_⟩
  have h0 := ho.run pins s σ H (fun v H1 => ∃ ρ1 G1 x T, Rel c ρ1 H1 G1 ∧ RL c ρ1 H1 l σ ∧ RZ c ρ1 H1 x v ∧ recvT G1 x = some T ∧ T ∈ ts ∧ RQ c (RZ c) ρ1 H1 ((ds l G1).bind fun xs G2 => m T x xs G2) Q (atW W σ)) I
    (tE.bind R hl q fun ρ1 H1 G1 x v e1 R1 l1 r1 q1 => by
      cases e : recvT G1 x with
      | none => rw [e] at q1; exact q1.elim
      | some T =>
        rw [e] at q1
        have q2 : RQ c (RZ c) ρ1 H1 (if ts.contains T then (ds l G1).bind fun xs G2 => m T x xs G2 else .bad) Q (atW W σ) := q1
        split at q2
        · rename_i hT
          exact ⟨ρ1, G1, x, T, R1, l1, r1, e, List.contains_iff_mem.mp hT, q2⟩
        · exact q2.elim)
  refine wpAny_Call_method_late hbase hfew hline rfl (thn h0 fun u s1 ⟨v, H1, I1, rv, ρ1, G1, x, T, R1, l1, r1, eT, hT, q1⟩ => ?_)
  obtain ⟨_, h1, h2⟩ := recvT_sound hK I1 R1 r1 rv eT
  obtain ⟨id, pa, slot, hty, rule⟩ := hm T hT
  refine ⟨T, id, pa, slot, hty, h1, h2, ?_⟩
  have hA := ha.run cpos pins s1 σ H1 (fun vs H2 => rzm c (m T) v vs H2 Q) I1 (tA.bind R1 l1 q1 fun ρ2 H2 G2 zs vs e2 R2 l2 r2 q2 => ⟨_, ρ2, G2, x, zs, R2, r1.mono e2, r2, q2⟩)
  rw [hs] at hA ⊢
  refine Calls.callWith_builtin (by show (false || (backTo cpos (starEach es X.env)).any (·.1)) = false; rw [hplain]; rfl) (Calls.evalArgs_plain ?_)
  exact thn hA fun us s2 ⟨vs, H2, I2, r2, q2⟩ => rule pins s2 σ H2 v vs u us Q I2 rv r2 q2
theorem se_mth0 (hK : c.K = X.K) {ts : List String} (hm : ∀ T ∈ ts, MthOk X c T name (m T)) (ho : PE X o (tE c W dO)) (hbase : attributeBase o name X.env (eval o X.env) = eval o X.env) (hline : (apos.endLine == cpos.line) = true) :
    PE X (.Call (.Attribute o name apos) [] [] cpos) (tE c W (dMth m ts dO dNil)) := by
  refine ⟨fun pins s σ H Q I ⟨ρ, G, l, R, hl, q⟩ => ?_⟩
  have h0 := ho.run pins s σ H (fun v H1 => ∃ ρ1 G1 x T, Rel c ρ1 H1 G1 ∧ RZ c ρ1 H1 x v ∧ recvT G1 x = some T ∧ T ∈ ts ∧ RQ c (RZ c) ρ1 H1 (m T x [] G1) Q (atW W σ)) I
    (tE.bind R hl q fun ρ1 H1 G1 x v e1 R1 l1 r1 q1 => by
      cases e : recvT G1 x with
      | none => rw [e] at q1; exact q1.elim
      | some T =>
        rw [e] at q1
        have q2 : RQ c (RZ c) ρ1 H1 (if ts.contains T then (dNil l G1).bind fun xs G2 => m T x xs G2 else .bad) Q (atW W σ) := q1
        split at q2
        · rename_i hT
          exact ⟨ρ1, G1, x, T, R1, r1, e, List.contains_iff_mem.mp hT, q2⟩
        · exact q2.elim)
  refine wpAny_Call_method0_late hbase hline (thn h0 fun u s1 ⟨v, H1, I1, rv, ρ1, G1, x, T, R1, r1, eT, hT, q1⟩ => ?_)
  obtain ⟨_, h1, h2⟩ := recvT_sound hK I1 R1 r1 rv eT
  obtain ⟨id, pa, slot, hty, rule⟩ := hm T hT
  exact ⟨T, id, pa, slot, hty, h1, h2, Calls.callWith_builtin rfl (PySem.evalArgs_none (rule pins s1 σ H1 v [] u [] Q I1 rv .nil ⟨_, ρ1, G1, x, [], R1, r1, .nil, q1⟩))⟩

/-! ### lists -/
def zAppend : MF := fun _ x zs G => match x, zs with
  | .ref n, [z] => match lstAt G n with
    | some xs => if xs.length < sizeLine then putO n (.lst (xs ++ [z])) .non G else .bad
    | none => .bad
  | _, _ => .bad
def zExtend : MF := fun _ x zs G => match x, zs with
  | .ref n, [.ref m] => match lstAt G n, lstAt G m with
    | some xs, some ys => if xs.length + ys.length ≤ sizeLine then putO n (.lst (xs ++ ys)) .non G else .bad
    | _, _ => .bad
  | _, _ => .bad
def zPop : MF := fun _ x zs G => match x, zs with
  | .ref n, [] => match lstAt G n with
    | some xs => match xs[xs.length - 1]? with
      | some z => putO n (.lst xs.dropLast) z G
      | none => .bad
    | none => .bad
  | .ref n, [.int i] => match lstAt G n with
    | some xs => match seqIndex? i xs.length with
      | some k => match xs[k]? with
        | some z => if decide (-(2 ^ 63) ≤ i) && decide (i < 2 ^ 63) then putO n (.lst (xs.eraseIdx k)) z G else .bad
        | none => .bad
      | none => .bad
    | none => .bad
  | _, _ => .bad
def zresB (f : Z → Option Bool) : List Z → Option (List Bool)
  | [] => some []
  | x :: xs => match f x, zresB f xs with
    | some a, some b => some (a :: b)
    | _, _ => none
def zIndex : MF := fun _ x zs G => match rdl G x, zs with
  | some xs, [z] => match zresB (fun y => zeq dep G y z) xs with
    | some bs => if bs.contains true then .ok (.int (bs.idxOf true)) G else .bad
    | none => .bad
  | _, _ => .bad
theorem mzs_nil {ρ : List Addr} {H : Hp} {vs : List V} (h : RZs c ρ H [] vs) : vs = [] := h.nil_
theorem mt_appendZ : MtR X "list.append" (rzm c (zAppend "list")) := by
  intro pins s σ H x xs v us Q I rx rxs h
  obtain ⟨W, ρ, G, zx, zs, R, hx, hz, q⟩ := h
  unfold zAppend at q
  split at q
  · rename_i n z
    obtain ⟨a, ha, rfl⟩ := un_ref hx
    obtain ⟨w, rfl, hw⟩ := hz.one
    split at q
    · rename_i ys e
      split at q
      · rename_i hl
        obtain ⟨vs, h1, h2⟩ := R.lstAt e ha
        exact mt_append pins s σ H _ _ v us Q I rx rxs ⟨a, vs, w, rfl, rfl, h1, by rw [← h2.length]; exact hl, q.putLst R ha (h2.append (.cons hw .nil)) rz_non⟩
      · exact q.elim
    · exact q.elim
  · exact q.elim
theorem mt_extendZ : MtR X "list.extend" (rzm c (zExtend "list")) := by
  intro pins s σ H x xs v us Q I rx rxs h
  obtain ⟨W, ρ, G, zx, zs, R, hx, hz, q⟩ := h
  unfold zExtend at q
  split at q
  · rename_i n m
    obtain ⟨a, ha, rfl⟩ := un_ref hx
    obtain ⟨w, rfl, hw⟩ := hz.one
    obtain ⟨b, hb, rfl⟩ := un_ref hw
    split at q
    · rename_i ys ws e1 e2
      split at q
      · rename_i hl
        obtain ⟨vs, h1, h2⟩ := R.lstAt e1 ha
        obtain ⟨vs', h3, h4⟩ := R.lstAt e2 hb
        exact mt_extend pins s σ H _ _ v us Q I rx rxs ⟨a, b, vs, vs', rfl, rfl, h1, h3, by rw [← h2.length, ← h4.length]; exact hl, q.putLst R ha (h2.append h4) rz_non⟩
      · exact q.elim
    · exact q.elim
  · exact q.elim
theorem mt_popZ : MtR X "list.pop" (rzm c (zPop "list")) := by
  intro pins s σ H x xs v us Q I rx rxs h
  obtain ⟨W, ρ, G, zx, zs, R, hx, hz, q⟩ := h
  unfold zPop at q
  split at q
  · rename_i n
    obtain ⟨a, ha, rfl⟩ := un_ref hx
    cases hz.nil_
    split at q
    · rename_i ys e
      split at q
      · rename_i z e2
        obtain ⟨vs, h1, h2⟩ := R.lstAt e ha
        obtain ⟨w, h3, h4⟩ := h2.get e2
        rw [h2.length] at h3
        exact mt_pop pins s σ H _ _ v us Q I rx rxs ⟨a, vs, w, rfl, rfl, h1, h3, q.putLst R ha h2.dropLast h4⟩
      · exact q.elim
    · exact q.elim
  · rename_i n i
    obtain ⟨a, ha, rfl⟩ := un_ref hx
    obtain ⟨w, rfl, hw⟩ := hz.one
    cases un_int hw
    split at q
    · rename_i ys e
      split at q
      · rename_i k e1
        split at q
        · rename_i z e2
          split at q
          · rename_i hb
            simp only [Bool.and_eq_true, decide_eq_true_eq] at hb
            obtain ⟨vs, h1, h2⟩ := R.lstAt e ha
            obtain ⟨w, h3, h4⟩ := h2.get e2
            exact mt_popAt pins s σ H _ _ v us Q I rx rxs ⟨a, vs, i, k, w, rfl, rfl, h1, hb.1, hb.2, by rw [← h2.length]; exact e1, h3, q.putLst R ha (h2.eraseIdx k) h4⟩
          · exact q.elim
        · exact q.elim
      · exact q.elim
    · exact q.elim
  · exact q.elim
theorem zresB_spec {f : Z → Option Bool} : ∀ {xs : List Z} {bs : List Bool}, zresB f xs = some bs → xs.length = bs.length ∧ ∀ (j : Nat) x, xs[j]? = some x → ∃ b, f x = some b ∧ bs[j]? = some b
  | [], bs, h => by unfold zresB at h; cases h; exact ⟨rfl, fun j x e => by simp at e⟩
  | x :: xs, bs, h => by
    unfold zresB at h
    split at h
    · rename_i a b e1 e2
      cases h
      obtain ⟨h1, h2⟩ := zresB_spec e2
      refine ⟨by simp [h1], fun j x' e => ?_⟩
      cases j with
      | zero => simp at e; subst e; exact ⟨a, e1, by simp⟩
      | succ j =>
        obtain ⟨b', h3, h4⟩ := h2 j x' (by simpa using e)
        exact ⟨b', h3, by simpa using h4⟩
    · cases h
theorem mt_indexZ (hK : c.K = X.K) (hu : X.A.units + 60 < cLine) : MtR X "list.index" (rzm c (zIndex "list")) := by
  intro pins s σ H x xs v us Q I rx rxs h
  obtain ⟨W, ρ, G, zx, zs, R, hx, hz, q⟩ := h
  unfold zIndex at q
  split at q
  · rename_i ys z e
    obtain ⟨w, rfl, hw⟩ := hz.one
    obtain ⟨a, vs, rfl, h1, h2⟩ := rdl_sound R hx e
    obtain ⟨us', g1, g2, g3⟩ := I.list (hK ▸ h1)
    obtain ⟨u, rfl, ru⟩ := vals1 rxs
    cases rx
    split at q
    · rename_i bs e2
      split at q
      · rename_i hb
        obtain ⟨l1, l2⟩ := zresB_spec e2
        have hlen : us'.length = bs.length := g1.length.symm.trans (h2.length.symm.trans l1)
        refine SeqAt.call_list_index (vs := us') (ks := bs) (k := true) g2.isList ⟨hlen, fun j j1 j2 => ?_⟩ (by rw [← hlen, ← g1.length]; exact g3) (List.contains_iff_mem.mp hb) ⟨.int (bs.idxOf true), H, I.tok _, ⟨_, rfl⟩, q.here R rz_int⟩
        have q1 : ys[j]? = some ys[j] := List.getElem?_eq_getElem (by omega)
        obtain ⟨b, f1, f2⟩ := l2 j _ q1
        obtain ⟨v1, p1, p2⟩ := h2.get q1
        obtain ⟨u1, p3, p4⟩ := g1.get p1
        have e3 : us'[j] = u1 := by rw [List.getElem?_eq_getElem j1] at p3; exact Option.some.inj p3
        have e4 : bs[j] = b := by rw [List.getElem?_eq_getElem j2] at f2; exact Option.some.inj f2
        rw [e3, e4, show decide (b = true) = b by cases b <;> rfl]
        exact (zeq_at hK I R dep X.A.in1 (by show X.A.units + 1 + 40 < cLine; omega) f1 p2 hw p4 ru).2.1
      · exact q.elim
    · exact q.elim
  · exact q.elim
theorem ok_append : ∀ T ∈ ["list"], MthOk X c T "append" (zAppend T) := by
  intro T hT
  obtain rfl : T = "list" := by simpa using hT
  exact ⟨_, PySem.F.plainAttrs_list, PySem.F.slot_list_append, PySem.F.type_list_append, mt_appendZ⟩
theorem ok_extend : ∀ T ∈ ["list"], MthOk X c T "extend" (zExtend T) := by
  intro T hT
  obtain rfl : T = "list" := by simpa using hT
  exact ⟨_, PySem.F.plainAttrs_list, PySem.F.slot_list_extend, PySem.F.type_list_extend, mt_extendZ⟩
theorem ok_pop : ∀ T ∈ ["list"], MthOk X c T "pop" (zPop T) := by
  intro T hT
  obtain rfl : T = "list" := by simpa using hT
  exact ⟨_, PySem.F.plainAttrs_list, PySem.F.slot_list_pop, PySem.F.type_list_pop, mt_popZ⟩
theorem ok_index (hK : c.K = X.K) (hu : X.A.units + 60 < cLine) : ∀ T ∈ ["list"], MthOk X c T "index" (zIndex T) := by
  intro T hT
  obtain rfl : T = "list" := by simpa using hT
  exact ⟨_, PySem.F.plainAttrs_list, PySem.F.slot_list_index, PySem.F.type_list_index, mt_indexZ hK hu⟩
end
end Zy
end
section
set_option Elab.async false
set_option linter.all false
set_option maxRecDepth 100000
set_option maxHeartbeats 4000000
set_option autoImplicit false
/-! statements, loops -/
namespace Zy
open PySem PySem.Spec PyProof.Rows L2
open PySem.SeqAt (RcAt EqAt RcOp firstLt)

inductive S where
  | nx (l : L) (G : GH) | rt (z : Z) (G : GH) | bk (l : L) (G : GH) | ct (l : L) (G : GH) | exc (x : XR) (l : L) (G : GH) | bad
abbrev DS := L → GH → S
def R.st {α : Type} (r : R α) (l : L) (f : α → GH → S) : S := match r with
  | .ok a G => f a G
  | .exc x G => .exc x l G
  | .bad => .bad
@[simp] theorem R.st_ok {α : Type} (a : α) (G : GH) (l : L) (f : α → GH → S) : (R.ok a G).st l f = f a G := rfl
@[simp] theorem R.st_exc {α : Type} (x : XR) (G : GH) (l : L) (f : α → GH → S) : (R.exc x G : R α).st l f = .exc x l G := rfl
@[simp] theorem R.st_bad {α : Type} (l : L) (f : α → GH → S) : (R.bad : R α).st l f = .bad := rfl
def RS (c : C) (ρ : List Addr) (H : Hp) (r : S) (D : Ends) (W : WX) : Prop := match r with
  | .bad => False
  | .nx l G => ∀ ρ' H' σ', Ext ρ H ρ' H' → Rel c ρ' H' G → RL c ρ' H' l σ' → D.nx σ' H'
  | .bk l G => ∀ ρ' H' σ', Ext ρ H ρ' H' → Rel c ρ' H' G → RL c ρ' H' l σ' → D.bk σ' H'
  | .ct l G => ∀ ρ' H' σ', Ext ρ H ρ' H' → Rel c ρ' H' G → RL c ρ' H' l σ' → D.ct σ' H'
  | .rt z G => ∀ ρ' H' v, Ext ρ H ρ' H' → Rel c ρ' H' G → RZ c ρ' H' z v → D.rt v H'
  | .exc x l G => ∀ ρ' H' σ' cls d, Ext ρ H ρ' H' → Rel c ρ' H' G → RL c ρ' H' l σ' → RX c ρ' x cls d → W cls d σ' H'
def tS (c : C) (W : WX) (d : DS) : TS := fun D σ H => ∃ ρ G l, Rel c ρ H G ∧ RL c ρ H l σ ∧ RS c ρ H (d l G) D W
section
variable {c : C} {W W' : WX} {ρ ρ' : List Addr} {H H' : Hp} {G : GH} {l : L} {σ : L2.St} {D D' : Ends}
theorem RS.ext {r : S} (e : Ext ρ H ρ' H') (h : RS c ρ H r D W) : RS c ρ' H' r D W := by
  cases r with
  | bad => exact h
  | nx l G => exact fun ρ2 H2 σ2 e2 => h ρ2 H2 σ2 (e.trans e2)
  | bk l G => exact fun ρ2 H2 σ2 e2 => h ρ2 H2 σ2 (e.trans e2)
  | ct l G => exact fun ρ2 H2 σ2 e2 => h ρ2 H2 σ2 (e.trans e2)
  | rt z G => exact fun ρ2 H2 v e2 => h ρ2 H2 v (e.trans e2)
  | exc x l G => exact fun ρ2 H2 σ2 cl d e2 => h ρ2 H2 σ2 cl d (e.trans e2)
theorem RS.imp {r : S} (h : RS c ρ H r D W) (h1 : ∀ σ H, D.nx σ H → D'.nx σ H) (h2 : ∀ v H, D.rt v H → D'.rt v H) (h3 : ∀ σ H, D.bk σ H → D'.bk σ H) (h4 : ∀ σ H, D.ct σ H → D'.ct σ H) (h5 : ∀ a b σ H, W a b σ H → W' a b σ H) : RS c ρ H r D' W' := by
  cases r with
  | bad => exact h
  | nx l G => exact fun ρ2 H2 σ2 e2 a b => h1 _ _ (h ρ2 H2 σ2 e2 a b)
  | bk l G => exact fun ρ2 H2 σ2 e2 a b => h3 _ _ (h ρ2 H2 σ2 e2 a b)
  | ct l G => exact fun ρ2 H2 σ2 e2 a b => h4 _ _ (h ρ2 H2 σ2 e2 a b)
  | rt z G => exact fun ρ2 H2 v e2 a b => h2 _ _ (h ρ2 H2 v e2 a b)
  | exc x l G => exact fun ρ2 H2 σ2 cl d e2 a b r => h5 _ _ _ _ (h ρ2 H2 σ2 cl d e2 a b r)
/-- an expression, then what its value leads to -/
theorem RQ.of_st {α β : Type} {rel : List Addr → Hp → α → β → Prop} {r : R α} {f : α → GH → S} (hl : RL c ρ H l σ) (h : RS c ρ H (r.st l f) D W) {Q : β → Hp → Prop}
    (k : ∀ ρ1 H1 G1 z v, Ext ρ H ρ1 H1 → Rel c ρ1 H1 G1 → RL c ρ1 H1 l σ → rel ρ1 H1 z v → RS c ρ1 H1 (f z G1) D W → Q v H1) : RQ c rel ρ H r Q (atW W σ) := by
  cases r with
  | bad => exact h
  | exc x G => exact fun ρ1 H1 cl d e R1 rx => h ρ1 H1 σ cl d e R1 (hl.mono e) rx
  | ok z G => exact fun ρ1 H1 v e R1 rz => k ρ1 H1 G z v e R1 (hl.mono e) rz (RS.ext e h)
theorem tE.st {d : DE} {f : Z → GH → S} {Q : VK} (R : Rel c ρ H G) (hl : RL c ρ H l σ) (h : RS c ρ H ((d l G).st l f) D W)
    (k : ∀ ρ1 H1 G1 z v, Ext ρ H ρ1 H1 → Rel c ρ1 H1 G1 → RL c ρ1 H1 l σ → RZ c ρ1 H1 z v → RS c ρ1 H1 (f z G1) D W → Q v H1) : tE c W d σ H Q := ⟨ρ, G, l, R, hl, RQ.of_st hl h k⟩
theorem tT.st {d : DT} {f : Bool → GH → S} {Q : Bool → Hp → Prop} (R : Rel c ρ H G) (hl : RL c ρ H l σ) (h : RS c ρ H ((d l G).st l f) D W)
    (k : ∀ ρ1 H1 G1 b, Ext ρ H ρ1 H1 → Rel c ρ1 H1 G1 → RL c ρ1 H1 l σ → RS c ρ1 H1 (f b G1) D W → Q b H1) : tT c W d σ H Q :=
  ⟨ρ, G, l, R, hl, RQ.of_st (rel := rB) hl h fun ρ1 H1 G1 z v e R1 l1 r q => by rw [show v = z from r]; exact k ρ1 H1 G1 z e R1 l1 q⟩
end
theorem _root_.L2.PS.weak {X : Cx} {e : Stmt} {t t' : TS} (h : PS X e t) (w : ∀ D σ H, t' D σ H → t D σ H) : PS X e t' := ⟨fun pins s σ H Q I q => h.run pins s σ H Q I (w Q σ H q)⟩
theorem _root_.L2.PSs.weak {X : Cx} {e : List Stmt} {t t' : TS} (h : PSs X e t) (w : ∀ D σ H, t' D σ H → t D σ H) : PSs X e t' := ⟨fun pins s σ H Q I q => h.run pins s σ H Q I (w Q σ H q)⟩
theorem _root_.L2.PG.weak {X : Cx} {e : Expr} {t t' : TG} (h : PG X e t) (w : ∀ v σ H Q, t' v σ H Q → t v σ H Q) : PG X e t' := ⟨fun pins s σ H v u Q I r q => h.run pins s σ H v u Q I r (w v σ H Q q)⟩
theorem _root_.L2.PGs.weak {X : Cx} {e : List Expr} {t t' : TGs} (h : PGs X e t) (w : ∀ v σ H Q, t' v σ H Q → t v σ H Q) : PGs X e t' := ⟨fun pins s σ H v u Q I r q => h.run pins s σ H v u Q I r (w v σ H Q q)⟩
theorem _root_.L2.PG.or {X : Cx} {e : Expr} {t t' : TG} (h : PG X e t) (h' : PG X e t') : PG X e (fun v σ H Q => t v σ H Q ∨ t' v σ H Q) := ⟨fun pins s σ H v u Q I r q => q.elim (h.run pins s σ H v u Q I r) (h'.run pins s σ H v u Q I r)⟩
theorem _root_.L2.PI.or {X : Cx} {tg e : Expr} {t t' : TI} (h : PI X tg e t) (h' : PI X tg e t') : PI X tg e (fun σ H Q => t σ H Q ∨ t' σ H Q) := ⟨fun pins s σ H R I q => q.elim (h.run pins s σ H R I) (h'.run pins s σ H R I)⟩
theorem _root_.L2.PI.weak {X : Cx} {tg e : Expr} {t t' : TI} (h : PI X tg e t) (w : ∀ σ H Q, t' σ H Q → t σ H Q) : PI X tg e t' := ⟨fun pins s σ H R I q => h.run pins s σ H R I (w σ H R q)⟩

/-! ### targets -/
abbrev DG := Z → DS
abbrev DGs := List Z → DS
/-- what is asked behind a target -/
def RG (c : C) (ρ : List Addr) (H : Hp) (r : S) (Q : L2.St → Hp → Prop) (W : WX) : Prop := match r with
  | .nx l G => ∀ ρ' H' σ', Ext ρ H ρ' H' → Rel c ρ' H' G → RL c ρ' H' l σ' → Q σ' H'
  | .exc x l G => ∀ ρ' H' σ' cls d, Ext ρ H ρ' H' → Rel c ρ' H' G → RL c ρ' H' l σ' → RX c ρ' x cls d → W cls d σ' H'
  | _ => False
def tG (c : C) (W : WX) (g : DG) : TG := fun v σ H Q => ∃ ρ G l z, Rel c ρ H G ∧ RL c ρ H l σ ∧ RZ c ρ H z v ∧ RG c ρ H (g z l G) Q W
def tGs (c : C) (W : WX) (g : DGs) : TGs := fun vs σ H Q => ∃ ρ G l zs, Rel c ρ H G ∧ RL c ρ H l σ ∧ RZs c ρ H zs vs ∧ RG c ρ H (g zs l G) Q W
/-- one statement's end, then the next -/
def S.seq (r : S) (f : DS) : S := match r with
  | .nx l G => f l G
  | r => r
/-- a target stores; anything but a plain end or an exception is no end of a target -/
def S.tgt (r : S) (f : DS) : S := match r with
  | .nx l G => f l G
  | .exc x l G => .exc x l G
  | _ => .bad
def dgName (i : Nat) : DG := fun z l G => .nx (l.set i (some z)) G
def dgNil : DGs := fun zs l G => match zs with
  | [] => .nx l G
  | _ => .bad
def dgCons (g : DG) (r : DGs) : DGs := fun zs l G => match zs with
  | z :: zs => (g z l G).tgt (r zs)
  | [] => .bad
def dgTup (n : Nat) (g : DGs) : DG := fun z l G => match its G z with
  | some xs => if xs.length = n then g xs l G else .bad
  | none => .bad
def dgSub (o i : DE) : DG := fun z l G => (o l G).st l fun x G1 => (i l G1).st l fun y G2 => match x, y with
  | .ref n, .int k => match lstAt G2 n with
    | some xs => match ixN xs.length k with
      | some j => .nx l (G2.set n (.lst (xs.set j z)))
      | none => .bad
    | none => .bad
  | _, _ => .bad
section
variable {X : Cx} {c : C} {W : WX} {pos : Pos}
theorem RG.ext {ρ ρ' : List Addr} {H H' : Hp} {r : S} {Q : L2.St → Hp → Prop} (e : Ext ρ H ρ' H') (h : RG c ρ H r Q W) : RG c ρ' H' r Q W := by
  cases r with
  | nx l G => exact fun ρ2 H2 σ2 e2 => h ρ2 H2 σ2 (e.trans e2)
  | exc x l G => exact fun ρ2 H2 σ2 cl d e2 => h ρ2 H2 σ2 cl d (e.trans e2)
  | _ => exact h
theorem RG.tgt {ρ : List Addr} {H : Hp} {r : S} {f : DS} {Q : L2.St → Hp → Prop} (h : RG c ρ H (r.tgt f) Q W) {Q' : L2.St → Hp → Prop}
    (k : ∀ ρ1 H1 G1 l1 σ1, Ext ρ H ρ1 H1 → Rel c ρ1 H1 G1 → RL c ρ1 H1 l1 σ1 → RG c ρ1 H1 (f l1 G1) Q W → Q' σ1 H1) : RG c ρ H r Q' W := by
  cases r with
  | nx l G => exact fun ρ1 H1 σ1 e R1 l1 => k ρ1 H1 G l σ1 e R1 l1 (RG.ext e (show RG c ρ H (f l G) Q W from h))
  | exc x l G => exact h
  | _ => exact h
theorem sg_name {i : Nat} {x : Str} (hN : X.N.Nodup) (hi : X.N[i]? = some x) (hx : Loc X.env.scope x) (hf : X.fn x = true ∨ X.env.scope.names.lookup x = some .local) : PG X (.Name x pos) (tG c W (dgName i)) :=
  (pg_name hN hi hx hf).weak fun v σ H Q ⟨ρ, G, l, z, R, hl, rz, q⟩ => q ρ H _ (Ext.refl _ _) R (hl.set rz)
theorem sgs_nil : PGs X [] (tGs c W dgNil) := pgs_nil.weak fun vs σ H Q ⟨ρ, G, l, zs, R, hl, rz, q⟩ => by
  unfold dgNil at q
  split at q
  · exact ⟨rz.nil_, q ρ H _ (Ext.refl _ _) R hl⟩
  · exact q.elim
theorem sgs_cons {e : Expr} {es : List Expr} {g : DG} {gs : DGs} (h1 : PG X e (tG c W g)) (h2 : PGs X es (tGs c W gs)) (hp : PGs X (e :: es) (gCons (tG c W g) (tGs c W gs))) : PGs X (e :: es) (tGs c W (dgCons g gs)) :=
  hp.weak fun vs σ H Q ⟨ρ, G, l, zs, R, hl, rz, q⟩ => by
    unfold dgCons at q
    split at q
    · rename_i z zs
      unfold RZs at rz
      obtain ⟨v, r, rfl, h3, h4⟩ := rz
      exact ⟨v, r, rfl, ρ, G, l, z, R, hl, h3, RG.tgt q fun ρ1 H1 G1 l1 σ1 e R1 r1 q1 => ⟨ρ1, G1, l1, zs, R1, r1, h4.mono e, q1⟩⟩
    · exact q.elim
theorem sg_tup (hK : c.K = X.K) (hc : X.calm = true) {es : List Expr} {k n : Nat} {g : DGs} (h : PGs X es (tGs c W g)) (hn : (assignEach es X.env).length = n) (hst : (assignEach es X.env).findIdx? (·.1) = none) : PG X (.Tuple es k pos) (tG c W (dgTup n g)) :=
  ((pg_tup hc h hn hst).or (pg_unl hc h hn hst)).weak fun v σ H Q ⟨ρ, G, l, z, R, hl, rz, q⟩ => by
    unfold dgTup at q
    split at q
    · rename_i xs e
      split at q
      · rename_i hz
        obtain ⟨a, vs, rfl, h1, h2⟩ := its_at hK R rz e
        rcases h2 with h2 | h2
        · exact .inr ⟨a, vs, rfl, h2, by rw [← h1.length]; exact hz, ρ, G, l, xs, R, hl, h1, q⟩
        · exact .inl ⟨a, vs, rfl, h2, by rw [← h1.length]; exact hz, ρ, G, l, xs, R, hl, h1, q⟩
      · exact q.elim
    · exact q.elim
theorem RQ.of_rg {ρ : List Addr} {H : Hp} {G : GH} {l : L} {σ : L2.St} {d : DE} {f : Z → GH → S} {Q0 : L2.St → Hp → Prop} {Q : VK} (R : Rel c ρ H G) (hl : RL c ρ H l σ) (h : RG c ρ H ((d l G).st l f) Q0 W)
    (k : ∀ ρ1 H1 G1 z v, Ext ρ H ρ1 H1 → Rel c ρ1 H1 G1 → RL c ρ1 H1 l σ → RZ c ρ1 H1 z v → RG c ρ1 H1 (f z G1) Q0 W → Q v H1) : tE c W d σ H Q := by
  refine ⟨ρ, G, l, R, hl, ?_⟩
  cases e : d l G with
  | bad => rw [e] at h; exact h
  | exc x G' => rw [e] at h; exact fun ρ1 H1 cl d e R1 rx => h ρ1 H1 σ cl d e R1 (hl.mono e) rx
  | ok z G' => rw [e] at h; exact fun ρ1 H1 v e R1 rz => k ρ1 H1 G' z v e R1 (hl.mono e) rz (RG.ext e h)
theorem sg_sub {o i : Expr} {dO di : DE} (ho : PE X o (tE c W dO)) (hi : PE X i (tE c W di)) (hp : PG X (.Subscript o i pos) (gSub (tE c W dO) (tE c W di) rSetL)) : PG X (.Subscript o i pos) (tG c W (dgSub dO di)) :=
  hp.weak fun v σ H Q ⟨ρ, G, l, z, R, hl, rz, q⟩ => by
    refine RQ.of_rg R hl q fun ρ1 H1 G1 x w e1 R1 l1 r1 q1 => RQ.of_rg R1 l1 q1 fun ρ2 H2 G2 y u e2 R2 l2 r2 q2 => ?_
    split at q2
    · rename_i n k
      obtain ⟨a, ha, rfl⟩ := un_ref (r1.mono e2)
      cases un_int r2
      split at q2
      · rename_i xs e3
        split at q2
        · rename_i j e4
          obtain ⟨vs, h1, h2⟩ := R2.lstAt e3 ha
          have rz2 := (rz.mono e1).mono e2
          obtain ⟨R3, e5⟩ := R2.put (z := .lst (xs.set j z)) ha ⟨vs.set j v, rfl, h2.set j rz2⟩
          exact ⟨a, vs, k, j, rfl, rfl, h1, by rw [← h2.length]; exact e4, q2 ρ2 _ _ e5 R3 (l2.mono e5)⟩
        · exact q2.elim
      · exact q2.elim
    · exact q2.elim

/-! ### plain statements -/
def dRet (a : DE) : DS := fun l G => (a l G).st l fun z G1 => .rt z G1
def dRetN : DS := fun _ G => .rt .non G
def dExp (a : DE) : DS := fun l G => (a l G).st l fun _ G1 => .nx l G1
def dAsg (g : DG) (a : DE) : DS := fun l G => (a l G).st l fun z G1 => (g z l G1).tgt .nx
def dIfS (t : DT) (a b : DS) : DS := fun l G => (t l G).st l fun k G1 => if k then a l G1 else b l G1
def dNop : DS := .nx
def dBrk : DS := .bk
def dCnt : DS := .ct
def dSeq (a b : DS) : DS := fun l G => (a l G).seq b
def dAug (i : Nat) (op : Operator) (a : DE) : DS := fun l G => match l[i]? with
  | some (some x) => (a l G).st l fun y G1 => (zBin op x y G1).st l fun z G2 => .nx (l.set i (some z)) G2
  | _ => .bad
variable {e : Expr} {de : DE} {st : Stmt} {ds : DS}
theorem ss_ret (h : PE X e (tE c W de)) : PS X (.Return (some e) pos) (tS c W (dRet de)) := (ps_ret h).weak fun D σ H ⟨ρ, G, l, R, hl, q⟩ => tE.st R hl q fun ρ1 H1 G1 z v e1 R1 l1 r1 q1 => q1 ρ1 H1 v (Ext.refl _ _) R1 r1
theorem ss_retN : PS X (.Return none pos) (tS c W dRetN) := ps_retN.weak fun D σ H ⟨ρ, G, l, R, hl, q⟩ => (show RS c ρ H (.rt .non G) D W from q) ρ H _ (Ext.refl _ _) R rz_non
theorem ss_exp (h : PE X e (tE c W de)) (hs : swapsWith e none pos.line X.env = pure false) : PS X (.Expr e pos) (tS c W (dExp de)) := (ps_expr h hs).weak fun D σ H ⟨ρ, G, l, R, hl, q⟩ => tE.st R hl q fun ρ1 H1 G1 z v e1 R1 l1 r1 q1 => q1 ρ1 H1 σ (Ext.refl _ _) R1 l1
theorem RS.tgt {ρ : List Addr} {H : Hp} {r : S} {D : Ends} (h : RS c ρ H (r.tgt .nx) D W) : RG c ρ H r D.nx W := by
  cases r with
  | nx l G => exact h
  | exc x l G => exact h
  | _ => exact h
theorem ss_asg {tg : Expr} {g : DG} (h : PE X e (tE c W de)) (hg : PG X tg (tG c W g)) (hs : swapsWithSole [tg] e pos.line X.env = pure false) (hw : swappedStores [tg] e X.env = pure none) (h1 : (assignEach [tg] X.env).map (·.2) = [assign tg X.env]) : PS X (.Assign [tg] e pos) (tS c W (dAsg g de)) :=
  (ps_asg h hg hs hw h1).weak fun D σ H ⟨ρ, G, l, R, hl, q⟩ => tE.st R hl q fun ρ1 H1 G1 z v e1 R1 l1 r1 q1 => ⟨ρ1, G1, l, z, R1, l1, r1, RS.tgt q1⟩
theorem ss_if {t : Expr} {a b : List Stmt} {dt : DT} {da db : DS} (ht : PT X t (tT c W dt)) (ha : PSs X a (tS c W da)) (hb : PSs X b (tS c W db)) : PS X (.If t a b pos) (tS c W (dIfS dt da db)) :=
  (ps_if ht ha hb).weak fun D σ H ⟨ρ, G, l, R, hl, q⟩ => tT.st R hl q fun ρ1 H1 G1 k e1 R1 l1 q1 => by
    cases k with
    | true => rw [if_pos rfl]; exact ⟨ρ1, G1, l, R1, l1, q1⟩
    | false => rw [if_neg Bool.false_ne_true]; exact ⟨ρ1, G1, l, R1, l1, q1⟩
theorem ss_pass : PS X (.Pass pos) (tS c W dNop) := ps_pass.weak fun D σ H ⟨ρ, G, l, R, hl, q⟩ => (show RS c ρ H (.nx l G) D W from q) ρ H σ (Ext.refl _ _) R hl
theorem ss_break : PS X (.Break pos) (tS c W dBrk) := ps_break.weak fun D σ H ⟨ρ, G, l, R, hl, q⟩ => (show RS c ρ H (.bk l G) D W from q) ρ H σ (Ext.refl _ _) R hl
theorem ss_cont : PS X (.Continue pos) (tS c W dCnt) := ps_continue.weak fun D σ H ⟨ρ, G, l, R, hl, q⟩ => (show RS c ρ H (.ct l G) D W from q) ρ H σ (Ext.refl _ _) R hl
theorem sss_nil : PSs X [] (tS c W dNop) := pss_nil.weak fun D σ H ⟨ρ, G, l, R, hl, q⟩ => (show RS c ρ H (.nx l G) D W from q) ρ H σ (Ext.refl _ _) R hl
theorem sss_cons {rest : List Stmt} {dr : DS} (h1 : PS X st (tS c W ds)) (h2 : PSs X rest (tS c W dr)) : PSs X (st :: rest) (tS c W (dSeq ds dr)) :=
  (pss_cons h1 h2).weak fun D σ H ⟨ρ, G, l, R, hl, q⟩ => ⟨ρ, G, l, R, hl, by
    unfold dSeq at q
    cases e : ds l G with
    | nx l' G' => rw [e] at q; exact fun ρ1 H1 σ1 e1 R1 r1 => ⟨ρ1, G', l', R1, r1, RS.ext e1 q⟩
    | _ => rw [e] at q; exact q⟩
theorem augz (hK : c.K = X.K) {op : Operator} (ho : op = .Add ∨ op = .Sub) : PIp X op (fun x y H Q => ∃ W : QW, ∃ ρ G zx zy, Rel c ρ H G ∧ RZ c ρ H zx x ∧ RZ c ρ H zy y ∧ (∃ i j, zx = .int i ∧ zy = .int j) ∧ RQ c (RZ c) ρ H (zBin op zx zy G) Q W) := by
  rcases ho with rfl | rfl
  · intro pins s σ H x y v u Q I rx ry h
    obtain ⟨W, ρ, G, zx, zy, R, hx, hy, ⟨i, j, rfl, rfl⟩, q⟩ := h
    cases un_int hx; cases un_int hy
    exact ip_add pins s σ H _ _ v u Q I rx ry ⟨i, j, rfl, rfl, RQ.here (show RQ c (RZ c) ρ H (.ok (.int (i + j)) G) Q W from q) R rz_int⟩
  · intro pins s σ H x y v u Q I rx ry h
    obtain ⟨W, ρ, G, zx, zy, R, hx, hy, ⟨i, j, rfl, rfl⟩, q⟩ := h
    cases un_int hx; cases un_int hy
    exact ip_sub pins s σ H _ _ v u Q I rx ry ⟨i, j, rfl, rfl, RQ.here (show RQ c (RZ c) ρ H (.ok (.int (i - j)) G) Q W from q) R rz_int⟩
end
end Zy
end
section
set_option Elab.async false
set_option linter.all false
set_option maxRecDepth 100000
set_option maxHeartbeats 4000000
set_option autoImplicit false
/-! loops and comprehensions -/
namespace Zy
open PySem PySem.Spec PyProof.Rows L2
open PySem.SeqAt (RcAt EqAt RcOp firstLt)

/-- what is walked: items that stand, or a list of the heap -/
inductive Wk where
  | pure (xs : List Z) | live (n : Nat) (len : Nat)
def Wk.len : Wk → Nat
  | .pure xs => xs.length
  | .live _ n => n
/-- the item of a turn; the end; neither -/
def itNext (it : Wk) (G : GH) (i : Nat) : Option (Option Z) := match it with
  | .pure xs => some xs[i]?
  | .live n len => match lstAt G n with
    | some xs => if xs.length = len then some xs[i]? else none
    | none => none
abbrev DI := L → GH → R Wk
structure ItRel (c : C) (ρ : List Addr) (H : Hp) (it : Wk) (J : It) : Prop where
  go : ∀ ρ1 H1 G1 i z, Ext ρ H ρ1 H1 → Rel c ρ1 H1 G1 → itNext it G1 i = some (some z) → J.go i H1 ∧ ∀ x H2, J.yld i H1 x H2 → Ext ρ1 H1 ρ1 H2 ∧ Rel c ρ1 H2 G1 ∧ RZ c ρ1 H2 z x
  stop : ∀ ρ1 H1 G1 i, Ext ρ H ρ1 H1 → Rel c ρ1 H1 G1 → itNext it G1 i = some none → J.stop i H1
def tI (c : C) (W : WX) (di : DI) : TI := fun σ H Q => ∃ ρ G l, Rel c ρ H G ∧ RL c ρ H l σ ∧ RQ c (fun ρ H it J => ItRel c ρ H it J) ρ H (di l G) (fun J H' => Q J H') (atW W σ)
def toItr (G : GH) : Z → Option Wk
  | .tup xs => some (.pure xs)
  | .rol xs => some (.pure xs)
  | .str x => some (.pure (x.map fun ch => .str [ch]))
  | .ref n => (lstAt G n).map fun xs => .live n xs.length
  | _ => none
def dIter (a : DE) : DI := fun l G => (a l G).bind fun x G1 => match toItr G1 x with
  | some it => .ok it G1
  | none => .bad
def rngZ (lo hi : Int) : List Z := (List.range (hi - lo).toNat).map fun (i : Nat) => Z.int (lo + (i : Int))
def okR (i : Int) : Bool := decide (-(2 ^ 62) ≤ i) && decide (i < 2 ^ 62)
def dRng1 (a : DA) : DI := fun l G => (a l G).bind fun xs G1 => match xs with
  | [.int j] => if okR j then .ok (.pure (rngZ 0 j)) G1 else .bad
  | _ => .bad
def dRng2 (a : DA) : DI := fun l G => (a l G).bind fun xs G1 => match xs with
  | [.int i, .int j] => if okR i && okR j then .ok (.pure (rngZ i j)) G1 else .bad
  | _ => .bad
section
variable {X : Cx} {c : C} {W : WX} {ρ : List Addr} {H : Hp} {G : GH}
theorem itr_tup {xs : List Z} {a : Addr} {vs : List V} (h : SqT c.K H a vs) (r : RZs c ρ H xs vs) : ItRel c ρ H (.pure xs) (Itt c.K a) := by
  refine ⟨fun ρ1 H1 G1 i z e R1 hn => ?_, fun ρ1 H1 G1 i e R1 hn => ?_⟩
  · obtain ⟨v, h1, h2⟩ := r.get (show xs[i]? = some z from Option.some.inj hn)
    refine ⟨⟨vs, v, e.st.seq h, h1⟩, fun x H2 hy => ?_⟩
    obtain ⟨rfl, hy⟩ := hy
    have := hy vs (e.st.seq h)
    rw [h1] at this; cases this
    exact ⟨Ext.refl _ _, R1, h2.mono e⟩
  · refine ⟨vs, e.st.seq h, ?_⟩
    rw [← r.length]
    exact List.getElem?_eq_none_iff.mp (show xs[i]? = none from Option.some.inj hn)
theorem itr_rol {xs : List Z} {a : Addr} {vs : List V} (h : RoL c H a vs) (r : RZs c ρ H xs vs) : ItRel c ρ H (.pure xs) (Itl c.K a) := by
  refine ⟨fun ρ1 H1 G1 i z e R1 hn => ?_, fun ρ1 H1 G1 i e R1 hn => ?_⟩
  · obtain ⟨v, h1, h2⟩ := r.get (show xs[i]? = some z from Option.some.inj hn)
    refine ⟨⟨vs, v, (e.st.ro h).seq, h1⟩, fun x H2 hy => ?_⟩
    obtain ⟨rfl, hy⟩ := hy
    have := hy vs (e.st.ro h).seq
    rw [h1] at this; cases this
    exact ⟨Ext.refl _ _, R1, h2.mono e⟩
  · refine ⟨vs, (e.st.ro h).seq, ?_⟩
    rw [← r.length]
    exact List.getElem?_eq_none_iff.mp (show xs[i]? = none from Option.some.inj hn)
theorem itr_live {n len : Nat} {a : Addr} (h : ρ[n]? = some a) : ItRel c ρ H (.live n len) (Itl c.K a) := by
  have key : ∀ {ρ1 H1 G1 i o}, Ext ρ H ρ1 H1 → Rel c ρ1 H1 G1 → itNext (.live n len) G1 i = some o → ∃ xs vs, H1 a = some (.lst vs) ∧ RZs c ρ1 H1 xs vs ∧ xs[i]? = o := by
    intro ρ1 H1 G1 i o e R1 hn
    unfold itNext at hn
    simp only at hn
    split at hn
    · rename_i xs hx
      split at hn
      · obtain ⟨vs, g1, g2⟩ := R1.lstAt hx (pre_get e.pre h)
        exact ⟨xs, vs, g1, g2, Option.some.inj hn⟩
      · cases hn
    · cases hn
  refine ⟨fun ρ1 H1 G1 i z e R1 hn => ?_, fun ρ1 H1 G1 i e R1 hn => ?_⟩
  · obtain ⟨xs, vs, g1, g2, g3⟩ := key e R1 hn
    obtain ⟨v, h1, h2⟩ := g2.get g3
    refine ⟨⟨vs, v, SqL.of g1, h1⟩, fun x H2 hy => ?_⟩
    obtain ⟨rfl, hy⟩ := hy
    have := hy vs (SqL.of g1)
    rw [h1] at this; cases this
    exact ⟨Ext.refl _ _, R1, h2⟩
  · obtain ⟨xs, vs, g1, g2, g3⟩ := key e R1 hn
    refine ⟨vs, SqL.of g1, ?_⟩
    rw [← g2.length]
    exact List.getElem?_eq_none_iff.mp g3
theorem itr_str {x : List Nat} : ItRel c ρ H (.pure (x.map fun ch => .str [ch])) (Its ⟨x.toArray⟩) := by
  refine ⟨fun ρ1 H1 G1 i z e R1 hn => ?_, fun ρ1 H1 G1 i e R1 hn => ?_⟩
  · have hz : (x.map fun ch => Z.str [ch])[i]? = some z := Option.some.inj hn
    rw [List.getElem?_map] at hz
    obtain ⟨ch, h1, rfl⟩ := Option.map_eq_some_iff.mp hz
    have hi : i < x.length := (List.getElem?_eq_some_iff.mp h1).1
    refine ⟨by show i < x.toArray.size; simpa using hi, fun v H2 hy => ?_⟩
    obtain ⟨rfl, c', h2, rfl⟩ := hy
    have h2' : x[i]? = some c' := by simpa using h2
    rw [h1] at h2'; cases h2'
    exact ⟨Ext.refl _ _, R1, rz_str (x := [ch]) (by rw [sizeLine_eq]; simp)⟩
  · have hz : (x.map fun ch => Z.str [ch])[i]? = none := Option.some.inj hn
    show x.toArray.size ≤ i
    simpa using List.getElem?_eq_none_iff.mp hz
theorem itr_rng {lo hi : Int} : ItRel c ρ H (.pure (rngZ lo hi)) (Itr lo (hi - lo).toNat) := by
  refine ⟨fun ρ1 H1 G1 i z e R1 hn => ?_, fun ρ1 H1 G1 i e R1 hn => ?_⟩
  · have hz : (rngZ lo hi)[i]? = some z := Option.some.inj hn
    unfold rngZ at hz
    rw [List.getElem?_map] at hz
    obtain ⟨k, h1, rfl⟩ := Option.map_eq_some_iff.mp hz
    obtain ⟨h2, h3⟩ := List.getElem?_eq_some_iff.mp h1
    rw [List.getElem_range] at h3
    subst h3
    refine ⟨by rw [List.length_range] at h2; exact h2, fun v H2 hy => ?_⟩
    obtain ⟨rfl, rfl⟩ := hy
    exact ⟨Ext.refl _ _, R1, rz_int⟩
  · have hz : (rngZ lo hi)[i]? = none := Option.some.inj hn
    have := List.getElem?_eq_none_iff.mp hz
    unfold rngZ at this
    show (hi - lo).toNat ≤ i
    simpa using this
variable {tg e : Expr} {da db : DE}
theorem si_iter (hK : c.K = X.K) (h : PE X e (tE c W da)) : PI X tg e (tI c W (dIter da)) :=
  ((pi_list h).or ((pi_tup h).or (pi_str h))).weak fun σ H Q ⟨ρ, G, l, R, hl, q⟩ => by
    have arm : ∀ {Q' : VK}, (∀ x G1, da l G = .ok x G1 → ∀ ρ1 H1 v, Ext ρ H ρ1 H1 → Rel c ρ1 H1 G1 → RZ c ρ1 H1 x v → RQ c (fun ρ H it J => ItRel c ρ H it J) ρ1 H1 (match toItr G1 x with | some it => .ok it G1 | none => .bad) (fun J H' => Q J H') (atW W σ) → Q' v H1) → tE c W da σ H Q' := fun {Q'} k => by
      refine ⟨ρ, G, l, R, hl, ?_⟩
      unfold dIter at q
      have q' := RQ.bind (rel := RZ c) q
      cases e1 : da l G with
      | bad => rw [e1] at q'; exact q'
      | exc x G1 => rw [e1] at q'; exact q'
      | ok x G1 =>
        intro ρ1 H1 v e2 R1 rz
        rw [e1] at q
        have q3 : RQ c (fun ρ H it J => ItRel c ρ H it J) ρ H (match toItr G1 x with | some it => .ok it G1 | none => .bad) (fun J H' => Q J H') (atW W σ) := q
        refine k x G1 e1 ρ1 H1 v e2 R1 rz ?_
        cases e3 : toItr G1 x with
        | none => rw [e3] at q3; exact q3
        | some it => rw [e3] at q3; exact fun ρ2 H2 J e4 => q3 ρ2 H2 J (e2.trans e4)
    cases e1 : da l G with
    | bad => exact .inl (arm fun x G1 e2 => by rw [e1] at e2; cases e2)
    | exc x G1 => exact .inl (arm fun x G1 e2 => by rw [e1] at e2; cases e2)
    | ok x G1 =>
      have use : ∀ {ρ1 H1 v it J}, Rel c ρ1 H1 G1 → RQ c (fun ρ H it J => ItRel c ρ H it J) ρ1 H1 (match toItr G1 x with | some it => .ok it G1 | none => .bad) (fun J H' => Q J H') (atW W σ) → toItr G1 x = some it → ItRel c ρ1 H1 it J → (v : V) = v → Q J H1 := by
        intro ρ1 H1 v it J R1 q1 e2 hJ _
        rw [e2] at q1
        exact q1 ρ1 H1 J (Ext.refl _ _) R1 hJ
      cases x with
      | tup xs =>
        refine .inr (.inl (arm fun x G2 e2 ρ1 H1 v e3 R1 rz q1 => ?_))
        rw [e1] at e2; cases e2
        obtain ⟨a, vs, rfl, h1, h2⟩ := un_tup rz
        exact ⟨a, rfl, ⟨vs, hK ▸ h1⟩, hK ▸ use (v := .non) R1 q1 rfl (itr_tup h1 h2) rfl⟩
      | rol xs =>
        refine .inl (arm fun x G2 e2 ρ1 H1 v e3 R1 rz q1 => ?_)
        rw [e1] at e2; cases e2
        unfold RZ at rz
        obtain ⟨a, vs, rfl, h1, h2⟩ := rz
        exact ⟨a, rfl, ⟨vs, hK ▸ h1.seq⟩, hK ▸ use (v := .non) R1 q1 rfl (itr_rol h1 h2) rfl⟩
      | str y =>
        refine .inr (.inr (arm fun x G2 e2 ρ1 H1 v e3 R1 rz q1 => ?_))
        rw [e1] at e2; cases e2
        obtain ⟨_, rfl⟩ := un_str rz
        exact ⟨_, rfl, use (v := .non) R1 q1 rfl itr_str rfl⟩
      | ref n =>
        refine .inl (arm fun x G2 e2 ρ1 H1 v e3 R1 rz q1 => ?_)
        rw [e1] at e2; cases e2
        obtain ⟨a, ha, rfl⟩ := un_ref rz
        cases e4 : lstAt G1 n with
        | none =>
          have : toItr G1 (.ref n) = none := by show (lstAt G1 n).map _ = none; rw [e4]; rfl
          rw [this] at q1
          exact q1.elim
        | some xs =>
          obtain ⟨vs, h1, h2⟩ := R1.lstAt e4 ha
          exact ⟨a, rfl, ⟨vs, SqL.of h1⟩, hK ▸ use (v := .non) R1 q1 (show toItr G1 (.ref n) = some (.live n xs.length) by show (lstAt G1 n).map _ = _; rw [e4]; rfl) (itr_live ha) rfl⟩
      | _ =>
        refine .inl (arm fun x G2 e2 ρ1 H1 v e3 R1 rz q1 => ?_)
        rw [e1] at e2; cases e2
        exact q1.elim
theorem okR_ok {i : Int} (h : okR i = true) : -(2 ^ 62) ≤ i ∧ i < 2 ^ 62 := by
  unfold okR at h
  simpa using h
variable {p pos : Pos}
theorem si_rng1 {a : Expr} {as : DA} (hg : Gl X "range") (hm : X.mg "range" = none) (h : PA X [a] (tA c W as)) (hs : starEach [a] X.env = [(false, eval a X.env)]) : PI X tg (.Call (.Name "range" p) [a] [] pos) (tI c W (dRng1 as)) :=
  (pi_range1 hg hm h hs).weak fun σ H Q ⟨ρ, G, l, R, hl, q⟩ => tA.bind R hl q fun ρ1 H1 G1 zs vs e1 R1 l1 r1 q1 => by
    have hlen : zs.length = vs.length := r1.length
    split at q1
    · rename_i j
      obtain ⟨v, rfl, r2⟩ := r1.one
      cases un_int r2
      split at q1
      · rename_i hj
        refine ⟨j, rfl, (okR_ok hj).1, (okR_ok hj).2, q1 ρ1 H1 _ (Ext.refl _ _) R1 ?_⟩
        have := itr_rng (c := c) (ρ := ρ1) (H := H1) (lo := 0) (hi := j)
        rw [Int.sub_zero] at this
        exact this
      · exact q1.elim
    · exact q1.elim
theorem si_rng2 {a b : Expr} {as : DA} (hg : Gl X "range") (hm : X.mg "range" = none) (h : PA X [a, b] (tA c W as)) (hs : starEach [a, b] X.env = [(false, eval a X.env), (false, eval b X.env)]) (hs2 : starEach [b] X.env = [(false, eval b X.env)]) : PI X tg (.Call (.Name "range" p) [a, b] [] pos) (tI c W (dRng2 as)) :=
  (pi_range2 hg hm h hs hs2).weak fun σ H Q ⟨ρ, G, l, R, hl, q⟩ => tA.bind R hl q fun ρ1 H1 G1 zs vs e1 R1 l1 r1 q1 => by
    split at q1
    · rename_i i j
      obtain ⟨v, w, rfl, r2, r3⟩ := r1.two
      cases un_int r2; cases un_int r3
      split at q1
      · rename_i hj
        simp only [Bool.and_eq_true] at hj
        exact ⟨i, j, rfl, ⟨(okR_ok hj.1).1, (okR_ok hj.1).2, (okR_ok hj.2).1, (okR_ok hj.2).2⟩, q1 ρ1 H1 _ (Ext.refl _ _) R1 itr_rng⟩
      · exact q1.elim
    · exact q1.elim

/-! ### for, while -/
def forLoop (it : Wk) (g : DG) (body : DS) : Nat → Nat → DS
  | k, i, l, G => match itNext it G i with
    | none => .bad
    | some none => .nx l G
    | some (some z) => match k with
      | 0 => .bad
      | k + 1 => match g z l G with
        | .nx l1 G1 => match body l1 G1 with
          | .nx l2 G2 => forLoop it g body k (i + 1) l2 G2
          | .ct l2 G2 => forLoop it g body k (i + 1) l2 G2
          | .bk l2 G2 => .nx l2 G2
          | r => r
        | .exc x l1 G1 => .exc x l1 G1
        | _ => .bad
def dFor (di : DI) (g : DG) (body : DS) : DS := fun l G => (di l G).st l fun it G1 => forLoop it g body it.len 0 l G1
def whileLoop (t : DT) (body : DS) : Nat → DS
  | k, l, G => (t l G).st l fun b G1 => if b then (match k with
    | 0 => .bad
    | k + 1 => match body l G1 with
      | .nx l2 G2 => whileLoop t body k l2 G2
      | .ct l2 G2 => whileLoop t body k l2 G2
      | .bk l2 G2 => .nx l2 G2
      | r => r) else .nx l G1
/-- as many turns as any loop here may take -/
def wMax : Nat := 1000000
def dWhile (t : DT) (body : DS) : DS := whileLoop t body wMax
theorem ss_for (hp : PassesOwn (model X.prog X.w) X.A X.env X.xe) (hc : X.calm = true) {iter : Expr} {body : List Stmt} {di : DI} {g : DG} {db : DS} (hi : PI X tg iter (tI c W di)) (hg : PG X tg (tG c W g)) (hb : PSs X body (tS c W db))
    (hs : ∀ x, foldedSetIterable iter X.env x = pure x) : PS X (.For tg iter body [] pos) (tS c W (dFor di g db)) :=
  (ps_for hp hc hi hg hb hs).weak fun D σ H ⟨ρ, G, l, R, hl, q⟩ => by
    refine ⟨ρ, G, l, R, hl, RQ.of_st hl q fun ρ1 H1 G1 it J e1 R1 l1 hJ q1 => ?_⟩
    refine ⟨fun i m σ' H' => ∃ ρ' G' l', Ext ρ1 H1 ρ' H' ∧ Rel c ρ' H' G' ∧ RL c ρ' H' l' σ' ∧ RS c ρ' H' (forLoop it g db m i l' G') D W, ⟨it.len, ρ1, G1, l, Ext.refl _ _, R1, l1, q1⟩, ?_⟩
    rintro i m σ' H' ⟨ρ', G', l', e', R', hl', q'⟩
    unfold forLoop at q'
    cases hn : itNext it G' i with
    | none => rw [hn] at q'; exact q'.elim
    | some o =>
      rw [hn] at q'
      cases o with
      | none => exact .inl ⟨hJ.stop ρ' H' G' i e' R' hn, (show RS c ρ' H' (.nx l' G') D W from q') ρ' H' σ' (Ext.refl _ _) R' hl'⟩
      | some z =>
        obtain ⟨hgo, hy⟩ := hJ.go ρ' H' G' i z e' R' hn
        refine .inr ⟨hgo, ?_⟩
        cases m with
        | zero => exact q'.elim
        | succ m =>
          have q2 : RS c ρ' H' (match g z l' G' with
            | .nx l1 G1 => match db l1 G1 with
              | .nx l2 G2 => forLoop it g db m (i + 1) l2 G2
              | .ct l2 G2 => forLoop it g db m (i + 1) l2 G2
              | .bk l2 G2 => .nx l2 G2
              | r => r
            | .exc x l1 G1 => .exc x l1 G1
            | _ => .bad) D W := q'
          refine ⟨fun σ3 H3 => ∃ ρ3 G3 l3, Ext ρ1 H1 ρ3 H3 ∧ Rel c ρ3 H3 G3 ∧ RL c ρ3 H3 l3 σ3 ∧ RS c ρ3 H3 (forLoop it g db m (i + 1) l3 G3) D W, fun σ3 H3 h => ⟨m, Nat.lt_succ_self m, h⟩, fun x H2 hx => ?_⟩
          obtain ⟨e2, R2, rz⟩ := hy x H2 hx
          refine ⟨ρ', G', l', z, R2, hl'.mono e2, rz, ?_⟩
          cases hg2 : g z l' G' with
          | nx l3 G3 =>
            rw [hg2] at q2
            intro ρ3 H3 σ3 e3 R3 hl3
            refine ⟨ρ3, G3, l3, R3, hl3, ?_⟩
            have q3 : RS c ρ' H' (match db l3 G3 with
              | .nx l2 G2 => forLoop it g db m (i + 1) l2 G2
              | .ct l2 G2 => forLoop it g db m (i + 1) l2 G2
              | .bk l2 G2 => .nx l2 G2
              | r => r) D W := q2
            have e23 := e2.trans e3
            have eA := (e'.trans e23)
            cases hb2 : db l3 G3 with
            | nx l4 G4 => rw [hb2] at q3; exact fun ρ4 H4 σ4 e4 R4 hl4 => ⟨ρ4, G4, l4, eA.trans e4, R4, hl4, RS.ext (e23.trans e4) q3⟩
            | ct l4 G4 => rw [hb2] at q3; exact fun ρ4 H4 σ4 e4 R4 hl4 => ⟨ρ4, G4, l4, eA.trans e4, R4, hl4, RS.ext (e23.trans e4) q3⟩
            | bk l4 G4 => rw [hb2] at q3; exact fun ρ4 H4 σ4 e4 R4 hl4 => (show RS c ρ' H' (.nx l4 G4) D W from q3) ρ4 H4 σ4 (e23.trans e4) R4 hl4
            | rt v G4 => rw [hb2] at q3; exact fun ρ4 H4 w e4 R4 rw4 => (show RS c ρ' H' (.rt v G4) D W from q3) ρ4 H4 w (e23.trans e4) R4 rw4
            | exc x l4 G4 => rw [hb2] at q3; exact fun ρ4 H4 σ4 cl d e4 R4 hl4 rx => (show RS c ρ' H' (.exc x l4 G4) D W from q3) ρ4 H4 σ4 cl d (e23.trans e4) R4 hl4 rx
            | bad => rw [hb2] at q3; exact q3.elim
          | exc x l3 G3 =>
            rw [hg2] at q2
            exact fun ρ3 H3 σ3 cl d e3 R3 hl3 rx => (show RS c ρ' H' (.exc x l3 G3) D W from q2) ρ3 H3 σ3 cl d (e2.trans e3) R3 hl3 rx
          | _ => rw [hg2] at q2; exact q2.elim
theorem ss_while (hp : PassesOwn (model X.prog X.w) X.A X.env X.xe) {t : Expr} {body : List Stmt} {dt : DT} {db : DS} (ht : PT X t (tT c W dt)) (hb : PSs X body (tS c W db)) : PS X (.While t body [] pos) (tS c W (dWhile dt db)) :=
  (ps_while hp ht hb).weak fun D σ H ⟨ρ, G, l, R, hl, q⟩ => by
    refine ⟨fun m σ' H' => ∃ ρ' G' l', Rel c ρ' H' G' ∧ RL c ρ' H' l' σ' ∧ RS c ρ' H' (whileLoop dt db m l' G') D W, ⟨wMax, ρ, G, l, R, hl, q⟩, ?_⟩
    rintro m σ' H' ⟨ρ', G', l', R', hl', q'⟩
    unfold whileLoop at q'
    refine tT.st R' hl' q' fun ρ1 H1 G1 b e1 R1 l1 q1 => ?_
    cases b with
    | false => rw [if_neg Bool.false_ne_true]; exact (show RS c ρ1 H1 (.nx l' G1) D W from q1) ρ1 H1 σ' (Ext.refl _ _) R1 l1
    | true =>
      rw [if_pos rfl]
      cases m with
      | zero => exact q1.elim
      | succ m =>
        have q3 : RS c ρ1 H1 (match db l' G1 with
          | .nx l2 G2 => whileLoop dt db m l2 G2
          | .ct l2 G2 => whileLoop dt db m l2 G2
          | .bk l2 G2 => .nx l2 G2
          | r => r) D W := q1
        refine ⟨fun σ3 H3 => ∃ ρ3 G3 l3, Rel c ρ3 H3 G3 ∧ RL c ρ3 H3 l3 σ3 ∧ RS c ρ3 H3 (whileLoop dt db m l3 G3) D W, fun σ3 H3 h => ⟨m, Nat.lt_succ_self m, h⟩, ρ1, G1, l', R1, l1, ?_⟩
        cases hb2 : db l' G1 with
        | nx l4 G4 => rw [hb2] at q3; exact fun ρ4 H4 σ4 e4 R4 hl4 => ⟨ρ4, G4, l4, R4, hl4, RS.ext e4 q3⟩
        | ct l4 G4 => rw [hb2] at q3; exact fun ρ4 H4 σ4 e4 R4 hl4 => ⟨ρ4, G4, l4, R4, hl4, RS.ext e4 q3⟩
        | bk l4 G4 => rw [hb2] at q3; exact fun ρ4 H4 σ4 e4 R4 hl4 => (show RS c ρ1 H1 (.nx l4 G4) D W from q3) ρ4 H4 σ4 e4 R4 hl4
        | rt v G4 => rw [hb2] at q3; exact q3
        | exc x l4 G4 => rw [hb2] at q3; exact q3
        | bad => rw [hb2] at q3; exact q3

/-! ### comprehensions -/
/-- the names of a block forgotten -/
def wipeZ (l : L) : List Nat → L
  | [] => l
  | v :: vs => (wipeZ l vs).set v none
/-- the new list stands at n -/
def lcLoop (it : Wk) (g : DG) (t : DT) (e : DE) (n : Nat) (l : L) : Nat → Nat → GH → R Z
  | k, i, G => match itNext it G i with
    | none => .bad
    | some none => .ok (.ref n) G
    | some (some z) => match k with
      | 0 => .bad
      | k + 1 => match g z l G with
        | .nx l1 G1 => match t l1 G1 with
          | .ok true G2 => match e l1 G2 with
            | .ok y G3 => match lstAt G3 n with
              | some acc => if acc.length < sizeLine then lcLoop it g t e n l k (i + 1) (G3.set n (.lst (acc ++ [y]))) else .bad
              | none => .bad
            | _ => .bad
          | .ok false G2 => lcLoop it g t e n l k (i + 1) G2
          | _ => .bad
        | _ => .bad
def dLc (di : DI) (g : DG) (t : DT) (e : DE) (own : List Nat) : DE := fun l G => (di l G).bind fun it G1 => lcLoop it g t e G1.length (wipeZ l own) it.len 0 (G1 ++ [.lst []])
end
end Zy
end
section
set_option Elab.async false
set_option linter.all false
set_option maxRecDepth 100000
set_option maxHeartbeats 4000000
set_option autoImplicit false
/-! enumerate and zip over tuples, lists, texts in any mix -/
namespace Zy
open PySem PySem.Spec PyProof.Rows L2

/-- what is walked in pairs -/
inductive Src where
  | tup (a : Addr) | lst (a : Addr) | txt (x : Str)
def SrcAt (K : PySem.W.Frag) (H : Hp) : Src → List V → Prop
  | .tup a, xs => SqT K H a xs
  | .lst a, xs => SqL K H a xs
  | .txt x, xs => xs = x.cps.toList.map fun ch => V.str ⟨#[ch]⟩
def Src.val : Src → V
  | .tup a => .ref a
  | .lst a => .ref a
  | .txt x => .str x
/-- the iterator at it stands before turn i -/
def SrcIt : Src → Addr → Nat → Heap → Prop
  | .tup a, it, i, h => h.IsTupleIter it a i
  | .lst a, it, i, h => h.IsListIter it a i
  | .txt x, it, i, h => ∃ t, h.IsStrIter it (strIterType x) x t i
def Src.cells : Src → Addr → List Addr
  | .tup a, it => [it, a]
  | .lst a, it => [it, a]
  | .txt _, it => [it]
theorem Src.mem (S : Src) (it : Addr) : it ∈ S.cells it := by cases S <;> simp [Src.cells]
/-- the source lies below n -/
def Src.low (S : Src) (n : Nat) : Prop := match S with
  | .tup a => a < n
  | .lst a => a < n
  | .txt _ => True
theorem Src.off {S : Src} {n it b : Nat} (h : S.low n) (hb : n ≤ b) (hne : b ≠ it) : b ∉ S.cells it := by
  have key : ∀ a : Nat, a < n → b ∉ [it, a] := fun a ha hm => by
    rcases (by simpa using hm : b = it ∨ b = a) with z | z
    · exact hne z
    · omega
  cases S with
  | tup a => exact key a h
  | lst a => exact key a h
  | txt x => exact fun hm => hne (by simpa [Src.cells] using hm)
theorem src_ne {S : Src} {n it : Nat} (h : S.low n) (hb : n ≤ it) : ∀ a, S.val = .ref a → a ≠ it := by
  intro a ea
  cases S with
  | tup b => cases ea; exact Nat.ne_of_lt (Nat.lt_of_lt_of_le h hb)
  | lst b => cases ea; exact Nat.ne_of_lt (Nat.lt_of_lt_of_le h hb)
  | txt x => cases ea
section
variable {X : Cx} {pins : List (Addr × Obj)} {σ : L2.St} {H : Hp} {s : Shared} {S : Src} {xs ys : List V}
theorem src_inj (I : Inv X pins σ H s) (h : SrcAt X.K H S xs) (h' : SrcAt X.K H S ys) : xs = ys := by
  cases S with
  | tup a => exact I.tuple_inj h h'
  | lst a => exact I.list_inj h h'
  | txt x => exact Eq.trans h (Eq.symm h')
theorem vals_nth {us : List Value} (r : Vals xs us) {j : Nat} {v : Value} (e : us.toArray[j]? = some v) : ∃ x, xs[j]? = some x ∧ RelV x v := by
  have e' : us[j]? = some v := by simpa using e
  have hj : j < us.length := (List.getElem?_eq_some_iff.mp e').1
  have hx : j < xs.length := by rw [r.length]; exact hj
  obtain ⟨u, hu, ru⟩ := r.get (List.getElem?_eq_getElem hx)
  rw [e'] at hu; cases hu
  exact ⟨_, List.getElem?_eq_getElem hx, ru⟩
/-- its draws, and its end at any turn behind the items -/
structure SrcDraws (P : Program) (w : World) (A : Around) (S : Src) (it : Addr) (xs : List V) (i : Nat) (h : Heap) where
  n : Nat
  V_ : Nat → Value → Prop
  St_ : Nat → Heap → Prop
  D : Draws P w A it (S.cells it) n V_ St_
  at_ : St_ i h
  val : ∀ j v, V_ j v → ∃ x, xs[j]? = some x ∧ RelV x v
  next : ∀ j h, St_ j h → SrcIt S it j h
  more : i < xs.length → i < n
  last : xs.length ≤ i → i = n
theorem src_next (hh : X.A.handled = none) (I : Inv X pins σ H s) {it i : Nat} (hne : ∀ a, S.val = .ref a → a ≠ it) (h : SrcAt X.K H S xs) (hi : SrcIt S it i s.heap) : Nonempty (SrcDraws X.prog X.w X.A.in1 S it xs i s.heap) := by
  have hh1 : X.A.in1.handled = none := hh
  by_cases hlt : i < xs.length
  · cases S with
    | tup a =>
      obtain ⟨us, r, p, _⟩ := I.tuple h
      exact ⟨{ n := _, V_ := _, St_ := _, D := Draws.tuple hh1 it a (hne a rfl) us.toArray, at_ := ⟨hi, p⟩, val := fun j v e => vals_nth r e, next := fun j h q => q.1, more := fun h1 => (by rw [List.size_toArray, ← r.length]; exact h1), last := fun h2 => absurd hlt (by omega) }⟩
    | lst a =>
      obtain ⟨us, r, p, _⟩ := I.list h
      exact ⟨{ n := _, V_ := _, St_ := _, D := Draws.list hh1 it a (hne a rfl) us.toArray, at_ := ⟨hi, p.isList⟩, val := fun j v e => vals_nth r e, next := fun j h q => q.1, more := fun h1 => (by rw [List.size_toArray, ← r.length]; exact h1), last := fun h2 => absurd hlt (by omega) }⟩
    | txt x =>
      obtain ⟨t, hi⟩ := hi
      have h0 : xs = x.cps.toList.map fun ch => V.str ⟨#[ch]⟩ := h
      subst h0
      refine ⟨{ n := _, V_ := _, St_ := _, D := Draws.text hh1 it x t, at_ := hi, val := ?_, next := fun j h q => ⟨t, q⟩, more := fun h1 => (by simpa using h1), last := fun h2 => absurd hlt (by omega) }⟩
      rintro j v ⟨ch, u, e1, rfl⟩
      have e2 : x.cps.toList[j]? = some ch := by simpa using e1
      exact ⟨.str ⟨#[ch]⟩, by rw [List.getElem?_map, e2]; rfl, ⟨u, rfl⟩⟩
  · have hge : xs.length ≤ i := by omega
    cases S with
    | tup a =>
      obtain ⟨us, r, p, _⟩ := I.tuple h
      refine ⟨{ n := i, V_ := fun _ _ => False, St_ := (fun j h => j = i ∧ h.IsTupleIter it a j ∧ h.IsTuple a us.toArray), D := ?_, at_ := ⟨rfl, hi, p⟩, val := fun j v e => e.elim, next := fun j h q => q.2.1, more := fun h1 => absurd h1 hlt, last := fun _ => rfl }⟩
      refine ⟨fun _ _ st => let ⟨o, ho, _⟩ := st.2.1; ⟨o, ho⟩, fun _ _ _ st hk => ⟨st.1, st.2.1.at fun o e => hk it (by simp [Src.cells]) o e, st.2.2.at fun o e => hk a (by simp [Src.cells]) o e⟩, fun j s Q E hj st _ => absurd st.1 (by omega), fun s Q E st hE => ?_⟩
      exact wpAny_nextOf_tuple_end hh1 st.2.1 st.2.2 (by rw [List.getElem?_toArray]; exact List.getElem?_eq_none (by rw [← r.length]; exact hge)) hE
    | lst a =>
      obtain ⟨us, r, p, _⟩ := I.list h
      refine ⟨{ n := i, V_ := fun _ _ => False, St_ := (fun j h => j = i ∧ h.IsListIter it a j ∧ h.IsList a us.toArray), D := ?_, at_ := ⟨rfl, hi, p.isList⟩, val := fun j v e => e.elim, next := fun j h q => q.2.1, more := fun h1 => absurd h1 hlt, last := fun _ => rfl }⟩
      refine ⟨fun _ _ st => let ⟨o, ho, _⟩ := st.2.1; ⟨o, ho⟩, fun _ _ _ st hk => ⟨st.1, st.2.1.at fun o e => hk it (by simp [Src.cells]) o e, st.2.2.at fun o e => hk a (by simp [Src.cells]) o e⟩, fun j s Q E hj st _ => absurd st.1 (by omega), fun s Q E st hE => ?_⟩
      exact wpAny_nextOf_list_end hh1 st.2.1 st.2.2 (by rw [List.getElem?_toArray]; exact List.getElem?_eq_none (by rw [← r.length]; exact hge)) hE
    | txt x =>
      obtain ⟨t, hi⟩ := hi
      have h0 : xs = x.cps.toList.map fun ch => V.str ⟨#[ch]⟩ := h
      subst h0
      have hge2 : x.cps.size ≤ i := by simpa using hge
      refine ⟨{ n := i, V_ := fun _ _ => False, St_ := (fun j h => j = i ∧ h.IsStrIter it (strIterType x) x t j), D := ?_, at_ := ⟨rfl, hi⟩, val := fun j v e => e.elim, next := fun j h q => ⟨t, q.2⟩, more := fun h1 => absurd h1 hlt, last := fun _ => rfl }⟩
      refine ⟨fun _ _ st => let ⟨o, ho, _⟩ := st.2; ⟨o, ho⟩, fun _ _ _ st hk => let ⟨o, ho, q⟩ := st.2; ⟨st.1, o, hk it (by simp [Src.cells]) o ho, q⟩, fun j s Q E hj st _ => absurd st.1 (by omega), fun s Q E st hE => ?_⟩
      have st2 := st.2
      cases ha : x.cps.all (· < 128) with
      | false =>
        simp only [strIterType, ha, Bool.false_eq_true, if_false] at st2
        exact wpAny_nextOf_wide_end hh1 st2 (Array.getElem?_eq_none hge2) hE
      | true =>
        simp only [strIterType, ha, if_true] at st2
        exact wpAny_nextOf_ascii_end hh1 st2 (Array.getElem?_eq_none hge2) hE
/-- how it begins -/
theorem src_begin (I : Inv X pins σ H s) (h : SrcAt X.K H S xs) {u : Value} (r : RelV S.val u) : ∃ o C, Begins u o C ∧ C s.heap ∧ S.low s.heap.objs.size ∧ ∀ h' it, h'.get? it = some o → SrcIt S it 0 h' := by
  cases S with
  | tup a =>
    obtain ⟨us, _, p, _⟩ := I.tuple h
    obtain rfl : u = .ref a := r
    obtain ⟨o, ho, _⟩ := id p
    exact ⟨_, _, begins_tuple a us.toArray, p, Heap.lt_size ho, fun h' it e => ⟨_, e, rfl, rfl⟩⟩
  | lst a =>
    obtain ⟨us, _, p, _⟩ := I.list h
    obtain rfl : u = .ref a := r
    exact ⟨_, _, begins_list a us.toArray, p.isList, p.lt, fun h' it e => ⟨_, e, rfl, rfl⟩⟩
  | txt x =>
    obtain ⟨t, rfl⟩ := r
    exact ⟨_, _, begins_text x t, trivial, trivial, fun h' it e => ⟨t, _, e, rfl, rfl⟩⟩
end

/-! ### enumerate -/
/-- each item with its number, in a new pair -/
def ItE (K : PySem.W.Frag) (S : Src) : It where
  go := fun i H => ∃ xs x, SrcAt K H S xs ∧ xs[i]? = some x
  yld := fun i H v H' => ∃ T x, v = .ref T ∧ H T = none ∧ H' = L2.upd H T (.tup [.int (i : Nat), x]) ∧ ∀ xs, SrcAt K H S xs → xs[i]? = some x
  stop := fun i H => ∃ xs, SrcAt K H S xs ∧ xs.length ≤ i
theorem turn_enumS {P : Program} {w : World} {K : PySem.W.Frag} {elts : List Expr} {kk : Nat} {tpos : Pos} {S : Src} {n e it : Addr} (hl : S.low n) (he : n ≤ e) (hi : n ≤ it) (hne : e ≠ it) :
    Turn P w K (.Tuple elts kk tpos) (ItE K S) [e, it] e (fun i h => (∃ old, IsEnum h e it ((i : Nat) : Int) old) ∧ SrcIt S it i h) where
  mem := by simp
  obj := fun i h st b hb => by
    obtain ⟨⟨old, h1⟩, h2⟩ := st
    rcases (by simpa using hb : b = e ∨ b = it) with rfl | rfl
    · exact ⟨_, h1, fun v z => nomatch z⟩
    · cases S with
      | tup a => obtain ⟨o, ho, _, hd⟩ := h2; exact ⟨o, ho, fun v z => by rw [hd] at z; cases z⟩
      | lst a => obtain ⟨o, ho, _, hd⟩ := h2; exact ⟨o, ho, fun v z => by rw [hd] at z; cases z⟩
      | txt x => obtain ⟨t, o, ho, _, hd⟩ := h2; exact ⟨o, ho, fun v z => by rw [hd] at z; cases z⟩
  keep := fun i h h' st k => by
    obtain ⟨⟨old, h1⟩, h2⟩ := st
    refine ⟨⟨old, k e (by simp) _ h1⟩, ?_⟩
    cases S with
    | tup a => exact Heap.IsTupleIter.at h2 fun o q => k it (by simp) o q
    | lst a => exact Heap.IsListIter.at h2 fun o q => k it (by simp) o q
    | txt x => obtain ⟨t, o, ho, q⟩ := h2; exact ⟨t, o, k it (by simp) o ho, q⟩
  item := by
    intro X hP hw hK hc i pins s σ H E I hf st hg
    subst hP hw hK
    obtain ⟨⟨old, h1⟩, h2⟩ := st
    obtain ⟨xs, x, hq, hx⟩ := hg
    have hne' : ∀ a, S.val = .ref a → a ≠ it := src_ne hl hi
    obtain ⟨d⟩ := src_next (I.ok.hd hc) I hne' hq h2
    have hx1 : i < xs.length := (List.getElem?_eq_some_iff.mp hx).1
    have hel : e < s.heap.objs.size := Heap.lt_size h1
    refine wpAny_pyNext_enum_itemD d.D h1 d.at_ (d.more hx1) hne (Src.off hl he hne) fun u h' tk hu ho hst hT hsz hk => ?_
    refine ⟨_, rfl, wpAny_letOwnedTupleGo_enum (s := { s with heap := h', toks := tk + 1 }) ho fun h'' he' sb => ?_⟩
    obtain ⟨y, hy, ru⟩ := d.val _ _ hu
    rw [hx] at hy; cases hy
    have hT2 : h''.get? s.heap.objs.size = some { cls := .type "tuple", data := .seq #[.int i tk, u] } := (sb.2 _ (Nat.ne_of_gt hel)).trans hT
    have nw : ObjOk X.prog X.w (L2.upd H s.heap.objs.size (.tup [.int (i : Nat), x])) h'' s.heap.objs.size (.tup [.int (i : Nat), x]) := ⟨by show 2 ≤ sizeLine; decide, [.int i tk, u], .cons ⟨_, rfl⟩ (.cons ru .nil), ⟨_, hT2, rfl, _, rfl⟩⟩
    have J := I.turnedNew (ch := [e, it]) (t' := tk + 1) (h' := h'') (fun b ob hb q => (sb.2 b (fun z => hb (by simp [z]))).trans (hk b ob (fun z => hb (by simp [z])) (fun z => hb (by simp [z])) q)) hf (Nat.le_refl _) nw
    have hsz2 : ∀ b, b ∈ [e, it] → b < s.heap.objs.size := fun b hb => by
      rcases (by simpa using hb : b = e ∨ b = it) with rfl | rfl
      · exact hel
      · obtain ⟨o, ho⟩ := d.D.live _ _ d.at_
        exact Heap.lt_size ho
    refine ⟨.ref s.heap.objs.size, _, J, rfl, ⟨_, x, rfl, I.hok.fresh (Nat.le_refl _), rfl, fun zs hz => by rw [src_inj I hz hq]; exact hx⟩, ⟨⟨u, ?_⟩, ?_⟩, fun b hb => ?_⟩
    · rw [show ((i + 1 : Nat) : Int) = (i : Int) + 1 by omega]; exact he'
    · have q := d.next _ _ hst
      cases S with
      | tup a => exact Heap.IsTupleIter.at q fun o z => (sb.2 it (Ne.symm hne)).trans z
      | lst a => exact Heap.IsListIter.at q fun o z => (sb.2 it (Ne.symm hne)).trans z
      | txt x => obtain ⟨t, o, ho, z⟩ := q; exact ⟨t, o, (sb.2 it (Ne.symm hne)).trans ho, z⟩
    · rw [upd_ne (Nat.ne_of_lt (hsz2 b hb))]; exact (hf b hb).1
  done := by
    intro X hP hw hK hc i pins s σ H E I hf st hg
    subst hP hw hK
    obtain ⟨⟨old, h1⟩, h2⟩ := st
    obtain ⟨xs, hq, hx⟩ := hg
    have hne' : ∀ a, S.val = .ref a → a ≠ it := src_ne hl hi
    obtain ⟨d⟩ := src_next (I.ok.hd hc) I hne' hq h2
    obtain ⟨f0, f1, f2, f3, f4, f5⟩ := hf it (by simp)
    exact wpAny_pyNext_enum_endD d.D h1 (d.last hx ▸ d.at_) fun h' eb => ⟨rfl, I.turned (t' := s.toks) (fun b o hb q => eb b o hb q) f0 f1 f3 f4 f5⟩
  self := fun A i s Q E st h => let ⟨⟨_, h1⟩, _⟩ := st; wpAny_pyIter_enum h1 h
/-- enumerate(v) is made -/
theorem meets_enum1 {v : Value} {o : Obj} {C : Heap → Prop} (B : Begins v o C) : Meets (Builtin.«enumerate.__new__» ⟨[.type "enumerate", v], []⟩) (fun _ R s => C s.heap ∧
    R (.ok (.ret (.ref (s.heap.push o).objs.size))) { s with heap := (s.heap.push o).push { cls := .type "enumerate", data := .fields #[.none, .bool false, .ref s.heap.objs.size, rawInt 0, .none, .none] } }) :=
  .of_wp fun prog w A R s h => by
    obtain ⟨hp, g, d, tk, os⟩ := s
    obtain ⟨hc, h⟩ := h
    have hsub := sub_enumerate
    have q1 : ∀ {A' : Around} {E : Value → Shared → Prop} {Q : Value → Shared → Prop} {t' : Nat}, Q (.ref hp.objs.size) ⟨hp.push o, g, d, t', os⟩ → wpAny (model prog w) A' (pyIter v) Q E ⟨hp, g, d, t', os⟩ := fun {_ E Q t'} q => B.iter prog w _ E ⟨hp, g, d, t', os⟩ Q hc q
    wp_walk
    refine wpAny_stack_any fun st => wpAny_pure ?_
    split
    · rename_i c _ _ _ _ _
      cases (c == Value.type "enumerate")
      · wp_walk using q1
        exact ⟨_, rfl, h⟩
      · wp_walk using q1
        exact ⟨_, rfl, h⟩
    · wp_walk using q1
      exact ⟨_, rfl, h⟩
theorem call_enum1 {prog : Program} {w : World} {A : Around} {E : Value → Shared → Prop} {s : Shared} {v : Value} {o : Obj} {C : Heap → Prop} {Q : Value → Shared → Prop} (B : Begins v o C) (hc : C s.heap)
    (h : ∀ h', IsEnum h' (s.heap.objs.size + 1) s.heap.objs.size 0 .none → h'.get? s.heap.objs.size = some o → (∀ b ob, s.heap.get? b = some ob → h'.get? b = some ob) → Q (.ref (s.heap.objs.size + 1)) { s with heap := h' }) : wpAny (model prog w) A (call (.type "enumerate") [v]) Q E s := by
  refine callType_new F.called_enumerate (by decide) (F.typeCall_enumerate_1 _) (F.newCall_enumerate_1 _) (fun obj => F.args_object_init_2 obj _) F.entry_enumerate_new (meets_enum1 B) ⟨hc, ?_⟩
  have hz : (s.heap.push o).objs.size = s.heap.objs.size + 1 := Heap.size_push ..
  have g2 := Heap.get?_push_size (s.heap.push o) (o := { cls := .type "enumerate", data := .fields #[.none, .bool false, .ref s.heap.objs.size, rawInt 0, .none, .none] }) rfl
  rw [hz] at g2
  show _ ∧ _
  rw [hz]
  exact ⟨⟨_, g2, rfl⟩, h _ g2 (Heap.get?_push_of_some _ (Heap.get?_push_size _ B.free)) fun b ob q => Heap.get?_push_of_some _ (Heap.get?_push_of_some _ q)⟩
def iEnumS (K : PySem.W.Frag) (ta : TA) : TI := fun σ H R => ta σ H fun vs H1 => ∃ S xs, vs = [Src.val S] ∧ SrcAt K H1 S xs ∧ R (ItE K S) H1
theorem pi_enumS {X : Cx} {e : Expr} {ta : TA} {p pos tpos : Pos} {elts : List Expr} {kk : Nat} (hg : Gl X "enumerate") (hm : X.mg "enumerate" = none) (ha : PA X [e] ta) (hs : starEach [e] X.env = [(false, eval e X.env)]) :
    PI X (.Tuple elts kk tpos) (.Call (.Name "enumerate" p) [e] [] pos) (iEnumS X.K ta) := by
  refine ⟨fun pins s σ H R I h => ?_⟩
  refine Call_ (ld_blt I hg hm boot_enumerate (PyProof.Rows.callWith_type1 (thn (ha.run pos pins s σ H _ I h) fun us s1 ⟨vs, H1, I1, r1, S, xs, ev, hq, q⟩ => ?_) hs rfl))
  subst ev
  cases r1 with
  | cons r rr =>
    cases rr
    obtain ⟨o, C, B, hc, hl, hit⟩ := src_begin I1 hq r
    refine call_enum1 B hc fun h' h1 h2 hk => wpAny_pyIter_enum h1 ?_
    have I2 : Inv X pins σ H1 { s1 with heap := h' } := I1.kept (t' := s1.toks) hk
    refine ⟨s1.heap.objs.size + 1, [s1.heap.objs.size + 1, s1.heap.objs.size], _, _, H1, rfl, I2, turn_enumS hl (Nat.le_succ _) (Nat.le_refl _) (Nat.succ_ne_self _), ⟨⟨.none, h1⟩, hit h' _ h2⟩, fun b hb => ?_, q⟩
    have hle : s1.heap.objs.size ≤ b := by
      rcases (by simpa using hb : b = s1.heap.objs.size + 1 ∨ b = s1.heap.objs.size) with rfl | rfl
      · exact Nat.le_succ _
      · exact Nat.le_refl _
    exact I1.fpOk hle (I1.hok.fresh hle)
end Zy
end
section
set_option Elab.async false
set_option linter.all false
set_option maxRecDepth 100000
set_option maxHeartbeats 4000000
set_option autoImplicit false
/-! zip over tuples, lists, texts in any mix -/
namespace Zy
open PySem PySem.Spec PyProof.Rows L2
theorem adn {a b : Nat} (h : a < b ∨ b < a) : a ≠ b := by omega
/-- the items of both, in new pairs -/
def ItZ (K : PySem.W.Frag) (S T : Src) : It where
  go := fun i H => ∃ xs ys x y, SrcAt K H S xs ∧ SrcAt K H T ys ∧ xs[i]? = some x ∧ ys[i]? = some y
  yld := fun i H v H' => ∃ p x y, v = .ref p ∧ H p = none ∧ H' = L2.upd H p (.tup [x, y]) ∧ (∀ xs, SrcAt K H S xs → xs[i]? = some x) ∧ ∀ ys, SrcAt K H T ys → ys[i]? = some y
  stop := fun i H => ∃ xs ys, SrcAt K H S xs ∧ SrcAt K H T ys ∧ (xs.length ≤ i ∨ ys.length ≤ i)
theorem srcIt_keep {S : Src} {it i : Nat} {h h' : Heap} (q : SrcIt S it i h) (k : ∀ o, h.get? it = some o → h'.get? it = some o) : SrcIt S it i h' := by
  cases S with
  | tup a => exact Heap.IsTupleIter.at q k
  | lst a => exact Heap.IsListIter.at q k
  | txt x => obtain ⟨t, o, ho, z⟩ := q; exact ⟨t, o, k o ho, z⟩
theorem srcIt_obj {S : Src} {it i : Nat} {h : Heap} (q : SrcIt S it i h) : ∃ o, h.get? it = some o ∧ ∀ v, o.data ≠ .cell v := by
  cases S with
  | tup a => obtain ⟨o, ho, _, hd⟩ := q; exact ⟨o, ho, fun v z => by rw [hd] at z; cases z⟩
  | lst a => obtain ⟨o, ho, _, hd⟩ := q; exact ⟨o, ho, fun v z => by rw [hd] at z; cases z⟩
  | txt x => obtain ⟨t, o, ho, _, hd⟩ := q; exact ⟨o, ho, fun v z => by rw [hd] at z; cases z⟩
theorem five_lt {n m b : Nat} (hb : b ∈ [n + 4, n + 2, n + 3, n, n + 1]) (h : n + 4 < m) : b < m := by
  rcases (by simpa using hb : b = n + 4 ∨ b = n + 2 ∨ b = n + 3 ∨ b = n ∨ b = n + 1) with z | z | z | z | z <;> omega
theorem five_le {n b : Nat} (hb : b ∈ [n + 4, n + 2, n + 3, n, n + 1]) : n ≤ b := by
  rcases (by simpa using hb : b = n + 4 ∨ b = n + 2 ∨ b = n + 3 ∨ b = n ∨ b = n + 1) with z | z | z | z | z <;> omega
theorem zsep {S T : Src} {n : Nat} (h1 : S.low n) (h2 : T.low n) : ZipSep2 (n + 4) (n + 2) (n + 3) n (n + 1) (S.cells n) (T.cells (n + 1)) := by
  have a1 : ∀ b, n ≤ b → b ≠ n → b ∉ S.cells n := fun b hb hn => Src.off h1 hb hn
  have a2 : ∀ b, n ≤ b → b ≠ n + 1 → b ∉ T.cells (n + 1) := fun b hb hn => Src.off h2 hb hn
  exact ⟨adn (by omega), adn (by omega), adn (by omega), adn (by omega), S.mem n, a1 _ (by omega) (adn (by omega)), a1 _ (by omega) (adn (by omega)), adn (by omega), T.mem (n + 1), a2 _ (by omega) (adn (by omega)), a2 _ (by omega) (adn (by omega)), a2 _ (by omega) (adn (by omega)), a1 _ (by omega) (adn (by omega))⟩
theorem turn_zipS {P : Program} {w : World} {K : PySem.W.Frag} {elts : List Expr} {kk : Nat} {tpos : Pos} {S T : Src} {n : Nat} (hl1 : S.low n) (hl2 : T.low n) :
    Turn P w K (.Tuple elts kk tpos) (ItZ K S T) [n + 4, n + 2, n + 3, n, n + 1] (n + 4)
      (fun i h => IsZip h (n + 4) (n + 2) (n + 3) .none ∧ IsTupOf2 h (n + 2) (.ref n) (.ref (n + 1)) ∧ (∃ x y, IsTupOf2 h (n + 3) x y) ∧ SrcIt S n i h ∧ SrcIt T (n + 1) i h) where
  mem := by simp
  obj := fun i h st b hb => by
    obtain ⟨h1, h2, ⟨x, y, h3⟩, h4, h5⟩ := st
    rcases (by simpa using hb : b = n + 4 ∨ b = n + 2 ∨ b = n + 3 ∨ b = n ∨ b = n + 1) with rfl | rfl | rfl | rfl | rfl
    · exact ⟨_, h1, fun v z => nomatch z⟩
    · exact ⟨_, h2, fun v z => nomatch z⟩
    · exact ⟨_, h3, fun v z => nomatch z⟩
    · exact srcIt_obj h4
    · exact srcIt_obj h5
  keep := fun i h h' st k => by
    obtain ⟨h1, h2, ⟨x, y, h3⟩, h4, h5⟩ := st
    exact ⟨k _ (by simp) _ h1, k _ (by simp) _ h2, ⟨x, y, k _ (by simp) _ h3⟩, srcIt_keep h4 fun o q => k _ (by simp) o q, srcIt_keep h5 fun o q => k _ (by simp) o q⟩
  item := by
    intro X hP hw hK hc i pins s σ H E I hf st hg
    subst hP hw hK
    obtain ⟨h1, h2, ⟨x0, y0, h3⟩, h4, h5⟩ := st
    obtain ⟨xs, ys, x, y, qx, qy, hx, hy⟩ := hg
    have n1 : ∀ a, S.val = .ref a → a ≠ n := src_ne hl1 (Nat.le_refl _)
    have n2 : ∀ a, T.val = .ref a → a ≠ n + 1 := src_ne hl2 (Nat.le_succ _)
    obtain ⟨d1⟩ := src_next (I.ok.hd hc) I n1 qx h4
    obtain ⟨d2⟩ := src_next (I.ok.hd hc) I n2 qy h5
    have hx1 : i < xs.length := (List.getElem?_eq_some_iff.mp hx).1
    have hy1 : i < ys.length := (List.getElem?_eq_some_iff.mp hy).1
    have hzl : n + 4 < s.heap.objs.size := Heap.lt_size h1
    refine wpAny_pyNext_zipD2_item (zsep hl1 hl2) d1.D d2.D h1 h2 h3 d1.at_ d2.at_ (d1.more hx1) (d2.more hy1) fun u v h' tk hu hv g1 g2 g3 g4 hT hsz hk => ?_
    refine ⟨_, rfl, wpAny_letOwnedTupleGo_zip (s := { s with heap := h', toks := tk }) g1 fun h'' z'' sb => ?_⟩
    obtain ⟨x', ex, rx⟩ := d1.val _ _ hu
    obtain ⟨y', ey, ry⟩ := d2.val _ _ hv
    rw [hx] at ex; cases ex
    rw [hy] at ey; cases ey
    have hT2 : h''.get? s.heap.objs.size = some { cls := .type "tuple", data := .seq #[u, v] } := (sb.2 _ (Nat.ne_of_gt hzl)).trans hT
    have nw : ObjOk X.prog X.w (L2.upd H s.heap.objs.size (.tup [x, y])) h'' s.heap.objs.size (.tup [x, y]) := ⟨by show 2 ≤ sizeLine; decide, [u, v], .cons rx (.cons ry .nil), ⟨_, hT2, rfl, _, rfl⟩⟩
    have J := I.turnedNew (ch := [n + 4, n + 2, n + 3, n, n + 1]) (t' := tk) (h' := h'') (fun b ob hb q => (sb.2 b (fun z => hb (by simp [z]))).trans (hk b ob (fun z => hb (by simp [z])) (fun z => hb (by simp [z])) (fun z => hb (by simp [z])) (fun z => hb (by simp [z])) q)) hf (Nat.le_refl _) nw
    refine ⟨.ref s.heap.objs.size, _, J, rfl, ⟨_, x, y, rfl, I.hok.fresh (Nat.le_refl _), rfl, fun zs hz => by rw [src_inj I hz qx]; exact hx, fun zs hz => by rw [src_inj I hz qy]; exact hy⟩, ⟨z'', ?_, ⟨u, v, ?_⟩, ?_, ?_⟩, fun b hb => ?_⟩
    · exact (sb.2 _ (adn (by omega))).trans (hk _ _ (adn (by omega)) (adn (by omega)) (adn (by omega)) (adn (by omega)) h2)
    · exact (sb.2 _ (adn (by omega))).trans g2
    · exact srcIt_keep (d1.next _ _ g3) fun o q => (sb.2 _ (adn (by omega))).trans q
    · exact srcIt_keep (d2.next _ _ g4) fun o q => (sb.2 _ (adn (by omega))).trans q
    · rw [upd_ne (Nat.ne_of_lt (five_lt hb hzl))]; exact (hf b hb).1
  done := by
    intro X hP hw hK hc i pins s σ H E I hf st hg
    subst hP hw hK
    obtain ⟨h1, h2, ⟨x0, y0, h3⟩, h4, h5⟩ := st
    obtain ⟨xs, ys, qx, qy, hend⟩ := hg
    have n1 : ∀ a, S.val = .ref a → a ≠ n := src_ne hl1 (Nat.le_refl _)
    have n2 : ∀ a, T.val = .ref a → a ≠ n + 1 := src_ne hl2 (Nat.le_succ _)
    obtain ⟨d1⟩ := src_next (I.ok.hd hc) I n1 qx h4
    obtain ⟨d2⟩ := src_next (I.ok.hd hc) I n2 qy h5
    have l1 : i ≤ d1.n := by
      by_cases h : i < xs.length
      · exact Nat.le_of_lt (d1.more h)
      · exact Nat.le_of_eq (d1.last (by omega))
    have l2 : i ≤ d2.n := by
      by_cases h : i < ys.length
      · exact Nat.le_of_lt (d2.more h)
      · exact Nat.le_of_eq (d2.last (by omega))
    exact wpAny_pyNext_zipD2_end (zsep hl1 hl2) d1.D d2.D h1 h2 h3 d1.at_ d2.at_ l1 l2 (hend.imp d1.last d2.last) fun h' tk hk => ⟨rfl, I.turnedL (t' := tk) (ch := [n + 4, n + 2, n + 3, n, n + 1]) (fun c o hb q =>
      hk c o (fun z => hb (by simp [z])) (fun z => hb (by simp [z])) (fun z => hb (by simp [z])) (fun z => hb (by simp [z])) q) hf⟩
  self := fun A i s Q E st h => wpAny_pyIter_zip st.1 h
def iZipS (K : PySem.W.Frag) (ta : TA) : TI := fun σ H R => ta σ H fun vs H1 => ∃ S T xs ys, vs = [Src.val S, Src.val T] ∧ SrcAt K H1 S xs ∧ SrcAt K H1 T ys ∧ R (ItZ K S T) H1
theorem pi_zipS {X : Cx} {e e2 : Expr} {ta : TA} {p pos tpos : Pos} {elts : List Expr} {kk : Nat} (hg : Gl X "zip") (hm : X.mg "zip" = none) (ha : PA X [e, e2] ta)
    (hs : starEach [e, e2] X.env = (false, eval e X.env) :: starEach [e2] X.env) (hpl : (backTo pos (starEach [e2] X.env)).any (·.1) = false) : PI X (.Tuple elts kk tpos) (.Call (.Name "zip" p) [e, e2] [] pos) (iZipS X.K ta) := by
  refine ⟨fun pins s σ H R I h => ?_⟩
  refine Call_ (ld_blt I hg hm PyProof.Rows.boot_zip (PyProof.Rows.callWith_type1 (thn (ha.run pos pins s σ H _ I h) fun us s1 ⟨vs, H1, I1, r1, S, T, xs, ys, ev, qx, qy, q⟩ => ?_) hs hpl))
  subst ev
  cases r1 with
  | cons r rr =>
    cases rr with
    | cons r' rr =>
      cases rr
      obtain ⟨o1, C1, B1, c1, l1, i1⟩ := src_begin I1 qx r
      obtain ⟨o2, C2, B2, c2, l2, i2⟩ := src_begin I1 qy r'
      refine zip_begins2 B1 B2 c1 c2 fun h' g1 g2 g3 g4 g5 hsz hk => wpAny_pyIter_zip g1 ?_
      have I2 : Inv X pins σ H1 { s1 with heap := h' } := I1.kept (t' := s1.toks) hk
      refine ⟨s1.heap.objs.size + 4, [s1.heap.objs.size + 4, s1.heap.objs.size + 2, s1.heap.objs.size + 3, s1.heap.objs.size, s1.heap.objs.size + 1], _, _, H1, rfl, I2, turn_zipS l1 l2, ⟨g1, g2, ⟨_, _, g3⟩, i1 h' _ g4, i2 h' _ g5⟩, fun b hb => ?_, q⟩
      have hle : s1.heap.objs.size ≤ b := five_le hb
      exact I1.fpOk hle (I1.hok.fresh hle)

/-! ### in Z -/
def enumZ (xs : List Z) : List Z := xs.zipIdx.map fun q => .tup [.int (q.2 : Nat), q.1]
def zipZ (xs ys : List Z) : List Z := (xs.zip ys).map fun q => .tup [q.1, q.2]
theorem enumZ_get (xs : List Z) (i : Nat) : (enumZ xs)[i]? = xs[i]?.map fun z => .tup [.int (i : Nat), z] := by
  unfold enumZ
  rw [List.getElem?_map, List.getElem?_zipIdx]
  cases xs[i]? <;> simp
theorem zipZ_get (xs ys : List Z) (i : Nat) : (zipZ xs ys)[i]? = match xs[i]?, ys[i]? with | some x, some y => some (.tup [x, y]) | _, _ => none := by
  unfold zipZ
  rw [List.getElem?_map]
  simp only [List.zip, List.getElem?_zipWith]
  cases xs[i]? <;> cases ys[i]? <;> simp
/-- what a source's items are, later too -/
structure WkS (c : C) (ρ : List Addr) (H : Hp) (w : Wk) (S : Src) : Prop where
  get : ∀ ρ1 H1 G1 i o, Ext ρ H ρ1 H1 → Rel c ρ1 H1 G1 → itNext w G1 i = some o → ∃ zs vs, SrcAt c.K H1 S vs ∧ RZs c ρ1 H1 zs vs ∧ zs[i]? = o
section
variable {c : C} {ρ : List Addr} {H : Hp} {G : GH}
theorem wks_of {x : Z} {v : V} (R : Rel c ρ H G) (r : RZ c ρ H x v) {w : Wk} (e : toItr G x = some w) : ∃ S vs, v = Src.val S ∧ SrcAt c.K H S vs ∧ WkS c ρ H w S := by
  cases x with
  | tup xs =>
    obtain ⟨a, vs, rfl, h1, h2⟩ := un_tup r
    cases e
    exact ⟨.tup a, vs, rfl, h1, ⟨fun ρ1 H1 G1 i o e1 R1 hn => ⟨xs, vs, e1.st.seq h1, h2.mono e1, Option.some.inj hn⟩⟩⟩
  | rol xs =>
    unfold RZ at r
    obtain ⟨a, vs, rfl, h1, h2⟩ := r
    cases e
    exact ⟨.lst a, vs, rfl, h1.seq, ⟨fun ρ1 H1 G1 i o e1 R1 hn => ⟨xs, vs, (e1.st.ro h1).seq, h2.mono e1, Option.some.inj hn⟩⟩⟩
  | str y =>
    obtain ⟨hy, rfl⟩ := un_str r
    cases e
    refine ⟨.txt ⟨y.toArray⟩, _, rfl, rfl, ⟨fun ρ1 H1 G1 i o e1 R1 hn => ⟨y.map fun ch => .str [ch], _, rfl, ?_, Option.some.inj hn⟩⟩⟩
    show RZs c ρ1 H1 (y.map fun ch => Z.str [ch]) (y.map fun ch => V.str ⟨#[ch]⟩)
    clear hy r hn R
    induction y with
    | nil => exact .nil
    | cons ch y ih => exact .cons (rz_str (x := [ch]) (by rw [sizeLine_eq]; simp)) ih
  | ref n =>
    obtain ⟨a, ha, rfl⟩ := un_ref r
    unfold toItr at e
    obtain ⟨xs, hx, rfl⟩ := Option.map_eq_some_iff.mp e
    obtain ⟨vs, g1, g2⟩ := R.lstAt hx ha
    refine ⟨.lst a, vs, rfl, SqL.of g1, ⟨fun ρ1 H1 G1 i o e1 R1 hn => ?_⟩⟩
    unfold itNext at hn
    simp only at hn
    split at hn
    · rename_i ys hy
      split at hn
      · obtain ⟨us, k1, k2⟩ := R1.lstAt hy (pre_get e1.pre ha)
        exact ⟨ys, us, SqL.of k1, k2, Option.some.inj hn⟩
      · cases hn
    · cases hn
  | _ => cases e
def enumW : Wk → Option Wk
  | .pure xs => some (.pure (enumZ xs))
  | _ => none
def zipW : Wk → Wk → Option Wk
  | .pure xs, .pure ys => some (.pure (zipZ xs ys))
  | _, _ => none
theorem pair_in {ρ : List Addr} {H : Hp} {G : GH} (R : Rel c ρ H G) {p : Addr} (hp : H p = none) {z1 z2 : Z} {v1 v2 : V} (r1 : RZ c ρ H z1 v1) (r2 : RZ c ρ H z2 v2) :
    Ext ρ H ρ (L2.upd H p (.tup [v1, v2])) ∧ Rel c ρ (L2.upd H p (.tup [v1, v2])) G ∧ RZ c ρ (L2.upd H p (.tup [v1, v2])) (.tup [z1, z2]) (.ref p) := by
  obtain ⟨R2, e2⟩ := R.aside (o := .tup [v1, v2]) hp
  refine ⟨e2, R2, ?_⟩
  unfold RZ
  exact ⟨p, _, rfl, .inl (.inl upd_same), .cons (r1.mono e2) (.cons (r2.mono e2) .nil)⟩
theorem itr_enum {w w' : Wk} {S : Src} (k : WkS c ρ H w S) (e : enumW w = some w') : ItRel c ρ H w' (ItE c.K S) := by
  cases w with
  | pure xs =>
    cases e
    refine ⟨fun ρ1 H1 G1 i z e1 R1 hn => ?_, fun ρ1 H1 G1 i e1 R1 hn => ?_⟩
    · have hz : (enumZ xs)[i]? = some z := Option.some.inj hn
      rw [enumZ_get] at hz
      obtain ⟨x, hx, rfl⟩ := Option.map_eq_some_iff.mp hz
      obtain ⟨zs, vs, q1, q2, q3⟩ := k.get ρ1 H1 G1 i (some x) e1 R1 (congrArg some hx)
      obtain ⟨v, hv, rv⟩ := q2.get q3
      refine ⟨⟨vs, v, q1, hv⟩, fun u H2 hy => ?_⟩
      obtain ⟨T, v', rfl, hT, rfl, hq⟩ := hy
      have := hq vs q1
      rw [hv] at this; cases this
      exact pair_in R1 hT rz_int rv
    · have hz : (enumZ xs)[i]? = none := Option.some.inj hn
      rw [enumZ_get] at hz
      have hx : xs[i]? = none := Option.map_eq_none_iff.mp hz
      obtain ⟨zs, vs, q1, q2, q3⟩ := k.get ρ1 H1 G1 i none e1 R1 (congrArg some hx)
      exact ⟨vs, q1, by rw [← q2.length]; exact List.getElem?_eq_none_iff.mp q3⟩
  | _ => cases e
theorem itr_zip {w1 w2 w' : Wk} {S T : Src} (k1 : WkS c ρ H w1 S) (k2 : WkS c ρ H w2 T) (e : zipW w1 w2 = some w') : ItRel c ρ H w' (ItZ c.K S T) := by
  cases w1 with
  | pure xs =>
    cases w2 with
    | pure ys =>
      cases e
      refine ⟨fun ρ1 H1 G1 i z e1 R1 hn => ?_, fun ρ1 H1 G1 i e1 R1 hn => ?_⟩
      · have hz : (zipZ xs ys)[i]? = some z := Option.some.inj hn
        rw [zipZ_get] at hz
        split at hz
        · rename_i x y hx hy
          cases hz
          obtain ⟨zs, vs, q1, q2, q3⟩ := k1.get ρ1 H1 G1 i (some x) e1 R1 (congrArg some hx)
          obtain ⟨zs', vs', q1', q2', q3'⟩ := k2.get ρ1 H1 G1 i (some y) e1 R1 (congrArg some hy)
          obtain ⟨v, hv, rv⟩ := q2.get q3
          obtain ⟨v', hv', rv'⟩ := q2'.get q3'
          refine ⟨⟨vs, vs', v, v', q1, q1', hv, hv'⟩, fun u H2 hy => ?_⟩
          obtain ⟨p, a, b, rfl, hp, rfl, f1, f2⟩ := hy
          have e1 := f1 vs q1
          have e2 := f2 vs' q1'
          rw [hv] at e1; cases e1
          rw [hv'] at e2; cases e2
          exact pair_in R1 hp rv rv'
        · cases hz
      · have hz : (zipZ xs ys)[i]? = none := Option.some.inj hn
        rw [zipZ_get] at hz
        obtain ⟨zs, vs, q1, q2, q3⟩ := k1.get ρ1 H1 G1 i (xs[i]?) e1 R1 rfl
        obtain ⟨zs', vs', q1', q2', q3'⟩ := k2.get ρ1 H1 G1 i (ys[i]?) e1 R1 rfl
        refine ⟨vs, vs', q1, q1', ?_⟩
        rw [← q2.length, ← q2'.length]
        cases hx : xs[i]? with
        | none => rw [hx] at q3; exact .inl (List.getElem?_eq_none_iff.mp q3)
        | some x =>
          cases hy : ys[i]? with
          | none => rw [hy] at q3'; exact .inr (List.getElem?_eq_none_iff.mp q3')
          | some y => rw [hx, hy] at hz; cases hz
    | _ => cases e
  | _ => cases e
end
def dEnum (a : DA) : DI := fun l G => (a l G).bind fun xs G1 => match xs with
  | [x] => match (toItr G1 x).bind enumW with
    | some w => .ok w G1
    | none => .bad
  | _ => .bad
def dZip (a : DA) : DI := fun l G => (a l G).bind fun xs G1 => match xs with
  | [x, y] => match (toItr G1 x).bind fun w => (toItr G1 y).bind (zipW w) with
    | some w => .ok w G1
    | none => .bad
  | _ => .bad
section
variable {X : Cx} {c : C} {W : WX} {elts : List Expr} {kk : Nat} {p pos tpos : Pos}
theorem si_enum (hK : c.K = X.K) {a : Expr} {as : DA} (hg : Gl X "enumerate") (hm : X.mg "enumerate" = none) (h : PA X [a] (tA c W as)) (hs : starEach [a] X.env = [(false, eval a X.env)]) : PI X (.Tuple elts kk tpos) (.Call (.Name "enumerate" p) [a] [] pos) (tI c W (dEnum as)) :=
  (pi_enumS hg hm h hs).weak fun σ H Q ⟨ρ, G, l, R, hl, q⟩ => tA.bind R hl q fun ρ1 H1 G1 zs vs e1 R1 l1 r1 q1 => by
    split at q1
    · rename_i x
      obtain ⟨v, rfl, r2⟩ := r1.one
      split at q1
      · rename_i w hw
        obtain ⟨w0, h0, h1⟩ := Option.bind_eq_some_iff.mp hw
        obtain ⟨S, us, rfl, k1, k2⟩ := wks_of R1 r2 h0
        exact ⟨S, us, rfl, hK ▸ k1, hK ▸ q1 ρ1 H1 _ (Ext.refl _ _) R1 (itr_enum k2 h1)⟩
      · exact q1.elim
    · exact q1.elim
theorem si_zip (hK : c.K = X.K) {a b : Expr} {as : DA} (hg : Gl X "zip") (hm : X.mg "zip" = none) (h : PA X [a, b] (tA c W as)) (hs : starEach [a, b] X.env = (false, eval a X.env) :: starEach [b] X.env) (hpl : (backTo pos (starEach [b] X.env)).any (·.1) = false) :
    PI X (.Tuple elts kk tpos) (.Call (.Name "zip" p) [a, b] [] pos) (tI c W (dZip as)) :=
  (pi_zipS hg hm h hs hpl).weak fun σ H Q ⟨ρ, G, l, R, hl, q⟩ => tA.bind R hl q fun ρ1 H1 G1 zs vs e1 R1 l1 r1 q1 => by
    split at q1
    · rename_i x y
      obtain ⟨v, v', rfl, r2, r3⟩ := r1.two
      split at q1
      · rename_i w hw
        obtain ⟨w0, h0, h1⟩ := Option.bind_eq_some_iff.mp hw
        obtain ⟨w1, h2, h3⟩ := Option.bind_eq_some_iff.mp h1
        obtain ⟨S, us, rfl, k1, k2⟩ := wks_of R1 r2 h0
        obtain ⟨T, us', rfl, k3, k4⟩ := wks_of R1 r3 h2
        exact ⟨S, T, us, us', rfl, hK ▸ k1, hK ▸ k3, hK ▸ q1 ρ1 H1 _ (Ext.refl _ _) R1 (itr_zip k2 k4 h3)⟩
      · exact q1.elim
    · exact q1.elim
end
end Zy
end
section
set_option Elab.async false
set_option linter.all false
set_option maxRecDepth 100000
set_option maxHeartbeats 4000000
set_option autoImplicit false
/-! comprehensions -/
namespace Zy
open PySem PySem.Spec PyProof.Rows L2
open PySem.SeqAt (RcAt EqAt RcOp firstLt)

/-! ### targets that are names alone -/
mutual
inductive Pat where
  | nm (i : Nat) | tp (ps : Pats)
inductive Pats where
  | nil | cons (p : Pat) (ps : Pats)
end
def Pats.len : Pats → Nat
  | .nil => 0
  | .cons _ ps => ps.len + 1
mutual
def patD (G : GH) : Pat → Z → L → Option L
  | .nm i, z, l => some (l.set i (some z))
  | .tp ps, z, l => match its G z with
    | some xs => if xs.length = ps.len then patDs G ps xs l else none
    | none => none
def patDs (G : GH) : Pats → List Z → L → Option L
  | .nil, [], l => some l
  | .cons p ps, x :: xs, l => match patD G p x l with
    | some l' => patDs G ps xs l'
    | none => none
  | _, _, _ => none
end
mutual
def patG (K : PySem.W.Frag) : Pat → TG
  | .nm i => gName i
  | .tp ps => fun v σ H Q => gTup K ps.len (patGs K ps) v σ H Q ∨ gUnl K ps.len (patGs K ps) v σ H Q
def patGs (K : PySem.W.Frag) : Pats → TGs
  | .nil => gNil
  | .cons p ps => gCons (patG K p) (patGs K ps)
end
mutual
def Pat.slots : Pat → List Nat
  | .nm i => [i]
  | .tp ps => ps.slots
def Pats.slots : Pats → List Nat
  | .nil => []
  | .cons p ps => p.slots ++ ps.slots
end
theorem set_comm' {α : Type} (l : List α) {i j : Nat} (a b : α) (h : i ≠ j) : (l.set i a).set j b = (l.set j b).set i a := List.set_comm a b h
theorem wipe_set {own : List Nat} : ∀ {σ : L2.St} {i : Nat} {x : Option V}, i ∈ own → wipe (σ.set i x) own = wipe σ own := by
  induction own with
  | nil => intro σ i x h; simp at h
  | cons a r ih =>
    intro σ i x h
    unfold wipe
    by_cases hr : i ∈ r
    · rw [ih hr]
    · have : i = a := by
        rcases List.mem_cons.mp h with h | h
        · exact h
        · exact absurd h hr
      subst this
      have aux : ∀ (r : List Nat) (σ : L2.St), i ∉ r → (wipe (σ.set i x) r) = (wipe σ r).set i x := by
        intro r
        induction r with
        | nil => intro σ _; rfl
        | cons b t ih2 =>
          intro σ hb
          unfold wipe
          rw [ih2 σ (fun z => hb (List.mem_cons_of_mem _ z))]
          exact List.set_comm _ _ (fun e => hb (by rw [e]; exact List.mem_cons_self))
      rw [aux r σ hr, List.set_set]
section
variable {c : C} {ρ : List Addr} {H : Hp} {G : GH}
mutual
theorem pat_ok {K : PySem.W.Frag} (hK : c.K = K) {own : List Nat} (R : Rel c ρ H G) : ∀ {p : Pat} {z : Z} {v : V} {l l' : L} {σ : L2.St} {Q : L2.St → Hp → Prop}, patD G p z l = some l' → RL c ρ H l σ → RZ c ρ H z v → (∀ i ∈ p.slots, i ∈ own) →
    (∀ σ', RL c ρ H l' σ' → wipe σ' own = wipe σ own → Q σ' H) → patG K p v σ H Q
  | .nm i, z, v, l, l', σ, Q, h, hl, rz, hs, k => by
    unfold patD at h
    cases h
    unfold patG
    exact k _ (hl.set rz) (wipe_set (hs i (by unfold Pat.slots; simp)))
  | .tp ps, z, v, l, l', σ, Q, h, hl, rz, hs, k => by
    unfold patD at h
    split at h
    · rename_i xs e
      split at h
      · rename_i hz
        unfold patG
        obtain ⟨a, vs, rfl, h1, h2⟩ : ∃ a vs, v = .ref a ∧ RZs c ρ H xs vs ∧ (SqL K H a vs ∨ SqT K H a vs) := by
          cases z with
          | tup ys =>
            have e' : some ys = some xs := e
            cases e'
            obtain ⟨a, vs, rfl, h1, h2⟩ := un_tup rz
            exact ⟨a, vs, rfl, h2, .inr (hK ▸ h1)⟩
          | _ =>
            obtain ⟨a, vs, rfl, h1, h2⟩ := rdl_sound R rz e
            exact ⟨a, vs, rfl, h2, .inl (hK ▸ h1)⟩
        have hp := pats_ok hK (own := own) R (Q := Q) h hl h1 (fun i hi => hs i (by unfold Pat.slots; exact hi)) k
        rcases h2 with h2 | h2
        · exact .inr ⟨a, vs, rfl, h2, by rw [← h1.length]; exact hz, hp⟩
        · exact .inl ⟨a, vs, rfl, h2, by rw [← h1.length]; exact hz, hp⟩
      · cases h
    · cases h
theorem pats_ok {K : PySem.W.Frag} (hK : c.K = K) {own : List Nat} (R : Rel c ρ H G) : ∀ {ps : Pats} {zs : List Z} {vs : List V} {l l' : L} {σ : L2.St} {Q : L2.St → Hp → Prop}, patDs G ps zs l = some l' → RL c ρ H l σ → RZs c ρ H zs vs → (∀ i ∈ ps.slots, i ∈ own) →
    (∀ σ', RL c ρ H l' σ' → wipe σ' own = wipe σ own → Q σ' H) → patGs K ps vs σ H Q
  | .nil, [], vs, l, l', σ, Q, h, hl, rz, hs, k => by
    unfold patDs at h
    cases h
    unfold patGs
    exact ⟨rz.nil_, k _ hl rfl⟩
  | .nil, _ :: _, vs, l, l', σ, Q, h, hl, rz, hs, k => by unfold patDs at h; cases h
  | .cons p ps, [], vs, l, l', σ, Q, h, hl, rz, hs, k => by unfold patDs at h; cases h
  | .cons p ps, z :: zs, vs, l, l', σ, Q, h, hl, rz, hs, k => by
    unfold patDs at h
    split at h
    · rename_i l1 e
      unfold patGs
      unfold RZs at rz
      obtain ⟨v, r, rfl, h1, h2⟩ := rz
      exact ⟨v, r, rfl, pat_ok hK R e hl h1 (fun i hi => hs i (by unfold Pats.slots; simp [hi])) fun σ1 hl1 hw1 => pats_ok hK R h hl1 h2 (fun i hi => hs i (by unfold Pats.slots; simp [hi])) fun σ2 hl2 hw2 => k σ2 hl2 (hw2.trans hw1)⟩
    · cases h
end
end

/-! ### [elt for target in iter if test] -/
/-- the names of a block forgotten -/
theorem RL.wipe {c : C} {ρ : List Addr} {H : Hp} {l : L} {σ : L2.St} (r : RL c ρ H l σ) : ∀ own : List Nat, RL c ρ H (wipeZ l own) (wipe σ own)
  | [] => r
  | v :: vs => (RL.wipe r vs).unset v
/-- the new list stands at n -/
def lcGo (it : Wk) (p : Pat) (t : DT) (e : DE) (n : Nat) (l : L) : Nat → Nat → GH → R Z
  | k, i, G => match itNext it G i with
    | none => .bad
    | some none => .ok (.ref n) G
    | some (some z) => match k with
      | 0 => .bad
      | k + 1 => match patD G p z l with
        | some l1 => match t l1 G with
          | .ok true G2 => match e l1 G2 with
            | .ok y G3 => match lstAt G3 n with
              | some acc => if acc.length < sizeLine then lcGo it p t e n l k (i + 1) (G3.set n (.lst (acc ++ [y]))) else .bad
              | none => .bad
            | _ => .bad
          | .ok false G2 => lcGo it p t e n l k (i + 1) G2
          | _ => .bad
        | none => .bad
def dYes : DT := fun _ G => .ok true G
def dComp (di : DI) (p : Pat) (t : DT) (e : DE) (own : List Nat) : DE := fun l G => (di l G).bind fun it G1 => lcGo it p t e G1.length (wipeZ l own) it.len 0 (G1 ++ [.lst []])
abbrev W0 : WX := fun _ _ _ _ => False
section
variable {X : Cx} {c : C} {W : WX} {tg iter elt : Expr} {ifs : List Expr} {scope : Scope} {own : List (Str × Nat)} {di : DI} {p : Pat} {t : DT} {e : DE} {pos : Pos}
/-- the reading of a comprehension -/
theorem lc_read (hK : c.K = X.K) {σ : L2.St} {H : Hp} {Q : VK} (hp : ∀ i ∈ p.slots, i ∈ own.map (·.2)) (h : tE c W (dComp di p t e (own.map (·.2))) σ H Q) :
    tLc (tI c W di) (patG X.K p) (tT c W0 t) (tE c W0 e) (own.map (·.2)) σ H Q := by
  obtain ⟨ρ, G, l, R, hl, q⟩ := h
  refine ⟨ρ, G, l, R, hl, ?_⟩
  refine RQ.imp (RQ.bind (rel := fun ρ H it J => ItRel c ρ H it J) q) (fun J H1 ⟨ρ1, G1, it, e1, R1, hJ, q1⟩ => ?_) fun _ _ _ h => h
  intro D hD
  have hl1 := hl.mono e1
  obtain ⟨R2, e2⟩ := R1.new (z := .lst []) (o := .lst []) hD ⟨[], rfl, .nil⟩
  refine ⟨fun i m H' => ∃ ρ' G', Ext (ρ1 ++ [D]) (upd H1 D (.lst [])) ρ' H' ∧ Rel c ρ' H' G' ∧ RQ c (RZ c) ρ' H' (lcGo it p t e G1.length (wipeZ l (own.map (·.2))) m i G') Q (atW W σ), ⟨it.len, _, _, Ext.refl _ _, R2, ?_⟩, ?_⟩
  · cases hr : lcGo it p t e G1.length (wipeZ l (own.map (·.2))) it.len 0 (G1 ++ [.lst []]) with
    | bad => rw [hr] at q1; exact q1
    | ok z G' => rw [hr] at q1; exact fun ρ3 H3 v e3 => q1 ρ3 H3 v (e2.trans e3)
    | exc x G' => rw [hr] at q1; exact fun ρ3 H3 cl d e3 => q1 ρ3 H3 cl d (e2.trans e3)
  rintro i m H' ⟨ρ', G', e3, R3, q3⟩
  have hDn : ρ'[G1.length]? = some D := by
    refine pre_get e3.pre ?_
    rw [← R1.len]; exact get_new ρ1 D
  unfold lcGo at q3
  cases hn : itNext it G' i with
  | none => rw [hn] at q3; exact q3.elim
  | some o =>
    rw [hn] at q3
    cases o with
    | none => exact .inl ⟨hJ.stop ρ' H' G' i (e2.trans e3) R3 hn, RQ.here (show RQ c (RZ c) ρ' H' (.ok (.ref G1.length) G') Q (atW W σ) from q3) R3 (rz_ref hDn)⟩
    | some z =>
      obtain ⟨hgo, hy⟩ := hJ.go ρ' H' G' i z (e2.trans e3) R3 hn
      refine .inr ⟨hgo, ?_⟩
      cases m with
      | zero => exact q3.elim
      | succ m =>
        refine ⟨fun H3 => ∃ ρ' G', Ext (ρ1 ++ [D]) (upd H1 D (.lst [])) ρ' H3 ∧ Rel c ρ' H3 G' ∧ RQ c (RZ c) ρ' H3 (lcGo it p t e G1.length (wipeZ l (own.map (·.2))) m (i + 1) G') Q (atW W σ), fun H3 h => ⟨m, Nat.lt_succ_self m, h⟩, fun x H2 hx => ?_⟩
        obtain ⟨e4, R4, rz⟩ := hy x H2 hx
        have hlw : RL c ρ' H2 (wipeZ l (own.map (·.2))) (wipe σ (own.map (·.2))) := (((hl1.mono e2).mono e3).mono e4).wipe _
        have q4 : RQ c (RZ c) ρ' H' (match patD G' p z (wipeZ l (own.map (·.2))) with
          | some l1 => match t l1 G' with
            | .ok true G2 => match e l1 G2 with
              | .ok y G3 => match lstAt G3 G1.length with
                | some acc => if acc.length < sizeLine then lcGo it p t e G1.length (wipeZ l (own.map (·.2))) m (i + 1) (G3.set G1.length (.lst (acc ++ [y]))) else .bad
                | none => .bad
              | _ => .bad
            | .ok false G2 => lcGo it p t e G1.length (wipeZ l (own.map (·.2))) m (i + 1) G2
            | _ => .bad
          | none => .bad) Q (atW W σ) := q3
        have eA := e3.trans e4
        have lift : ∀ {r : Zy.R Z} {ρ5 : List Addr} {H5 : Hp}, Ext ρ' H2 ρ5 H5 → RQ c (RZ c) ρ' H' r Q (atW W σ) → RQ c (RZ c) ρ5 H5 r Q (atW W σ) := by
          intro r ρ5 H5 e5 q
          cases r with
          | bad => exact q
          | ok z G' => exact fun ρ6 H6 v e6 => q ρ6 H6 v ((e4.trans e5).trans e6)
          | exc x G' => exact fun ρ6 H6 cl d e6 => q ρ6 H6 cl d ((e4.trans e5).trans e6)
        cases hpt : patD G' p z (wipeZ l (own.map (·.2))) with
        | none => simp only [hpt] at q4; exact q4.elim
        | some l1 =>
          simp only [hpt] at q4
          refine pat_ok hK R4 hpt hlw rz hp fun σ2 hl2 hw2 => ⟨?_, ρ', G', l1, R4, hl2, ?_⟩
          · rw [hw2]
            have : ∀ (own : List Nat) (σ : L2.St), wipe (wipe σ own) own = wipe σ own := by
              intro own
              induction own with
              | nil => intro σ; rfl
              | cons a r ih =>
                intro σ
                show ((wipe ((wipe σ r).set a none) r).set a none) = (wipe σ r).set a none
                by_cases ha : a ∈ r
                · rw [wipe_set ha, ih]
                · have aux : ∀ (r : List Nat) (σ : L2.St), a ∉ r → (wipe (σ.set a none) r) = (wipe σ r).set a none := by
                    intro r
                    induction r with
                    | nil => intro σ _; rfl
                    | cons b t ih2 =>
                      intro σ hb
                      unfold L2.wipe
                      rw [ih2 σ (fun z => hb (List.mem_cons_of_mem _ z))]
                      exact List.set_comm _ _ (fun e => hb (by rw [e]; exact List.mem_cons_self))
                  rw [aux r _ ha, ih, List.set_set]
            exact this _ _
          · cases ht : t l1 G' with
            | bad => simp only [ht] at q4; exact q4.elim
            | exc x G2 => simp only [ht] at q4; exact q4.elim
            | ok b G2 =>
              simp only [ht] at q4
              intro ρ5 H5 b' e5 R5 hb
              rw [show b' = b from hb]
              cases b with
              | false =>
                rw [if_neg Bool.false_ne_true]
                exact ⟨ρ5, G2, eA.trans e5, R5, lift e5 q4⟩
              | true =>
                rw [if_pos rfl]
                have q5 : RQ c (RZ c) ρ' H' (match e l1 G2 with
                  | .ok y G3 => match lstAt G3 G1.length with
                    | some acc => if acc.length < sizeLine then lcGo it p t e G1.length (wipeZ l (own.map (·.2))) m (i + 1) (G3.set G1.length (.lst (acc ++ [y]))) else .bad
                    | none => .bad
                  | _ => .bad) Q (atW W σ) := q4
                refine ⟨ρ5, G2, l1, R5, hl2.mono e5, ?_⟩
                cases he : e l1 G2 with
                | bad => simp only [he] at q5; exact q5.elim
                | exc x G3 => simp only [he] at q5; exact q5.elim
                | ok y G3 =>
                  simp only [he] at q5
                  intro ρ6 H6 v e6 R6 rv
                  cases hac : lstAt G3 G1.length with
                  | none => simp only [hac] at q5; exact q5.elim
                  | some acc =>
                    simp only [hac] at q5
                    split at q5
                    · rename_i hz
                      have hD6 : ρ6[G1.length]? = some D := pre_get (e4.trans (e5.trans e6)).pre hDn
                      obtain ⟨vs, g1, g2⟩ := R6.lstAt hac hD6
                      obtain ⟨R7, e7⟩ := R6.put (z := .lst (acc ++ [y])) (o := .lst (vs ++ [v])) hD6 ⟨_, rfl, g2.append (.cons rv .nil)⟩
                      exact ⟨vs, g1, by rw [← g2.length]; exact hz, ρ6, _, ((eA.trans e5).trans e6).trans e7, R7, lift ((e5.trans e6).trans e7) q5⟩
                    · exact q5.elim
theorem se_comp (hK : c.K = X.K) (hc : X.calm = true) (hN : X.N.Nodup) (hi : PI X tg iter (tI c W di)) (ok : BlkOk X.N X.env.scope scope own)
    (hg : ∀ (s : Shared) (H : Hp) (C : Addr) (cl : List (Str × Addr)) (fp : List Addr), PG (X.blk s H scope (compEnvC scope cl C X.env) fp) tg (patG X.K p)) (ht : ∀ (s : Shared) (H : Hp) (C : Addr) (cl : List (Str × Addr)) (fp : List Addr), PTs (X.blk s H scope (compEnvC scope cl C X.env) fp) ifs (tT c W0 t))
    (he : ∀ (s : Shared) (H : Hp) (C : Addr) (cl : List (Str × Addr)) (fp : List Addr), PE (X.blk s H scope (compEnvC scope cl C X.env) fp) elt (tE c W0 e)) (hs : ∀ x, foldedSetIterable iter X.env x = pure x) (hp : ∀ i ∈ p.slots, i ∈ own.map (·.2)) :
    PE X (.ListComp elt [⟨tg, iter, ifs, 0⟩] scope pos) (tE c W (dComp di p t e (own.map (·.2)))) :=
  (pe_lc hc hN hi ok hg ht he hs).weak fun σ H Q h => lc_read hK hp h
theorem ss_setComp (hK : c.K = X.K) (hc : X.calm = true) (hN : X.N.Nodup) {i : Nat} {y : Str} {py spos : Pos} (hy : X.N[i]? = some y) (hyl : X.env.scope.names.lookup y = some .local)
    (hsw : swapsWith (.ListComp elt [⟨tg, iter, ifs, 0⟩] scope pos) (some (.Name y py)) spos.line X.env = pure true) (hi : PI X tg iter (tI c W di)) (ok : BlkOk X.N X.env.scope scope own)
    (hg : ∀ (s : Shared) (H : Hp) (C : Addr) (cl : List (Str × Addr)) (fp : List Addr), PG (X.blk s H scope (compEnvC scope cl C X.env) fp) tg (patG X.K p)) (ht : ∀ (s : Shared) (H : Hp) (C : Addr) (cl : List (Str × Addr)) (fp : List Addr), PTs (X.blk s H scope (compEnvC scope cl C X.env) fp) ifs (tT c W0 t))
    (he : ∀ (s : Shared) (H : Hp) (C : Addr) (cl : List (Str × Addr)) (fp : List Addr), PE (X.blk s H scope (compEnvC scope cl C X.env) fp) elt (tE c W0 e)) (hs : ∀ x, foldedSetIterable iter X.env x = pure x) (hp : ∀ i ∈ p.slots, i ∈ own.map (·.2)) :
    PS X (.Assign [.Name y py] (.ListComp elt [⟨tg, iter, ifs, 0⟩] scope pos) spos) (tS c W (dAsg (dgName i) (dComp di p t e (own.map (·.2))))) :=
  (ps_setLc hc hN hy hyl hsw hi ok hg ht he hs).weak fun D σ H ⟨ρ, G, l, R, hl, q⟩ => by
    refine lc_read hK (W := W) hp ?_
    exact tE.st R hl q fun ρ1 H1 G1 z v e1 R1 l1 r1 q1 => (show RS c ρ1 H1 (.nx (l.set i (some z)) G1) D W from q1) ρ1 H1 _ (Ext.refl _ _) R1 (l1.set r1)
end
end Zy
end
section
set_option Elab.async false
set_option linter.all false
set_option maxRecDepth 100000
set_option maxHeartbeats 4000000
set_option autoImplicit false
/-! raise, try -/
namespace Zy
open PySem PySem.Spec PyProof.Rows L2

/-! ### clauses, with or without a name -/
abbrev HG := Value × Option Nat × (Addr → Value → Option Addr → TS)
def onSlot (i : Option Nat) (ts : Addr → Value → Option Addr → TS) (a : Addr) (cls : Value) (d : Option Addr) : TS := match i with
  | none => ts a cls d
  | some i => fun D σ H => ts a cls d { nx := fun σ' H' => D.nx (σ'.set i none) H', rt := D.rt, bk := fun σ' H' => D.bk (σ'.set i none) H', ct := fun σ' H' => D.ct (σ'.set i none) H' } (σ.set i (some (.ref a))) H
def wG (K : PySem.W.Frag) (Wout : WX) (D : Ends) : List HG → WX
  | [] => Wout
  | (c, i, ts) :: r => fun cls d σ H => ∃ b, PySem.W.exmOne K cls c = some b ∧ (b = true → ∀ a, H a = none → onSlot i ts a cls d D σ H) ∧ (b = false → wG K Wout D r cls d σ H)
def slotOf (X : Cx) : Option Str → Option Nat → Prop
  | none, none => True
  | some n, some i => X.N[i]? = some n ∧ X.env.kindOf n = some .local
  | _, _ => False
inductive HdsG (X : Cx) : List ExceptHandler → List HG → Prop
  | nil : HdsG X [] []
  | cons {x : Str} {n : Option Str} {i : Option Nat} {c : Value} {ts : Addr → Value → Option Addr → TS} {b₀ : Stmt} {suite : List Stmt} {np pos' : Pos} {hds : List ExceptHandler} {l : List HG} (hc : Names X x c) (hn : slotOf X n i)
      (hsu : ∀ (a : Addr) (oe : Obj) (cls : Value) (d : Option Addr) (pn : List (Addr × Obj)), Zc cls d oe → (∃ vs, oe.data = .fields vs) → PSs (X.suite a ((a, oe) :: pn)) (b₀ :: suite) (ts a cls d)) (r : HdsG X hds l) :
      HdsG X (.ExceptHandler (some (.Name x np)) n (b₀ :: suite) pos' :: hds) ((c, i, ts) :: l)
section
variable {X : Cx} {body : List Stmt} {h₀ : ExceptHandler} {hds : List ExceptHandler} {l : List HG} {pos : Pos} {tb : WX → TS} {Wout : WX}
theorem ps_try_gen (hs : X.stack = X.env :: X.outer) (hf : X.env.frame = some X.env.locals) (hN : X.N.Nodup) (tk : Takes X Wout)
    (hb : ∀ (W : WX) (pn : List (Addr × Obj)) (xe : Value → Shared → Prop), Takes (X.tr pn xe) W → PassesOwn (model X.prog X.w) X.A X.env xe → PSs (X.tr pn xe) body (tb W))
    (hh : HdsG X (h₀ :: hds) l) : PS X (.Try body (h₀ :: hds) [] [] pos) (fun D σ H => tb (wG X.K Wout D l) D σ H) := by
  refine ⟨fun pins s σ H D I h => ?_⟩
  have ok := I.ok
  have hfr : X.A.frames = some (X.env :: X.outer) := by rw [ok.frames, hs]
  refine wpAny_Try_except ?_
  refine wpAny_mono ((hb (wG X.K Wout D l) (X.pn ++ pins) (fun e s₁ => wpAny (model X.prog X.w) X.A (noteFrame e X.env) (fun _ s₂ => wpAny (model X.prog X.w) X.A (setFlight e none) (fun _ s₃ =>
    wpAny (model X.prog X.w) X.A (handleBy e X.env (h₀ :: hds)) (SP X pins D) X.xe s₃) X.xe s₂) X.xe s₁) (fun u s' xx => ?_) PassesOwn.looking).run [] s σ H D (I.toTry _) h) (fun f s1 hsp => ?_) (fun e s1 he => he)
  · -- the catch
    obtain ⟨a, B, sI, pins', σ', H', cls, d, rfl, J', nb, up, sky, na, os, ag, w⟩ := xx
    have J : Inv X pins σ' H' sI := J'.ofTry ok
    have sky' : Sky B (X.env :: X.outer) a (Zc cls d) X.env.locals s'.heap := by rw [← hs]; exact sky
    show wpAny (model X.prog X.w) X.A (noteFrame (.ref a) X.env) _ _ _
    refine Sky.land Zc.steady hfr hf sky' fun h3 fl3 up3 => ?_
    have J3 : Inv X pins σ' H' { s' with heap := h3 } := J.landed nb fl3.1 (up.trans up3) os ag
    obtain ⟨oe3, vs3, he3, hz3, hd3⟩ := fl3.there
    have notFr : ∀ {h : Heap} {o : Obj} {vs : Array Value}, h.FunFrames B (X.env :: X.outer) → h.get? a = some o → o.data = .fields vs → a ∉ frs (X.env :: X.outer) := fun {h o vs} ff e dd hm => by
      obtain ⟨_, o', e', hnf⟩ := ff.mem hm
      rw [e] at e'; cases e'
      exact hnf _ dd
    have nfr := notFr fl3.2.2.1 he3 hd3
    have nL : a ≠ X.env.locals := fun z => nfr (List.mem_filterMap.mpr ⟨X.env, List.mem_cons_self, by rw [hf, z]⟩)
    have nF : a ∉ X.fs := fun hm => by
      obtain ⟨e, he, q⟩ := List.mem_filterMap.mp hm
      exact nfr (List.mem_filterMap.mpr ⟨e, List.mem_cons_of_mem _ he, q⟩)
    have S3 := J3.suite he3 hd3 na nL nF
    have go : ∀ {hds' : List ExceptHandler} {l' : List HG}, HdsG X hds' l' → wG X.K Wout D l' cls d σ' H' →
        wpAny (model X.prog X.w) X.A (handleBy (.ref a) X.env hds') (SP X pins D) X.xe { s' with heap := h3 } := by
      intro hds' l' hk
      induction hk with
      | nil =>
        intro w
        refine wpAny_handleBy_nil ?_
        obtain ⟨k1, k2, k3, oe, vs, T, oT, ts', he, hz, hd, h1, hr⟩ := id fl3
        unfold PySem.passOn
        refine wpAny_bind (wpAny_field he hd h1 ?_)
        rw [if_neg (show ¬ ((Value.ref T == Value.none) = true) from by simp)]
        have fin : wpAny (model X.prog X.w) X.A (setFlight (.ref a) X.env.frame) (fun _ s4 => wpAny (model X.prog X.w) X.A (throw (.ref a) : Sem Flow) (SP X pins D) X.xe s4) X.xe { s' with heap := h3 } := by
          rw [hf]
          refine HandSPX.setFlight_upZ fl3 fun h4 hh4 up4 => wpAny_throw (tk _ _ ?_)
          exact ⟨a, B, sI, pins, σ', H', cls, d, rfl, J, nb, (up.trans up3).trans up4, .inr (.inr (by rw [hs]; exact hh4)), na, os, ag, w⟩
        first
          | exact wpAny_bind (wpAny_pure (wpAny_bind fin))
          | exact wpAny_bind fin
      | @cons x n i c ts b₀ suite np pos' hds2 l2 hc hn hsu r ih =>
        intro w
        obtain ⟨b, hb1, hyes, hno⟩ := w
        refine wpAny_handleBy_cons (codeAny_handlers_test ?_) (by intro q; cases q)
        have LT : PySem.W.Looks (model X.prog X.w) h3 (typeOf (.ref a)) cls := fun A Q E s k q => wpAny_typeOf_ref (k _ _ he3) (by rw [hz3.1]; exact q)
        have LM := PySem.W.exm_one (M := model X.prog X.w) (J3.kIn) LT hb1
        have test : ∀ {Q : Value → Shared → Prop} {E : Value → Shared → Prop}, Q c { s' with heap := h3 } → wpAny (model X.prog X.w) (X.A.mark (some (.ref a))) (eval (.Name x np) X.env) Q E { s' with heap := h3 } := fun {Q E} q => by
          obtain ⟨hg, hdbg, hm | ⟨hm, hv, hnn⟩⟩ := hc
          · exact ld_glob (X := X.suite a ((a, oe3) :: (X.pn ++ pins))) S3 hg hm q hdbg
          · exact ld_blt (X := X.suite a ((a, oe3) :: (X.pn ++ pins))) S3 hg hm hv q hnn hdbg
        refine test (LM.here ?_)
        cases b with
        | true =>
          cases n with
          | none =>
            cases i with
            | some i => exact hn.elim
            | none =>
              refine codeAny_handlers_suite ?_
              refine HandSPX.lands_againZ fl3 fun h4 fl4 up4 => ?_
              have J4 : Inv X pins σ' H' { s' with heap := h4 } := J.landed nb fl4.1 ((up.trans up3).trans up4) os ag
              obtain ⟨oe4, vs4, he4, hz4, hd4⟩ := fl4.there
              have S4 := J4.suite he4 hd4 na nL nF
              refine wpAny_mono ((hsu a oe4 cls d (X.pn ++ pins) hz4 ⟨_, hd4⟩).run [] _ _ H' _ S4 (hyes rfl a na)) (fun f s6 hsp => ?_) (fun _ _ z => False.elim z)
              cases f with
              | next =>
                obtain ⟨σ6, H6, S6, q6⟩ := hsp
                exact ⟨_, _, S6.unsuite ok, q6⟩
              | brk =>
                obtain ⟨σ6, H6, S6, q6⟩ := hsp
                exact ⟨_, _, S6.unsuite ok, q6⟩
              | cont =>
                obtain ⟨σ6, H6, S6, q6⟩ := hsp
                exact ⟨_, _, S6.unsuite ok, q6⟩
              | ret u =>
                obtain ⟨v6, σ6, H6, S6, r6, q6⟩ := hsp
                exact ⟨_, _, _, S6.unsuite ok, r6, q6⟩
          | some n =>
            cases i with
            | none => exact hn.elim
            | some i =>
              obtain ⟨hi, hln⟩ := hn
              have hloc : Loc X.env.scope n := .inl hln
              refine codeAny_handlers_suite_as ?_
              refine HandSPX.lands_againZ fl3 fun h4 fl4 up4 => ?_
              have J4 : Inv X pins σ' H' { s' with heap := h4 } := J.landed nb fl4.1 ((up.trans up3).trans up4) os ag
              obtain ⟨oe4, vs4, he4, hz4, hd4⟩ := fl4.there
              have S4 := J4.suite he4 hd4 na nL nF
              refine store_ok (X := X.suite a ((a, oe4) :: (X.pn ++ pins))) (v := .ref a) S4 hN hi hloc rfl (fun s5 S5 => ?_) (.inr hln)
              refine wpAny_mono ((hsu a oe4 cls d (X.pn ++ pins) hz4 ⟨_, hd4⟩).run [] s5 _ H' _ S5 (hyes rfl a na)) (fun f s6 hsp => ?_) (fun _ _ z => False.elim z)
              have end_ : ∀ {σ6 : L2.St} {H6 : Hp} {Q : Shared → Prop}, Inv (X.suite a ((a, oe4) :: (X.pn ++ pins))) [] σ6 H6 s6 → (∀ s7, Inv X pins (σ6.set i none) H6 s7 → Q s7) →
                  wpAny (model X.prog X.w) X.A (do bindName X.env n .none; unbindBehindTheSuite X.env n pos') (fun _ s7 => Q s7) X.xe s6 := fun {σ6 H6 Q} S6 hq => gone_ok (S6.unsuite ok) hN hi hln hq
              cases f with
              | next =>
                obtain ⟨σ6, H6, S6, q6⟩ := hsp
                exact end_ S6 fun s7 J7 => ⟨_, _, J7, q6⟩
              | brk =>
                obtain ⟨σ6, H6, S6, q6⟩ := hsp
                exact end_ S6 fun s7 J7 => ⟨_, _, J7, q6⟩
              | cont =>
                obtain ⟨σ6, H6, S6, q6⟩ := hsp
                exact end_ S6 fun s7 J7 => ⟨_, _, J7, q6⟩
              | ret u =>
                obtain ⟨v6, σ6, H6, S6, r6, q6⟩ := hsp
                exact end_ S6 fun s7 J7 => ⟨_, _, _, J7, r6, q6⟩
        | false =>
          show wpAny _ X.A (handleBy (.ref a) X.env hds2) _ _ _
          exact ih (hno rfl)
    exact go hh w
  · cases f with
    | next =>
      obtain ⟨σ', H', J', q⟩ := hsp
      exact wpAny_execs_nil ⟨σ', H', J'.ofTry ok, q⟩
    | brk =>
      obtain ⟨σ', H', J', q⟩ := hsp
      exact ⟨σ', H', J'.ofTry ok, q⟩
    | cont =>
      obtain ⟨σ', H', J', q⟩ := hsp
      exact ⟨σ', H', J'.ofTry ok, q⟩
    | ret u =>
      obtain ⟨v, σ', H', J', r, q⟩ := hsp
      exact ⟨v, σ', H', J'.ofTry ok, r, q⟩
end

/-! ### the meaning -/
def unEx : Option Z → Option Z
  | some .ex => none
  | o => o
def clr (l : L) : L := l.map unEx
structure HZ where
  k : XC
  i : Option Nat
  s : XR → DS
def S.gone (i : Nat) : S → S
  | .nx l G => .nx ((clr l).set i none) G
  | .bk l G => .bk ((clr l).set i none) G
  | .ct l G => .ct ((clr l).set i none) G
  | .rt z G => .rt z G
  | _ => .bad
def S.calm : S → S
  | .exc _ _ _ => .bad
  | r => r
def HZ.go (h : HZ) (x : XR) (l : L) (G : GH) : S := match h.i with
  | none => (h.s x l G).calm
  | some i => (h.s x ((clr l).set i (some .ex)) G).gone i
def dHs (sub : XC → XC → Option Bool) (x : XR) (l : L) (G : GH) : List HZ → S
  | [] => .exc x l G
  | h :: r => match sub x.cls h.k with
    | some true => h.go x l G
    | some false => dHs sub x l G r
    | none => .bad
def dTry (sub : XC → XC → Option Bool) (b : DS) (hs : List HZ) : DS := fun l G => match b l G with
  | .exc x l G => dHs sub x l G hs
  | r => r
section
variable {X : Cx} {c : C} {W : WX}
theorem C.at_back (c : C) (D : Dy) : (c.at_ D).at_ c.dy = c := rfl
/-- the caught exception's -/
abbrev Dy.exc (a : Addr) (d : Option Addr) (n : Option Nat) (D : Dy) : Dy := { xa := a, xd := d, xp := n, inv := D.inv, mono := D.mono }
theorem RL.clr {ρ : List Addr} {H : Hp} {l : L} {σ : L2.St} (r : RL c ρ H l σ) (D : Dy) : RL (c.at_ D) ρ H (Zy.clr l) σ := by
  refine ⟨by unfold Zy.clr; rw [List.length_map]; exact r.len, fun i z e => ?_⟩
  unfold Zy.clr at e
  rw [List.getElem?_map] at e
  cases q : l[i]? with
  | none => rw [q] at e; cases e
  | some o =>
    rw [q] at e
    have e' : unEx o = some z := Option.some.inj e
    cases o with
    | none => cases e'
    | some y =>
      obtain ⟨v, h1, h2⟩ := r.at_ i y q
      cases y with
      | ex => cases e'
      | _ =>
        cases e'
        refine ⟨v, h1, .inl (h2.resolve_right fun h => nomatch h.1).xa⟩
theorem RL.wipeAt {ρ : List Addr} {H : Hp} {l : L} {σ : L2.St} (r : RL c ρ H l σ) (i : Nat) : RL c ρ H (l.set i none) (σ.set i none) := r.unset i
/-- what a suite is asked: the exception x, its class told -/
def tSu (c : C) (s : XR → DS) : Addr → Value → Option Addr → TS := fun a cls d D σ H => ∃ x, cls = clsV c x.cls ∧ (x.pay = none → d = none) ∧ tS (c.at_ (.exc a d x.pay c.dy)) W0 (s x) D σ H
def tSuN (c : C) (s : XR → DS) : Addr → Value → Option Addr → TS := fun _ cls d D σ H => ∃ x, cls = clsV c x.cls ∧ (x.pay = none → d = none) ∧ tS c W0 (s x) D σ H
def hzT (c : C) (h : HZ) : HG := (clsV c h.k, h.i, match h.i with | none => tSuN c h.s | some _ => tSu c h.s)
theorem try_read {sub : XC → XC → Option Bool} (hsub : ∀ a b r, sub a b = some r → PySem.W.exmOne X.K (clsV c a) (clsV c b) = some r) {D : Ends} {W : WX} {x : XR} {ρ : List Addr} {H : Hp} {G : GH} {l : L} {σ : L2.St} {cls : Value} {d : Option Addr}
    (R : Rel c ρ H G) (hl : RL c ρ H l σ) (rx : RX c ρ x cls d) : ∀ {hs : List HZ}, RS c ρ H (dHs sub x l G hs) D W → wG X.K W D (hs.map (hzT c)) cls d σ H
  | [], h => (show RS c ρ H (.exc x l G) D W from h) ρ H σ cls d (Ext.refl _ _) R hl rx
  | hd :: r, h => by
    obtain ⟨e1, e2⟩ := rx
    unfold dHs at h
    cases q : sub x.cls hd.k with
    | none => simp only [q] at h; exact h.elim
    | some b =>
      refine ⟨b, by rw [e1]; exact hsub _ _ _ q, fun hb a na => ?_, fun hb => ?_⟩
      · subst hb
        simp only [q] at h
        unfold HZ.go at h
        cases hi : hd.i with
        | none =>
          simp only [hi] at h
          refine ⟨x, e1, fun hp => by rw [hp] at e2; exact e2, ρ, G, l, R, hl, ?_⟩
          cases hr : hd.s x l G with
          | bad => rw [hr] at h; exact h
          | exc x' l' G' => rw [hr] at h; exact h.elim
          | nx l' G' => rw [hr] at h; exact h
          | bk l' G' => rw [hr] at h; exact h
          | ct l' G' => rw [hr] at h; exact h
          | rt z G' => rw [hr] at h; exact h
        | some i =>
          simp only [hi] at h
          have pay : ∀ m, x.pay = some m → ∃ b, ρ[m]? = some b ∧ d = some b := fun m hm => by rw [hm] at e2; exact e2
          have R' : Rel (c.at_ (.exc a d x.pay c.dy)) ρ H G := R.xa pay R.iv
          have hl' : RL (c.at_ (.exc a d x.pay c.dy)) ρ H ((Zy.clr l).set i (some .ex)) (σ.set i (some (.ref a))) := by
            have r0 := hl.clr (.exc a d x.pay c.dy)
            refine ⟨by simp [r0.len], fun j z' e => ?_⟩
            by_cases hj : j = i
            · subst hj
              by_cases hlt : j < (Zy.clr l).length
              · rw [List.getElem?_set_self hlt] at e
                cases e
                exact ⟨.ref a, by rw [List.getElem?_set_self (by rw [← r0.len]; exact hlt)], .inr ⟨rfl, rfl⟩⟩
              · rw [List.getElem?_eq_none (by simpa using hlt)] at e; cases e
            · rw [List.getElem?_set_ne (Ne.symm hj)] at e ⊢
              exact r0.at_ j z' e
          refine ⟨x, e1, fun hp => by rw [hp] at e2; exact e2, ρ, G, _, R', hl', ?_⟩
          have back : ∀ {ρ2 H2 G2 l2 σ2}, Ext ρ H ρ2 H2 → Rel (c.at_ (.exc a d x.pay c.dy)) ρ2 H2 G2 → RL (c.at_ (.exc a d x.pay c.dy)) ρ2 H2 l2 σ2 → Rel c ρ2 H2 G2 ∧ RL c ρ2 H2 ((Zy.clr l2).set i none) (σ2.set i none) := by
            intro ρ2 H2 G2 l2 σ2 e R2 hl2
            have R3 : Rel ((c.at_ (.exc a d x.pay c.dy)).at_ c.dy) ρ2 H2 G2 := R2.xa (fun m hm => by
              obtain ⟨b, h1, h2⟩ := R.pay m hm
              exact ⟨b, pre_get e.pre h1, h2⟩) R2.iv
            have l3 : RL ((c.at_ (.exc a d x.pay c.dy)).at_ c.dy) ρ2 H2 (Zy.clr l2) σ2 := hl2.clr _
            exact ⟨R3, RL.unset (c := c) l3 i⟩
          cases hr : hd.s x ((Zy.clr l).set i (some .ex)) G with
          | bad => rw [hr] at h; exact h
          | exc x' l' G' => rw [hr] at h; exact h.elim
          | nx l' G' =>
            rw [hr] at h
            intro ρ2 H2 σ2 e R2 hl2
            obtain ⟨R3, l3⟩ := back e R2 hl2
            exact (show RS c ρ H (.nx ((Zy.clr l').set i none) G') D W from h) ρ2 H2 _ e R3 l3
          | bk l' G' =>
            rw [hr] at h
            intro ρ2 H2 σ2 e R2 hl2
            obtain ⟨R3, l3⟩ := back e R2 hl2
            exact (show RS c ρ H (.bk ((Zy.clr l').set i none) G') D W from h) ρ2 H2 _ e R3 l3
          | ct l' G' =>
            rw [hr] at h
            intro ρ2 H2 σ2 e R2 hl2
            obtain ⟨R3, l3⟩ := back e R2 hl2
            exact (show RS c ρ H (.ct ((Zy.clr l').set i none) G') D W from h) ρ2 H2 _ e R3 l3
          | rt z G' =>
            rw [hr] at h
            intro ρ2 H2 v e R2 rz
            have rz' : RZ ((c.at_ (.exc a d x.pay c.dy)).at_ c.dy) ρ2 H2 z v := rz.xa
            exact (show RS c ρ H (.rt z G') D W from h) ρ2 H2 v e (back (l2 := []) (σ2 := []) e R2 ⟨rfl, fun i z h => by simp at h⟩).1 rz'
      · subst hb
        simp only [q] at h
        exact try_read hsub R hl ⟨e1, e2⟩ h
variable {body : List Stmt} {hds : List ExceptHandler} {h₀ : ExceptHandler} {pos : Pos}
theorem ss_try {sub : XC → XC → Option Bool} (hsub : ∀ a b r, sub a b = some r → PySem.W.exmOne X.K (clsV c a) (clsV c b) = some r) (hs : X.stack = X.env :: X.outer) (hf : X.env.frame = some X.env.locals) (hN : X.N.Nodup) (tk : Takes X W) {db : DS} {hz : List HZ}
    (hb : ∀ (W : WX) (pn : List (Addr × Obj)) (xe : Value → Shared → Prop), Takes (X.tr pn xe) W → PassesOwn (model X.prog X.w) X.A X.env xe → PSs (X.tr pn xe) body (tS c W db))
    (hh : HdsG X (h₀ :: hds) (hz.map (hzT c))) : PS X (.Try body (h₀ :: hds) [] [] pos) (tS c W (dTry sub db hz)) :=
  (ps_try_gen hs hf hN tk hb hh).weak fun D σ H ⟨ρ, G, l, R, hl, q⟩ => by
    refine ⟨ρ, G, l, R, hl, ?_⟩
    unfold dTry at q
    cases hr : db l G with
    | exc x l' G' =>
      rw [hr] at q
      exact fun ρ2 H2 σ2 cl d e R2 l2 rx => try_read hsub R2 l2 rx (RS.ext e q)
    | bad => rw [hr] at q; exact q
    | nx l' G' => rw [hr] at q; exact q
    | bk l' G' => rw [hr] at q; exact q
    | ct l' G' => rw [hr] at q; exact q
    | rt z G' => rw [hr] at q; exact q
/-! ### raise -/
def dRaise (k : Nat) : DS := fun l G => .exc ⟨.own k, none⟩ l G
theorem ss_raise {x m : Str} {j k : Nat} {p p2 p3 : Pos} {bmB : List Value} {B newId initId : String} (hc : X.calm = true) (tk : Takes X W) (F : ExcBaseFacts B newId initId bmB) (q : PySem.W.excIn X.K (c.ca k) bmB newId = true) (gC : X.mg x = some (.ref (c.ca k))) (kC : PySem.W.keepIn X.K (.ref (c.ca k)) = true) (r : Raises X (.ref (c.ca k))) (hg : Gl X x)
    (hdb : (x == ("__debug__" : Str)) = false) : PS X (.Raise (some (.Call (.Name x p) [.Constant (.str m) j p2] [] p3)) none pos) (tS c W (dRaise k)) :=
  (ps_raise hc tk (pmk_own F q gC kC r hg hdb)).weak fun D σ H ⟨ρ, G, l, R, hl, q⟩ =>
    (show RS c ρ H (.exc ⟨.own k, none⟩ l G) D W from q) ρ H σ (.ref (c.ca k)) none (Ext.refl _ _) R hl ⟨rfl, rfl⟩
end
end Zy
end
section
set_option Elab.async false
set_option linter.all false
set_option maxRecDepth 100000
set_option maxHeartbeats 4000000
set_option autoImplicit false
/-! repr of nested values -/
namespace Zy
open PySem PySem.Spec PyProof.Rows L2
def pdAll (f : Z → Option PyData) : List Z → Option (List PyData)
  | [] => some []
  | z :: zs => match f z, pdAll f zs with
    | some d, some ds => some (d :: ds)
    | _, _ => none
def keyPd : Key → PyData
  | .inl i => .int i
  | .inr x => .str x
def pdK (f : Z → Option PyData) (G : GH) : Kd → Option PyData
  | .non => some .none
  | .bl b => some (.bool b)
  | .int i => some (.int i)
  | .str x => some (.str ⟨x.toArray⟩)
  | .tup xs => (pdAll f xs).map .tuple
  | .lst xs => (pdAll f xs).map .list
def pdD (f : Z → Option PyData) (G : GH) : Z → Option PyData
  | .ref m => match G[m]? with
    | some (.dK ks zs) => (pdAll f zs).map fun ds => .dict ((ks.map keyPd).zip ds)
    | _ => none
  | _ => none
/-- the data that a value shows -/
def pd : Nat → GH → Z → Option PyData
  | 0, _, _ => none
  | n + 1, G, z => match kd G z with
    | some k => pdK (pd n G) G k
    | none => pdD (pd n G) G z
mutual
def noLst : PyData → Bool
  | .none | .bool _ | .int _ | .str _ => true
  | .list _ => false
  | .tuple xs => noLstAll xs
  | .dict kvs => noLstKv kvs
def noLstAll : List PyData → Bool
  | [] => true
  | x :: xs => noLst x && noLstAll xs
def noLstKv : List (PyData × PyData) → Bool
  | [] => true
  | (k, v) :: r => noLst k && noLst v && noLstKv r
end
section
variable {X : Cx} {pins : List (Addr × Obj)} {σ : L2.St} {H : Hp} {s : Shared} {c : C} {ρ : List Addr} {G : GH}
theorem pdAll_sound {f : Z → Option PyData} (hf : ∀ z d v u, f z = some d → RZ c ρ H z v → RelV v u → ∃ as, Reads s.heap u d as ∧ (noLst d = true → sysModules ∉ as)) :
    ∀ {zs : List Z} {ds : List PyData} {vs : List V} {us : List Value}, pdAll f zs = some ds → RZs c ρ H zs vs → Vals vs us → ∃ as, ReadsAll s.heap us ds as ∧ (noLstAll ds = true → sysModules ∉ as)
  | [], ds, vs, us, h, r, rv => by
    cases h
    unfold RZs at r; subst r
    cases rv
    exact ⟨[], .nil, fun _ q => nomatch q⟩
  | z :: zs, ds, vs, us, h, r, rv => by
    unfold pdAll at h
    cases e1 : f z with
    | none => rw [e1] at h; cases h
    | some d =>
      cases e2 : pdAll f zs with
      | none => rw [e1, e2] at h; cases h
      | some ds' =>
        rw [e1, e2] at h
        cases h
        unfold RZs at r
        obtain ⟨v, r', rfl, h2, h3⟩ := r
        cases rv with
        | cons rv1 rv2 =>
          obtain ⟨as, a1, a2⟩ := hf _ _ _ _ e1 h2 rv1
          obtain ⟨bs, b1, b2⟩ := pdAll_sound hf e2 h3 rv2
          refine ⟨as ++ bs, .cons a1 b1, fun hn hm => ?_⟩
          have hn' : noLst d = true ∧ noLstAll ds' = true := by simpa [noLstAll] using hn
          rcases List.mem_append.mp hm with hm | hm
          · exact a2 hn'.1 hm
          · exact b2 hn'.2 hm
theorem keys_reads {h : Heap} {P : Program} {w : World} : ∀ {es : List DictEntry} {kvs : List (Key × Value)}, Pairs (mixKind P w) es kvs → ReadsAll h (es.map (·.key)) (kvs.map fun p => keyPd p.1) []
  | [], _, .nil => .nil
  | e :: es, kv :: kvs, .cons h1 h2 t => by
    have := keys_reads (h := h) t
    rcases keyIs_shape h1 with ⟨i, t, e1, e2⟩ | ⟨x, t, e1, e2⟩
    · show ReadsAll h (e.key :: es.map (·.key)) (keyPd kv.1 :: _) ([] ++ [])
      rw [e1, e2]
      exact .cons (.int i t) this
    · show ReadsAll h (e.key :: es.map (·.key)) (keyPd kv.1 :: _) ([] ++ [])
      rw [e1, e2]
      exact .cons (.str x t) this
theorem pairs_vals {P : Program} {w : World} : ∀ {es : List DictEntry} {kvs : List (Key × Value)}, Pairs (mixKind P w) es kvs → es.map (·.val) = kvs.map (·.2)
  | [], _, .nil => rfl
  | e :: es, kv :: kvs, .cons h1 h2 t => by
    rw [List.map_cons, List.map_cons, pairs_vals t, h2]
theorem noLstKv_vals : ∀ {ks ds : List PyData}, ks.length = ds.length → noLstKv (ks.zip ds) = true → noLstAll ds = true
  | [], [], _, _ => rfl
  | k :: ks, d :: ds, h, e => by
    have e' : (noLst k = true ∧ noLst d = true) ∧ noLstKv (ks.zip ds) = true := by simpa [noLstKv] using e
    have := noLstKv_vals (by simpa using h) e'.2
    simp [noLstAll, e'.1.2, this]
theorem pdAll_len {f : Z → Option PyData} : ∀ {zs : List Z} {ds : List PyData}, pdAll f zs = some ds → ds.length = zs.length
  | [], ds, h => by cases h; rfl
  | z :: zs, ds, h => by
    unfold pdAll at h
    cases e1 : f z with
    | none => rw [e1] at h; cases h
    | some d =>
      cases e2 : pdAll f zs with
      | none => rw [e1, e2] at h; cases h
      | some ds' =>
        rw [e1, e2] at h
        cases h
        rw [List.length_cons, List.length_cons, pdAll_len e2]
theorem kv_split : ∀ {ks : List Key} {vs : List V} {kvs : List (Key × Value)}, ks.length = vs.length → KV (ks.zip vs) kvs → kvs.map (·.1) = ks ∧ Vals vs (kvs.map (·.2))
  | [], [], kvs, _, h => by cases h; exact ⟨rfl, .nil⟩
  | k :: ks, v :: vs, kvs, hl, h => by
    cases h with
    | cons h1 h2 =>
      obtain ⟨a, b⟩ := kv_split (by simpa using hl) h2
      exact ⟨by rw [List.map_cons, a, ← h1.1], .cons h1.2 b⟩
theorem pd_sound (hK : c.K = X.K) (I : Inv X pins σ H s) (R : Rel c ρ H G) : ∀ (n : Nat) {z : Z} {d : PyData} {v : V} {u : Value}, pd n G z = some d → RZ c ρ H z v → RelV v u → ∃ as, Reads s.heap u d as ∧ (noLst d = true → sysModules ∉ as)
  | 0, _, _, _, _, h, _, _ => by cases h
  | n + 1, z, d, v, u, h, r, rv => by
    have ih : ∀ z d v u, pd n G z = some d → RZ c ρ H z v → RelV v u → ∃ as, Reads s.heap u d as ∧ (noLst d = true → sysModules ∉ as) := fun z d v u => pd_sound hK I R n
    unfold pd at h
    cases e : kd G z with
    | some k =>
      rw [e] at h
      have ku := kd_sound hK I R r rv e
      cases k with
      | non => cases h; cases ku; exact ⟨[], .none, fun _ q => nomatch q⟩
      | bl b => cases h; cases ku; exact ⟨[], .bool b, fun _ q => nomatch q⟩
      | int i => cases h; obtain ⟨t, rfl⟩ := ku; exact ⟨[], .int i t, fun _ q => nomatch q⟩
      | str x => cases h; obtain ⟨t, rfl⟩ := ku; exact ⟨[], .str _ t, fun _ q => nomatch q⟩
      | tup xs =>
        obtain ⟨a, vs, us, rfl, h1, h2, o, g1, g2, m, g3⟩ := ku
        have h' : (pdAll (pd n G) xs).map PyData.tuple = some d := h
        cases e2 : pdAll (pd n G) xs with
        | none => rw [e2] at h'; cases h'
        | some ds =>
          rw [e2] at h'; cases h'
          obtain ⟨as, a1, a2⟩ := pdAll_sound ih e2 h1 h2
          exact ⟨as, .tuple g1 g2 g3 (by simpa using a1), fun hn => a2 (by simpa [noLst] using hn)⟩
      | lst xs =>
        obtain ⟨a, vs, us, rfl, h1, h2, o, g1, g2, m, g3⟩ := ku
        have h' : (pdAll (pd n G) xs).map PyData.list = some d := h
        cases e2 : pdAll (pd n G) xs with
        | none => rw [e2] at h'; cases h'
        | some ds =>
          rw [e2] at h'; cases h'
          obtain ⟨as, a1, a2⟩ := pdAll_sound ih e2 h1 h2
          exact ⟨a :: as, .list g1 g2 g3 (by simpa using a1), fun hn => by simp [noLst] at hn⟩
    | none =>
      rw [e] at h
      cases z with
      | ref m =>
        have h' : (match G[m]? with
          | some (.dK ks zs) => (pdAll (pd n G) zs).map fun ds => PyData.dict ((ks.map keyPd).zip ds)
          | _ => none) = some d := h
        cases q : G[m]? with
        | none => rw [q] at h'; cases h'
        | some o =>
          rw [q] at h'
          cases o with
          | dK ks zs =>
            obtain ⟨b, g1, vs, g2, g3, g4⟩ := R.at q
            unfold RZ at r
            obtain ⟨a, k1, rfl⟩ := r
            rw [k1] at g1; cases g1
            cases rv
            cases e2 : pdAll (pd n G) zs with
            | none => simp only [e2] at h'; cases h'
            | some ds =>
              simp only [e2] at h'; cases h'
              obtain ⟨_, hsm, kvs, hkv, o, es, ep, p1, p2, p3, _, p5, _⟩ := dk_of I.hok g2
              have hlen : ks.length = vs.length := by rw [g4, g3.length]
              obtain ⟨j1, j2⟩ := kv_split hlen hkv
              obtain ⟨as, a1, a2⟩ := pdAll_sound ih e2 g3 j2
              have hl : (ks.map keyPd).length = ds.length := by rw [List.length_map, pdAll_len e2, g4]
              refine ⟨_ :: [] ++ as, .dict p1 p2.1 p3 ?_ ?_, fun hn hm => ?_⟩
              · rw [List.map_fst_zip (by omega)]
                have := keys_reads (h := s.heap) p5
                rw [← j1, List.map_map]
                exact this
              · rw [List.map_snd_zip (by omega), pairs_vals p5]
                exact a1
              · rcases List.mem_append.mp hm with hm | hm
                · have : sysModules = b := by simpa using hm
                  rw [← this] at hsm
                  simp at hsm
                · exact a2 (noLstKv_vals hl (by simpa [noLst] using hn)) hm
          | _ => cases h'
      | _ => cases h
def okD (d : PyData) : Bool := d.showable && decide (d.depth ≤ 20) && decide (d.shown.length ≤ sizeLine) && (!d.hasDict || noLst d)
def zRepr (z : Z) (G : GH) : R Z := match pd 20 G z with
  | some d => if okD d = true then .ok (.str d.shown.cps.toList) G else .bad
  | none => .bad
theorem str_back (x : Str) : (⟨x.cps.toList.toArray⟩ : Str) = x := by obtain ⟨a⟩ := x; simp
theorem callz_repr (hK : c.K = X.K) (hu : X.A.units + 60 < cLine) (hg : X.A.guards = some []) : CallR X (.builtin "repr") (rzs c (on1 zRepr)) := by
  intro pins s σ H xs us Q I r h
  obtain ⟨W, ρ, G, zs, R, hz, q⟩ := h
  obtain ⟨x, v, rfl, hx, q⟩ := on1_sound hz q
  obtain ⟨u, rfl, ru⟩ := vals1 r
  unfold zRepr at q
  cases e : pd 20 G x with
  | none => rw [e] at q; exact q.elim
  | some d =>
    simp only [e] at q
    by_cases ok : okD d = true
    · rw [if_pos ok] at q
      obtain ⟨as, h1, h2⟩ := pd_sound hK I R 20 e hx ru
      unfold okD at ok
      simp only [Bool.and_eq_true, decide_eq_true_eq, Bool.or_eq_true, Bool.not_eq_true'] at ok
      obtain ⟨⟨⟨o1, o2⟩, o3⟩, o4⟩ := ok
      have hsm : d.hasDict = true → sysModules ∉ as := fun hd => by
        rcases o4 with o4 | o4
        · rw [hd] at o4; cases o4
        · exact h2 o4
      have o3' : d.shown.cps.toList.length ≤ sizeLine := by rw [Array.length_toList]; exact o3
      have fin : Q (.str d.shown) H := by
        have := (show RQ c (RZ c) ρ H (.ok (.str d.shown.cps.toList) G) Q W from q).here R (rz_str o3')
        rw [str_back] at this
        exact this
      cases h1 with
      | none => exact PySem.P.repr_of_none ⟨.str _, H, I.tok _, ⟨_, rfl⟩, fin⟩
      | bool b => exact PySem.P.repr_of_bool ⟨.str _, H, I.tok _, ⟨_, rfl⟩, fin⟩
      | int i t => exact PySem.P.repr_of_int (by simpa [PyData.showable] using o1) ⟨.str _, H, I.tok _, ⟨_, rfl⟩, fin⟩
      | str y t => exact PySem.P.repr_of_str ⟨.str _, H, I.tok _, ⟨_, rfl⟩, fin⟩ (hsz := o3)
      | list a1 a2 a3 a4 => exact repr_of_reads' (.list a1 a2 a3 a4) o1 hsm hg (by omega) (fun _ _ z => z) (fun h' u tk hk => ⟨.str _, H, I.kept hk, ⟨_, rfl⟩, fin⟩) o3
      | tuple a1 a2 a3 a4 => exact repr_of_reads' (.tuple a1 a2 a3 a4) o1 hsm hg (by omega) (fun _ _ z => z) (fun h' u tk hk => ⟨.str _, H, I.kept hk, ⟨_, rfl⟩, fin⟩) o3
      | dict a1 a2 a3 a4 a5 => exact repr_of_reads' (.dict a1 a2 a3 a4 a5) o1 hsm hg (by omega) (fun _ _ z => z) (fun h' u tk hk => ⟨.str _, H, I.kept hk, ⟨_, rfl⟩, fin⟩) o3
    · rw [if_neg ok] at q; exact q.elim
end
end Zy
end
section
set_option Elab.async false
set_option linter.all false
set_option maxRecDepth 100000
set_option maxHeartbeats 4000000
set_option autoImplicit false
/-! a def of the text, asked where no guard stands -/
namespace Zy
open PySem PySem.Spec PyProof.Rows L2
section
variable {Pr : Program} {wo : World} {K : PySem.W.Frag} {mg : Str → Option Value} {base : Heap} {CX : CXT}
/-- the body is read where it is entered -/
theorem def_run {k : Nat} {f : Addr} {nm qual : Str} {prm : Arguments} {body : List Stmt} {scope : Scope} {kV doc pm cdv ct oc : Value} {an od : Option Addr} {osl : Array (Option Value)} {N ps : List Str}
    (lk : K.lookup f = some ⟨oc, od, .func (PySem.W.fnOf nm qual prm body scope .none kV doc pm an cdv ct), osl⟩) (hcd : PySem.W.codeIn K cdv qual = true) (S : FnScope N ps scope)
    {A : Around} {outer : List Env} {s : Shared} {H : Hp} {args : Args} {us : List Value} {xs : List V} {Q : VK} {E : XK} (hr : Room (k + 1) A) (e0 : Env0 Pr wo K mg base A outer s H)
    (hb : BindsTo s (PySem.W.fnOf nm qual prm body scope .none kV doc pm an cdv ct) args (ps.zip us)) (hl : xs.length = ps.length) (rv : Vals xs us)
    (hbody : ∃ t, PSs (cxOf CX Pr wo K mg base N qual scope f cdv A outer s H E) body t ∧ t { nx := fun _ H' => Q .non H', rt := Q } (start N xs) H) :
    codeAny (model Pr wo) A (.call (.ref f) args) (CR CX outer Pr wo H s Q E) s := by
  obtain ⟨t, ht, hq⟩ := hbody
  have up : ∀ b o, base.get? b = some o → s.heap.get? b = some o := fun b o e => (e0.bs b o e).1
  have nl : s.heap.NoLimit := e0.mod.nolimit.keeps up
  have kin : K.In s.heap := e0.mod.kin.keeps up
  refine codeAny_call_function hr.toRoom.depth (kin _ _ lk) rfl S.co S.gen rfl (PySem.W.codeRec_of kin hcd) (hb _ _ _ _ ?_)
  refine wpAny_newFunctionEnv_cells S.kind (fun y hy => ?_) fun env he s1 x => ?_
  · obtain ⟨n, v⟩ := y
    rcases S.par n (List.of_mem_zip hy).1 with q | q
    · exact .inl q
    · exact .inr ⟨q, PySem.W.cellsFrom_some _ _ _ (.inl q)⟩
  · subst he
    have I : Inv (cxOf CX Pr wo K mg base N qual scope f cdv A outer s H E) [] (start N xs) H s1 := inv_start S hr.toRoom.hd e0 hl rv x
    refine ⟨nl.keeps x.toInCall.keep, codeAny_func (wpAny_mono (ht.run [] s1 (start N xs) H _ I hq) (fun fl s2 h => ?_) fun _ _ h => h)⟩
    cases fl with
    | ret u =>
      obtain ⟨v, σ1, H1, J, ru, q⟩ := h
      exact ⟨v, H1, J.os, J.bare, J.base, J.hok, ru, q⟩
    | next =>
      obtain ⟨σ1, H1, J, q⟩ := h
      exact ⟨.non, H1, J.os, J.bare, J.base, J.hok, rfl, q⟩
    | _ => obtain ⟨_, _, _, q⟩ := h; exact q.elim
/-- a def with *rest -/
theorem star_run {k : Nat} {f : Addr} {nm qual pv : Str} {prm : Arguments} {body : List Stmt} {scope : Scope} {kV doc pm cdv ct oc : Value} {an od : Option Addr} {osl : Array (Option Value)} {N ps : List Str}
    (lk : K.lookup f = some ⟨oc, od, .func (PySem.W.fnOf nm qual prm body scope .none kV doc pm an cdv ct), osl⟩) (hcd : PySem.W.codeIn K cdv qual = true) (S : FnScope N (ps ++ [pv]) scope) (up : StX.CXUp CX)
    (hb : ∀ us rest : List Value, us.length = ps.length → bindArgs (PySem.W.fnOf nm qual prm body scope .none kV doc pm an cdv ct) ⟨us ++ rest, []⟩ = (newTuple rest >>= fun t => pure (ps.zip us ++ [(pv, t)])))
    {A : Around} {outer : List Env} {s : Shared} {H : Hp} {us : List Value} {xs ys : List V} {Q : VK} {E : XK} (hr : Room (k + 1) A) (e0 : Env0 Pr wo K mg base A outer s H) (rv : Vals (xs ++ ys) us) (hx : xs.length = ps.length) (hy : ys.length ≤ sizeLine)
    (hbody : ∀ (s2 : Shared) (p : Addr), H p = none → Room k (A.deeper (envOfC qual scope s2.heap.objs.size f cdv)) → ∃ t, PSs (cxOf CX Pr wo K mg base N qual scope f cdv A outer s2 (L2.upd H p (.tup ys)) E) body t ∧ t { nx := fun _ H' => Q .non H', rt := Q } (start N (xs ++ [.ref p])) (L2.upd H p (.tup ys))) :
    codeAny (model Pr wo) A (.call (.ref f) ⟨us, []⟩) (CR CX outer Pr wo H s Q E) s := by
  obtain ⟨ux, uy, rfl, rx, ry⟩ := StX.vals_split rv
  have free : H s.heap.objs.size = none := e0.hok.fresh (Nat.le_refl _)
  refine StX.run_bnd lk hcd S hr.toRoom e0 (G := fun zs H2 => ∃ p, H p = none ∧ zs = xs ++ [.ref p] ∧ H2 = L2.upd H p (.tup ys)) (fun A1 Ex Qx go => ?_) ?_
  · rw [hb ux uy (by rw [← rx.length]; exact hx)]
    refine wpAny_bind (wpAny_newTuple (wpAny_pure ?_) (by rw [← ry.length]; exact hy))
    have laid := StX.un_laid (fs := frs outer) (s := s) (o := ({ cls := .type "tuple", data := .seq uy.toArray } : Obj)) (u := .tup ys) free
    have fresh : ObjOk Pr wo (L2.upd H s.heap.objs.size (.tup ys)) (s.heap.push ({ cls := .type "tuple", data := .seq uy.toArray } : Obj)) s.heap.objs.size (.tup ys) := ⟨hy, uy, ry, ⟨_, Heap.get?_push_size _ rfl, rfl, _, rfl⟩⟩
    have q := go _ _ (xs ++ [V.ref s.heap.objs.size]) (ux ++ [Value.ref s.heap.objs.size]) (StX.env0_laid e0 fresh) laid rfl
      (fun e s1 => up outer s H _ _ E e s1 laid (fun b o q => Heap.get?_push_of_some _ q) rfl) (rx.append (.cons rfl .nil)) (by rw [List.length_append, List.length_append, hx]; rfl) ⟨_, free, rfl, rfl⟩
    rw [List.zip_append (by rw [← rx.length]; exact hx.symm)] at q
    exact q
  · rintro s2 H2 zs ⟨p, hp, rfl, rfl⟩ hr2
    exact hbody s2 p hp ⟨hr2, hr.gd⟩
end
end Zy
end
section
set_option Elab.async false
set_option linter.all false
set_option maxRecDepth 100000
set_option maxHeartbeats 4000000
set_option autoImplicit false
/-! own exceptions whose __init__ keeps one value, over any built-in base -/
namespace Zy
open PySem PySem.Spec PyProof.Rows L2

/-- what the written part says of such a class -/
structure OexG (K : PySem.W.Frag) (C : Addr) : Prop where
  cls : ∃ B newId initId bmB, ExcBaseFacts B newId initId bmB ∧ StoreFacts B bmB "object.__setattr__" "object" ∧ PySem.W.excInitIn K C bmB newId = true ∧ PySem.W.excOver K C bmB = true
  hd : PySem.W.hasDictIn K C = true
  sa : PySem.W.findIn K (.ref C) "__setattr__" = some (some (.builtin "object.__setattr__"))
  exC : PySem.W.subIn K (.ref C) (.type "BaseException") = some true
  tyC : PySem.W.typeIn K (.ref C) = some (.type "type")
  kC : PySem.W.keepIn K (.ref C) = true
theorem clsIn_get {K : PySem.W.Frag} {C : Addr} (h : PySem.W.hasDictIn K C = true) : ∃ cd, PySem.W.clsIn K C = some cd ∧ cd.hasDict = true := by
  unfold PySem.W.hasDictIn at h
  cases q : PySem.W.clsIn K C with
  | none => rw [q] at h; cases h
  | some cd => rw [q] at h; exact ⟨cd, rfl, h⟩
section
variable {X : Cx} {pins : List (Addr × Obj)} {σ : L2.St} {H : Hp} {s : Shared} {a C dx : Addr} {f : Str} {y : V} {u : Value} {Q : Unit → Shared → Prop} {E : Value → Shared → Prop} {A : Around}
theorem upd_at_other {H : Hp} {a b : Addr} {o u : HO} (hb : H b = some u) (ha : H a = some o) (d : o ≠ u) (v : HO) : L2.upd H a v b = some u := by
  rw [upd_ne (at_ne ha hb d)]; exact hb
/-- self.f = v, nothing kept as yet -/
theorem ost_first (T : OexG X.K C) (I : Inv X pins σ H s) (e : H a = some (exo a C none)) (hno : PySem.W.findIn X.K (.ref C) f = some none) (ry : RelV y u)
    (h : ∀ dx s', H dx = none → dx ≠ a → Inv X pins σ (L2.upd (L2.upd H dx (exd dx [(f, y)])) a (exo a C (some dx))) s' → Q () s') : wpAny (model X.prog X.w) A (setAttr (.ref a) f u) Q E s := by
  obtain ⟨B, newId, initId, bmB, FB, SF, _, ov⟩ := T.cls
  obtain ⟨cd, hcd, hdct⟩ := clsIn_get T.hd
  obtain ⟨t1, ho⟩ := exo_at I.hok e
  obtain ⟨hp, g, d, t, os⟩ := s
  replace ho : hp.get? a = some ({ cls := .ref C, dict := none, data := .fields #[.ref t1, .none, .none, .none, .bool false, .none] } : Obj) := ho
  have It : PySem.W.InstAt hp a _ C none := ⟨ho, rfl, rfl, trivial⟩
  have has : a ≠ hp.objs.size := Nat.ne_of_lt (Heap.lt_size ho)
  refine PySem.W.set_plain I.kIn It T.sa ?_
  refine PySem.W.osa_openX (s := ⟨hp, g, d, t + 1, os⟩) SF I.kIn It ov (r := none) (by unfold PySem.W.takerIn; rw [hno]; rfl) fun b => ?_
  have L := PySem.W.looks_clsIn (M := model X.prog X.w) I.kIn hcd
  have fin : ∀ (h' : Heap) (tk' : Nat), (∀ b o, b ≠ a → hp.get? b = some o → h'.get? b = some o) → h'.get? a = some ({ cls := .ref C, dict := some hp.objs.size, data := .fields #[.ref t1, .none, .none, .none, .bool false, .none] } : Obj) →
      h'.Ns1 hp.objs.size (fun z => if z = f then some u else none) → Q () ⟨h', g, d, tk', os⟩ := fun h' tk' k hx hn => by
    have hnd : H hp.objs.size = none := I.hok.fresh (Nat.le_refl _)
    have kn : ∀ {b : Addr}, H b = none → b ≠ a := fun {b} n z => by rw [z, e] at n; cases n
    have lt : ∀ {b : Addr} {o : Obj}, hp.get? b = some o → b ≠ hp.objs.size := fun {b o} q => Nat.ne_of_lt (Heap.lt_size q)
    have ne2 : ∀ {b : Addr} {o : HO}, H b = some o → b ≠ hp.objs.size := fun {b o} q => ne_of_none q hnd
    have UU : Un X.fs [] H (L2.upd (L2.upd H hp.objs.size (exd hp.objs.size [(f, y)])) a (exo a C (some hp.objs.size))) hp h' := by
      refine ⟨fun b o q n _ _ => k b o (kn n) q, fun b o q n _ _ => ⟨o.slots, k b o (kn n) q⟩, fun b o q n _ => ?_, fun b o q _ => ?_, fun b xs q => ?_, fun b o v q => ?_, fun b ps q => ⟨#[], ?_⟩⟩
      · rw [upd_ne (kn n), upd_ne (lt q)]; exact n
      · rcases Decidable.em (b = a) with z | z
        · exact ⟨_, z ▸ hx⟩
        · exact ⟨o, k b o z q⟩
      · rw [upd_ne (at_ne e q exo_tup), upd_ne (ne2 q)]; exact q
      · rw [upd_ne (at_ne e q exo_frz), upd_ne (ne2 q)]; exact q
      · rw [upd_ne (at_ne e q exo_tbl), upd_ne (ne2 q), q]; simp
    refine h hp.objs.size _ hnd has.symm (I.un (t' := tk') UU fun b o q => ?_)
    rcases Decidable.em (b = a) with z | z
    · subst z
      rw [upd_same] at q; cases q
      exact exo_ok hx
    · rw [upd_ne z] at q
      rcases Decidable.em (b = hp.objs.size) with z2 | z2
      · subst z2
        rw [upd_same] at q; cases q
        exact exd_ok hn (relO_put (fs := []) ry fun g => True.intro)
      · rw [upd_ne z2] at q
        refine (I.hok b o q).stay (fun c v hc w => k c v ?_ w) (fun c hc => ?_) fun c xs hc => ?_
        · rcases hc with hc | hc
          · rw [hc]; exact z
          · exact at_ne e hc exo_own
        · rw [upd_ne (at_ne e hc exo_own), upd_ne (ne2 hc)]; exact hc
        · rw [upd_ne (at_ne e hc exo_tup), upd_ne (ne2 hc)]; exact hc
  obtain ⟨nm, bs, mro, ns, qn, hd, sn, sb, ab, col, del⟩ := cd
  dsimp only at hdct
  subst hdct
  unfold Builtin.ObjectAttr.storeInOwnDict Builtin.ObjectAttr.ownDictForStores
  repeat (first | with_reducible refine PySem.HandSPX.store_in_new ?_ ?_ | with_reducible refine wpAny_loadPart_at ho ?_ | with_reducible refine L.at ?_ | wp_step)
  · exact ⟨_, #[], _, (Heap.get?_update_ne _ _ _ _ has.symm).trans (Heap.get?_push_at rfl rfl), rfl, fun e he => absurd he (by simp), fun _ => rfl⟩
  · intro h' tk' hn hs
    have h1 := Heap.get?_push_of_some ({ cls := .type "dict", data := .dict #[] } : Obj) ho
    refine fin h' tk' (fun b o hb q => ?_) ?_ hn
    · exact (hs.2 b (Nat.ne_of_lt (Heap.lt_size q))).trans ((Heap.get?_update_ne _ _ _ _ hb).trans (Heap.get?_push_of_some _ q))
    · exact (hs.2 a has).trans (Heap.get?_update_self _ h1 rfl)
/-- what such an __init__ does -/
def spIni (K : PySem.W.Frag) (C : Addr) (f : Str) : Sp := fun vs H Q E => OexG K C ∧ PySem.W.findIn K (.ref C) f = some none ∧ ∃ a y, vs = [.ref a, y] ∧ H a = some (exo a C none) ∧ ∀ dx, H dx = none → dx ≠ a → Q .non (L2.upd (L2.upd H dx (exd dx [(f, y)])) a (exo a C (some dx)))
end
section
variable {X : Cx} {C : Addr} {f : Str}
def tIni (K : PySem.W.Frag) (C : Addr) (f : Str) (to te : TE) : TS := fun D σ H => OexG K C ∧ PySem.W.findIn K (.ref C) f = some none ∧ te σ H fun y H1 => to σ H1 fun x H2 => ∃ a, x = .ref a ∧ H2 a = some (exo a C none) ∧ ∀ dx, H2 dx = none → dx ≠ a → D.nx σ (L2.upd (L2.upd H2 dx (exd dx [(f, y)])) a (exo a C (some dx)))
theorem ps_ini {o e : Expr} {to te : TE} {p' pos : Pos} (ho : PE X o to) (he : PE X e te) (hs : swapsWith e (some (.Attribute o f p')) pos.line X.env = pure false) : PS X (.Assign [.Attribute o f p'] e pos) (tIni X.K C f to te) := by
  refine ⟨fun pins s σ H D I ⟨T, hno, h⟩ => plainObj_wpAny_Assign_Attribute (thn (he.run pins s σ H _ I h) fun v s1 ⟨y, H1, I1, r1, q1⟩ => thn (ho.run pins s1 σ H1 _ I1 q1) fun w s2 ⟨x, H2, I2, r2, a, ex, ea, q⟩ => ?_) hs⟩
  subst ex
  obtain rfl : w = Value.ref a := r2
  exact ost_first T I2 ea hno r1 fun dx s' n ne J => ⟨σ, _, J, q dx n ne⟩
end
/-- the shape of its text -/
def iniB (N : List Str) (f : Str) (scope : Scope) : List Stmt → Bool
  | [.Assign [.Attribute (.Name x _) g _] (.Name y _) _] => match N with
    | [p, q] => decide (x = p) && (decide (y = q) && (decide (g = f) && ((!decide (p = q) && C8.scC N N scope) && ((decide (scope.names.lookup p = some .local) && decide (scope.names.lookup q = some .local)) &&
        (!(p == ("__debug__" : Str)) && (!(p == ("__classdict__" : Str)) && (!(q == ("__debug__" : Str)) && !(q == ("__classdict__" : Str)))))))))
    | _ => false
  | _ => false
section
variable {P : Program} {w : World} {K : PySem.W.Frag} {mg : Str → Option Value} {base : Heap} {CX : CXT}
theorem ini_fn {C fI : Addr} {f nm qual : Str} {prm : Arguments} {body : List Stmt} {scope : Scope} {kV doc pm cdv ct oc : Value} {an od : Option Addr} {osl : Array (Option Value)} {N : List Str}
    (lk : K.lookup fI = some ⟨oc, od, .func (PySem.W.fnOf nm qual prm body scope .none kV doc pm an cdv ct), osl⟩) (hcd : PySem.W.codeIn K cdv qual = true) (hb : iniB N f scope body = true)
    (bd : ∀ us : List Value, us.length = N.length → bindArgs (PySem.W.fnOf nm qual prm body scope .none kV doc pm an cdv ct) ⟨us, []⟩ = pure (N.zip us)) : FnR P w K mg base CX 1 fI (spIni K C f) := by
  unfold iniB at hb
  split at hb
  case h_2 => cases hb
  rename_i x p1 g p' y p2 pos
  split at hb
  case h_2 => cases hb
  rename_i p q
  simp only [Bool.and_eq_true, decide_eq_true_eq, Bool.not_eq_true', beq_eq_false_iff_ne, ne_eq, decide_eq_false_iff_not] at hb
  obtain ⟨rfl, rfl, rfl, ⟨hne, hsc⟩, ⟨l1, l2⟩, d1, d2, d3, d4⟩ := hb
  have S := C8.fnScope_by hsc
  intro A outer s H us vs Q E hr e0 rv ⟨T, hno, a, z, ev, ea, hq⟩
  subst ev
  refine def_run lk hcd S hr e0 (.of_eq (bd us (by rw [← rv.length]; rfl))) rfl rv ⟨tSeq (tIni K C g (tVar 0) (tVar 1)) (fun D σ H => D.nx σ H), pss_cons (ps_ini (pe_var rfl (.inl l1) (by simpa using d1) (by simpa using d2)) (pe_var rfl (.inl l2) (by simpa using d3) (by simpa using d4)) rfl) pss_nil, ?_⟩
  exact ⟨T, hno, z, rfl, .ref a, rfl, a, rfl, ea, fun dx n ne => hq dx n ne⟩
end
end Zy
end
section
set_option Elab.async false
set_option linter.all false
set_option maxRecDepth 100000
set_option maxHeartbeats 4000000
set_option autoImplicit false
/-! raise C(v), e.f -/
namespace Zy
open PySem PySem.Spec PyProof.Rows L2
theorem Room.make {k : Nat} {A : Around} (r : Room (k + 1) A) (C : Addr) (us : List Value) : Room k (A.under (.builtin "type.__call__" ⟨.ref C :: us, []⟩)) := ⟨r.toRoom.make C us [], r.gd⟩
theorem back_heap {H1 : Hp} {a dx : Addr} {o1 o2 o3 u : HO} (ha : H1 a = none) (hd : dx ≠ a) : L2.upd (L2.del (L2.upd (L2.upd (L2.upd H1 a o1) dx o2) a o3) a) dx u = L2.upd H1 dx u := by
  funext b
  by_cases hb : b = dx
  · subst hb; rw [upd_same, upd_same]
  · rw [upd_ne hb, upd_ne hb]
    by_cases hba : b = a
    · subst hba; rw [del_same, ha]
    · rw [del_ne hba, upd_ne hba, upd_ne hb, upd_ne hba]
section
variable {X : Cx} {c : C} {W : WX} {e : Expr} {p pos : Pos}
theorem pmk_keep {x : Str} {C fI : Addr} {f : Str} {ta : TA} (T : OexG X.K C) (hno : PySem.W.findIn X.K (.ref C) f = some none) (iC : PySem.W.findIn X.K (.ref C) "__init__" = some (some (.ref fI))) (tI : PySem.W.typeIn X.K (.ref fI) = some (.type "function"))
    (F1 : FnR X.prog X.w X.K X.mg X.base (L2.CX X.prog X.w) 1 fI (spIni X.K C f)) (hr : Room 2 X.A) (hg : Gl X x) (hm : X.mg x = some (.ref C)) (ha : PA X [e] ta) (hdb : (x == ("__debug__" : Str)) = false) (he : starEach [e] X.env = [(false, eval e X.env)]) :
    PMk X (.Call (.Name x p) [e] [] pos) (fun σ H Q => ta σ H fun vs H1 => ∃ y, vs = [y] ∧ ∀ dx, H1 dx = none → Q (.ref C) (some dx) (L2.upd H1 dx (.xd [(f, y)]))) := by
  intro pins s σ H Q I h
  obtain ⟨B, newId, initId, bmB, FB, SF, ei, ov⟩ := T.cls
  refine wpAny_Call_Name_kw (ld_glob I hg hm ?_ hdb)
  refine PySem.W.callWith_K (h₀ := X.base) I.ok.mod.kin T.kC (thn (ha.run pos pins s σ H _ I h) fun us s1 ⟨vs, H1, I1, r1, y, ev, q1⟩ => ⟨I1.kIn, ?_⟩) he rfl
  show wpAny _ _ (call (.ref C) us) _ _ _
  subst ev
  obtain ⟨nm, N, qn, bs, bm, hdct, sn, sub, ab, col, dd, k0, k1, k2, k3, k5, hC, hT⟩ := PySem.W.excInit_of I1.kIn ei
  obtain ⟨hp, g, dr, tk, os⟩ := s1
  let n := hp.objs.size
  have hsz : hp.objs.size ≤ hp.objs.size + 1 := Nat.le_succ _
  have hn : H1 (hp.objs.size + 1) = none := I1.hok.fresh hsz
  have up2 : ∀ b o, hp.get? b = some o → ((hp.push (PySem.W.kdv_tup us)).push (PySem.HandSPX.excO C hp.objs.size)).get? b = some o := fun b o z => Heap.get?_push_of_some _ (Heap.get?_push_of_some _ z)
  have hobj : ((hp.push (PySem.W.kdv_tup us)).push (PySem.HandSPX.excO C hp.objs.size)).get? (hp.objs.size + 1) = some (PySem.HandSPX.excO C hp.objs.size) := by heap_get
  have I2 := I1.laid (t' := tk) (a := hp.objs.size + 1) (o := exo (hp.objs.size + 1) C none) (h' := (hp.push (PySem.W.kdv_tup us)).push (PySem.HandSPX.excO C hp.objs.size)) up2 hsz (exo_ok hobj)
  obtain ⟨u0, rfl, ru⟩ := vals1 r1
  have sp : spIni X.K C f [.ref (hp.objs.size + 1), y] (L2.upd H1 (hp.objs.size + 1) (exo (hp.objs.size + 1) C none)) (fun v H2 => v = .non ∧ ∃ dx, H1 dx = none ∧ dx ≠ hp.objs.size + 1 ∧ H2 = L2.upd (L2.upd (L2.upd H1 (hp.objs.size + 1) (exo (hp.objs.size + 1) C none)) dx (exd dx [(f, y)])) (hp.objs.size + 1) (exo (hp.objs.size + 1) C (some dx))) (fun _ _ _ => False) :=
    ⟨T, hno, _, y, rfl, upd_same, fun dx n ne => ⟨rfl, dx, by rw [upd_ne ne] at n; exact n, ne, rfl⟩⟩
  refine wpAny_call (PySem.HandSPX.call_own FB hT hC (PySem.W.looks_findIn I1.kIn iC) (fun self => PySem.W.bind_fn I1.kIn self tI) (by show 1 ≤ sizeLine; decide)
    (codeAny_mono (F1 _ X.stack _ _ _ _ _ (fun _ _ _ => False) (hr.make C [u0]) (I2.env0.make C [u0] []) (show Vals [.ref (hp.objs.size + 1), y] [.ref (hp.objs.size + 1), u0] from .cons rfl (.cons ru .nil)) sp) fun r s' hq => ?_))
  cases r with
  | error er =>
    obtain ⟨_, _, _, _, _, _, _, _, _, _, _, _, z⟩ := hq
    exact z.elim
  | ok fl =>
    cases fl with
    | ret u =>
      obtain ⟨v, H2, os2, bare2, un2, hok2, rv, ev, dx, hd1, hd2, eH⟩ := hq
      subst ev
      obtain ⟨h2, g2, d2, t2, os'⟩ := s'
      refine ⟨rv, ?_⟩
      have ea : H2 (hp.objs.size + 1) = some (exo (hp.objs.size + 1) C (some dx)) := by rw [eH, upd_same]
      have ed : H2 dx = some (exd dx [(f, y)]) := by rw [eH, upd_ne hd2, upd_same]
      refine mk_end (raises_own T.exC T.tyC) I1 hsz up2 un2 hok2 os2 bare2 ea ed hd1 ?_
      rw [eH, back_heap hn hd2]
      exact q1 dx hd1
    | next => exact False.elim hq
    | brk => exact False.elim hq
    | cont => exact False.elim hq
/-! ### in Z -/
def dRaiseF (k : Nat) (f : Str) (d : DE) : DS := fun l G => (d l G).st l fun z G1 => .exc ⟨.own k, some G1.length⟩ l (G1 ++ [.xd [(f, z)]])
theorem ss_raiseF {x : Str} {fI : Addr} {k : Nat} {f : Str} {d : DE} {p3 pos : Pos} (hc : X.calm = true) (tk : Takes X W) (T : OexG X.K (c.ca k)) (hno : PySem.W.findIn X.K (.ref (c.ca k)) f = some none) (iC : PySem.W.findIn X.K (.ref (c.ca k)) "__init__" = some (some (.ref fI))) (tI : PySem.W.typeIn X.K (.ref fI) = some (.type "function"))
    (F1 : FnR X.prog X.w X.K X.mg X.base (L2.CX X.prog X.w) 1 fI (spIni X.K (c.ca k) f)) (hr : Room 2 X.A) (hg : Gl X x) (hm : X.mg x = some (.ref (c.ca k))) (h : PE X e (tE c W d)) (hdb : (x == ("__debug__" : Str)) = false) (he : starEach [e] X.env = [(false, eval e X.env)]) :
    PS X (.Raise (some (.Call (.Name x p) [e] [] p3)) none pos) (tS c W (dRaiseF k f d)) :=
  (ps_raise hc tk (pmk_keep T hno iC tI F1 hr hg hm (pa_cons h pa_nil he) hdb he)).weak fun D σ H ⟨ρ, G, l, R, hl, q⟩ => by
    refine ⟨ρ, G, l, R, hl, ?_⟩
    show RQ c (RZ c) ρ H (d l G) _ _
    refine RQ.of_st hl q fun ρ1 H1 G1 z v e1 R1 l1 rz q1 => ?_
    refine ⟨v, rfl, fun dx hdx => ?_⟩
    obtain ⟨R2, e2⟩ := R1.new (z := .xd [(f, z)]) (o := .xd [(f, v)]) hdx ⟨[v], rfl, .cons rz .nil⟩
    exact (show RS c ρ1 H1 (.exc ⟨.own k, some G1.length⟩ l (G1 ++ [.xd [(f, z)]])) D W from q1) _ _ σ _ _ e2 R2 (l1.mono e2) ⟨rfl, dx, by rw [← R1.len]; exact get_new ρ1 dx, rfl⟩
/-- e.f -/
def dFld (x : Option XR) (ks : List (Nat × Str)) (n : Str) (i : Nat) : DE := fun l G => match x, l[i]? with
  | some x, some (some .ex) => match x.pay, x.cls with
    | some m, .own k => match G[m]? with
      | some (.xd fs) => match fs.lookup n with
        | some z => if (k, n) ∈ ks then .ok z G else .bad
        | none => .bad
      | _ => .bad
    | _, _ => .bad
  | _, _ => .bad
theorem xd_look {ρ : List Addr} {H : Hp} {n : Str} : ∀ {fs : List (Str × Z)} {vs : List V} {z : Z}, RZs c ρ H (fs.map (·.2)) vs → fs.lookup n = some z → ∃ v, ((fs.map (·.1)).zip vs).lookup n = some v ∧ RZ c ρ H z v
  | [], vs, z, r, h => by cases h
  | (g, y) :: fs, vs, z, r, h => by
    rw [List.map_cons] at r
    unfold RZs at r
    obtain ⟨v, vs', rfl, r1, r2⟩ := r
    rw [List.map_cons, List.zip_cons_cons]
    rw [List.lookup_cons] at h ⊢
    cases q : n == g with
    | true => rw [q] at h; cases h; exact ⟨v, rfl, r1⟩
    | false => rw [q] at h; exact xd_look r2 h
end
end Zy
end
section
set_option Elab.async false
set_option linter.all false
set_option maxRecDepth 100000
set_option maxHeartbeats 4000000
set_option autoImplicit false
/-! the text as data of our own, what it means, that it is the text -/
namespace Zy
open PySem PySem.Spec PyProof.Rows L2

inductive Bn where
  | len | abs | all | any | sum | max | min | isi | repr
  deriving DecidableEq
inductive Mn where
  | append | extend | pop | index
  deriving DecidableEq
/-- what a global name is -/
inductive GK where
  | fn (k : Nat) | val (z : Z) | ty (n : String) | bf (b : Bn) | ex (k : Nat) | dct (es : List (List Nat × Z)) | lam (k : Nat) | rng | exf (k : Nat) (f : Str)
structure Tb where
  gl : List (Str × GK)
/-- the own exceptions that keep a value, with the field's name -/
def Tb.kept (T : Tb) : List (Nat × Str) := T.gl.filterMap fun q => match q.2 with
  | .exf k f => some (k, f)
  | _ => none
inductive E where
  | var (i : Nat) | cst (z : Z) | glb (j : Nat) | bin (op : Operator) (a b : E) | cmp (op : CmpOp) (a b : E) | chn (o1 o2 : CmpOp) (a b c : E) | neg (a : E) | not (a : E) | and (a r : E) | or (a r : E) | one (a : E) | ife (t a b : E)
  | tup (a : E) | lst (a : E) | call (j : Nat) (a : E) | bfn (j : Nat) (a : E) | ix (a b : E) | slc (a lo hi : E) | none_ | mth (m : Mn) (o a : E) | cpr (it : E) (p : Pat) (t e : E) (own : List Nat) | yes
  | wix (j : Nat) (a : E) | act (i : Nat) | isE (j : Nat) | dnew | dmk (a : E) | anil | acons (a r : E) | dnil | dcons (k v r : E) | rng1 (j : Nat) (a : E) | rng2 (j : Nat) (a : E) | lam (j : Nat) (e : E) | enm (j : Nat) (a : E) | zp (j : Nat) (a : E) | fld (n : Str)
structure M where
  e : DE
  t : DT := dTru e
  a : DA := fun _ _ => .bad
  i : DI := dIter e
  o : L → GH → R (Option Int) := dPart e
  p : L → GH → R (List (Z × Z)) := fun _ _ => .bad
def badE : DE := fun _ _ => .bad
/-- what is called at a place: functions, functions that take a lambda, functions within a lambda, the lambda that was taken; the caught exception -/
structure Rt where
  cf : CF
  lf : Nat → (GH → R Z) → GH → R Z := fun _ _ _ => .bad
  low : CF := fun _ _ _ => .bad
  th : GH → R Z := fun _ => .bad
  x : Option XR := none
  sub : XC → XC → Option Bool := fun _ _ => none
  lv : Nat := 0
def Rt.lower (r : Rt) : Rt := { cf := r.low, sub := r.sub, lv := r.lv - 2 }
def bnZ : Bn → List Z → GH → R Z
  | .len => on1 zLen
  | .abs => on1 zAbs
  | .all => on1 zAll
  | .any => on1 zAny
  | .sum => on1 zSum
  | .max => on2 zMax2
  | .min => on2 zMin2
  | .isi => on2 zIsi
  | .repr => on1 zRepr
def tyZ (n : String) : List Z → GH → R Z := if n = "int" then on1 zInt else if n = "bool" then on1 zBool else if n = "tuple" then on1 zTuple else if n = "list" then on1 zList else fun _ _ => .bad
def mnZ : Mn → MF
  | .append => zAppend
  | .extend => zExtend
  | .pop => zPop
  | .index => zIndex
def mnN : Mn → Str
  | .append => "append"
  | .extend => "extend"
  | .pop => "pop"
  | .index => "index"
def mnT : Mn → List String
  | _ => ["list"]
def dWix (es : List (List Nat × Z)) (a : DE) : DE := fun l G => (a l G).bind fun x G1 => match x with
  | .str y => match es.lookup y with
    | some z => .ok z G1
    | none => .bad
  | _ => .bad
/-- isinstance(e, C), e the caught exception in slot i -/
def dIsE (sub : XC → XC → Option Bool) (x : Option XR) (k : XC) (i : Nat) : DE := fun l G => match x, l[i]? with
  | some x, some (some .ex) => match x.pay, x.cls, sub x.cls k with
    | none, .own _, some b => .ok (.bl b) G
    | _, _, _ => .bad
  | _, _ => .bad
def dNewD : DE := fun _ G => newO (.dK [] []) G
def keyZ : Z → Option Key
  | .int i => some (.inl i)
  | .str x => some (.inr ⟨x.toArray⟩)
  | _ => none
def mkKZ : List (Z × Z) → List Key → List Z → Option (List Key × List Z)
  | [], ks, zs => some (ks, zs)
  | (k, z) :: r, ks, zs => match keyZ k with
    | some k => if (ks.any fun j => @decide (j = k) (instDecidableEqSum j k)) then none else mkKZ r (ks ++ [k]) (zs ++ [z])
    | none => none
def dAct (i : Nat) (th : GH → R Z) : DE := fun l G => match l[i]? with
  | some (some .ex) => th G
  | _ => .bad
def ev (T : Tb) : E → Rt → Option Nat → M
  | .var i, r, xs => { e := dVar i }
  | .cst z, r, xs => { e := dC z }
  | .glb j, r, xs => { e := match T.gl[j]? with
    | some (_, .val z) => dC z
    | some (_, .ty n) => dC (.ty n)
    | _ => badE }
  | .bin op a b, r, xs => { e := dBin op (ev T a r xs).e (ev T b r xs).e }
  | .cmp op a b, r, xs => { e := dCmp op (ev T a r xs).e (ev T b r xs).e, t := uB (dCmp op (ev T a r xs).e (ev T b r xs).e) }
  | .chn o1 o2 a b c, r, xs => { e := dChn o1 o2 (ev T a r xs).e (ev T b r xs).e (ev T c r xs).e, t := uB (dChn o1 o2 (ev T a r xs).e (ev T b r xs).e (ev T c r xs).e) }
  | .neg a, r, xs => { e := dNeg (ev T a r xs).e }
  | .not a, r, xs => { e := dNot (ev T a r xs).e, t := uNot (ev T a r xs).t }
  | .and a b, r, xs => { e := dAnd (ev T a r xs).e (ev T b r xs).e, t := uAnd (ev T a r xs).t (ev T b r xs).t }
  | .or a b, r, xs => { e := dOr (ev T a r xs).e (ev T b r xs).e, t := uOr (ev T a r xs).t (ev T b r xs).t }
  | .one a, r, xs => { e := (ev T a r xs).e, t := (ev T a r xs).t }
  | .ife t a b, r, xs => { e := dIf (ev T t r xs).t (ev T a r xs).e (ev T b r xs).e }
  | .tup a, r, xs => { e := dTup (ev T a r xs).a }
  | .lst a, r, xs => { e := dLst (ev T a r xs).a }
  | .call j a, r, xs => { e := match T.gl[j]? with
    | some (_, .fn k) => dCall r.cf k (ev T a r xs).a
    | _ => badE }
  | .bfn j a, r, xs => { e := match T.gl[j]? with
    | some (_, .bf b) => dFn (bnZ b) (ev T a r xs).a
    | some (_, .ty n) => dFn (tyZ n) (ev T a r xs).a
    | _ => badE }
  | .ix a b, r, xs => { e := dIx (ev T a r xs).e (ev T b r xs).e }
  | .slc a lo hi, r, xs => { e := dSlc (ev T a r xs).e (ev T lo r xs).o (ev T hi r xs).o }
  | .none_, r, xs => { e := badE, o := dNoPart }
  | .mth m o a, r, xs => { e := dMth (mnZ m) (mnT m) (ev T o r xs).e (ev T a r xs).a }
  | .cpr it p t e own, r, xs => { e := dComp (ev T it r xs).i p (ev T t r xs).t (ev T e r xs).e own }
  | .yes, r, xs => { e := badE, t := dYes }
  | .wix j a, r, xs => { e := match T.gl[j]? with
    | some (_, .dct es) => dWix es (ev T a r xs).e
    | _ => badE }
  | .act i, r, xs => { e := dAct i r.th }
  | .isE j, r, xs => { e := match T.gl[j]?, xs with
    | some (_, .ex k), some i => dIsE r.sub r.x (.own k) i
    | some (_, .exf k _), some i => dIsE r.sub r.x (.own k) i
    | some (_, .ty n), some i => dIsE r.sub r.x (.blt n) i
    | _, _ => badE }
  | .dnew, r, xs => { e := dNewD }
  | .dmk a, r, xs => { e := fun l G => ((ev T a r xs).p l (G ++ [.dK [] []])).bind fun ps G2 => match G2[G.length]?, mkKZ ps [] [] with
    | some (.dK [] []), some (ks, zs) => if ps.length ≤ 15 then .ok (.ref G.length) (G2.set G.length (.dK ks zs)) else .bad
    | _, _ => .bad }
  | .anil, r, xs => { e := badE, a := dNil }
  | .acons a b, r, xs => { e := badE, a := dCons (ev T a r xs).e (ev T b r xs).a }
  | .dnil, r, xs => { e := badE, p := fun _ G => .ok [] G }
  | .dcons k v b, r, xs => { e := badE, p := fun l G => ((ev T k r xs).e l G).bind fun x G1 => ((ev T v r xs).e l G1).bind fun y G2 => ((ev T b r xs).p l G2).bind fun ps G3 => .ok ((x, y) :: ps) G3 }
  | .rng1 _ a, r, xs => { e := badE, i := dRng1 (ev T a r xs).a }
  | .rng2 _ a, r, xs => { e := badE, i := dRng2 (ev T a r xs).a }
  | .enm _ a, r, xs => { e := badE, i := dEnum (ev T a r xs).a }
  | .zp _ a, r, xs => { e := badE, i := dZip (ev T a r xs).a }
  | .fld n, r, xs => { e := match xs with
    | some i => dFld r.x T.kept n i
    | none => badE }
  | .lam j e, r, xs => { e := match T.gl[j]? with
    | some (_, .lam k) => fun l G => r.lf k (fun G' => (ev T e r.lower none).e l G') G
    | _ => badE }

/-! ### statements -/
inductive Gt where
  | nm (i : Nat) | tp (gs : Gt) | gnil | gcons (g gs : Gt) | sub (o i : E)
structure MG where
  g : DG
  gs : DGs := fun _ _ _ => .bad
  n : Nat := 0
def evG (T : Tb) (r : Rt) (xs : Option Nat) : Gt → MG
  | .nm i => { g := dgName i }
  | .tp gs => { g := dgTup (evG T r xs gs).n (evG T r xs gs).gs }
  | .gnil => { g := fun _ _ _ => .bad, gs := dgNil, n := 0 }
  | .gcons g gs => { g := fun _ _ _ => .bad, gs := dgCons (evG T r xs g).g (evG T r xs gs).gs, n := (evG T r xs gs).n + 1 }
  | .sub o i => { g := dgSub (ev T o r xs).e (ev T i r xs).e }
inductive St where
  | nil | cons (s r : St) | ret (e : E) | retN | exp (e : E) | asg (g : Gt) (e : E) | asgC (i : Nat) (e : E) | ife (t : E) (a b : St) | pass | brk | cnt | for_ (it : E) (g : Gt) (b : St) | while_ (t : E) (b : St) | raise_ (j : Nat) | try_ (b h : St) | raiseF (j : Nat) (e : E) | hnil | hcons (j : Nat) (i : Option Nat) (b r : St)
  | par (i j : Nat) (a : E)
structure MS where
  s : DS
  h : List HZ := []
def dPar (i j : Nat) (a : DA) : DS := fun l G => (a l G).st l fun xs G1 => match xs with
  | [x, y] => .nx ((l.set i (some x)).set j (some y)) G1
  | _ => .bad
def badS : DS := fun _ _ => .bad
def evS (T : Tb) (xs : Option Nat) : St → Rt → MS
  | .nil, r => { s := dNop }
  | .cons a b, r => { s := dSeq (evS T xs a r).s (evS T xs b r).s }
  | .ret e, r => { s := dRet (ev T e r xs).e }
  | .retN, r => { s := dRetN }
  | .exp e, r => { s := dExp (ev T e r xs).e }
  | .asg g e, r => { s := dAsg (evG T r xs g).g (ev T e r xs).e }
  | .asgC i e, r => { s := dAsg (dgName i) (ev T e r xs).e }
  | .ife t a b, r => { s := dIfS (ev T t r xs).t (evS T xs a r).s (evS T xs b r).s }
  | .pass, r => { s := dNop }
  | .brk, r => { s := dBrk }
  | .cnt, r => { s := dCnt }
  | .for_ it g b, r => { s := dFor (ev T it r xs).i (evG T r xs g).g (evS T xs b r).s }
  | .while_ t b, r => { s := dWhile (ev T t r xs).t (evS T xs b r).s }
  | .raise_ j, r => { s := match T.gl[j]? with
    | some (_, .ex k) => dRaise k
    | _ => badS }
  | .raiseF j e, r => { s := match T.gl[j]? with
    | some (_, .exf k f) => dRaiseF k f (ev T e r xs).e
    | _ => badS }
  | .try_ b h, r => { s := dTry r.sub (evS T xs b r).s (evS T xs h r).h }
  | .hnil, r => { s := badS, h := [] }
  | .hcons j i b rest, r => { s := badS, h := ⟨match T.gl[j]? with | some (_, .ex k) => .own k | some (_, .exf k _) => .own k | _ => .blt "", i, fun x => (evS T i b { r with x := some x }).s⟩ :: (evS T xs rest r).h }
  | .par i j a, r => { s := dPar i j (ev T a r xs).a }
end Zy
end
section
set_option Elab.async false
set_option linter.all false
set_option maxRecDepth 100000
set_option maxHeartbeats 4000000
set_option autoImplicit false
namespace Zy
open PySem PySem.Spec PyProof.Rows L2

/-- the place: its names, may an exception be made here, the slot of the caught one, the slot of what is called -/
structure Sx where
  sc : Scope
  N : List Str
  cm : Bool := true
  xs : Option Nat := none
  act : Option Nat := none
  lm : Bool := false
inductive Syn where
  | e (x : Expr) | t (x : Expr) | w (x : Expr) | a (xs : List Expr) | i (x : Expr) | o (x : Option Expr) | c (xs : List Expr) | d (ks : List (Option Expr)) (vs : List Expr)
def okN (x : Str) : Bool := !(x == ("__debug__" : Str)) && (!(x == ("__classdict__" : Str)) && !(x == ("__name__" : Str)))
def glB (s : Sx) (x : Str) : Bool := decide (s.sc.names.lookup x = some .globalImplicit)
def visB (s : Sx) (x : Str) : Bool := match s.sc.names.lookup x with
  | some .local => true
  | some .cell => true
  | some .free => true
  | _ => false
def plainT : Expr → Bool
  | .UnaryOp .Not _ _ => false
  | .BoolOp _ _ _ => false
  | .IfExp _ _ _ _ => false
  | .Compare _ _ _ _ => false
  | _ => true
def notSet : Expr → Bool
  | .Set _ _ _ => false
  | _ => true
def notStar : Expr → Bool
  | .Starred _ _ => false
  | _ => true
def notCall : Expr → Bool
  | .Call _ _ _ _ => false
  | _ => true
def notSlice : Expr → Bool
  | .Slice _ _ _ _ => false
  | .Tuple _ _ _ => false
  | _ => true
def gen (core : Expr → Bool) : Syn → Bool
  | .e x => core x
  | .t x => core x && plainT x
  | .i x => core x && notSet x
  | .o (some x) => core x
  | .c [x] => core x && plainT x
  | _ => false
def bnId : Bn → String
  | .len => "len"
  | .abs => "abs"
  | .all => "all"
  | .any => "any"
  | .sum => "sum"
  | .max => "max"
  | .min => "min"
  | .isi => "isinstance"
  | .repr => "repr"
def bnCalm : Bn → Bool
  | .len => false
  | .abs => false
  | .isi => false
  | .repr => false
  | _ => true
def ownC (N : List Str) : List Nat → Option (List (Str × Nat))
  | [] => some []
  | i :: r => match N[i]?, ownC N r with
    | some x, some l => some ((x, i) :: l)
    | _, _ => none
mutual
def patC (sc : Scope) (N : List Str) (fnc : Str → Bool) : Pat → Expr → Bool
  | .nm i, .Name x _ => decide (N[i]? = some x) && (match sc.names.lookup x with
    | some .local => true
    | some .cell => fnc x
    | _ => false)
  | .tp ps, .Tuple es _ _ => patsC sc N fnc ps es
  | _, _ => false
def patsC (sc : Scope) (N : List Str) (fnc : Str → Bool) : Pats → List Expr → Bool
  | .nil, [] => true
  | .cons p ps, e :: es => notStar e && (patC sc N fnc p e && patsC sc N fnc ps es)
  | _, _ => false
end
/-- the block's place -/
def Sx.blk (s : Sx) (scope : Scope) : Sx := { sc := relS scope s.sc, N := s.N, cm := s.cm, lm := s.lm }
/-- an iterator of pairs asks a target of several names -/
def tgB : Expr → Expr → Bool
  | .Call (.Name n _) _ _ _, tg => !(n == ("enumerate" : Str) || n == ("zip" : Str)) || (match tg with
    | .Tuple _ _ _ => true
    | _ => false)
  | _, _ => true
def noArgs : Arguments → Bool
  | ⟨[], [], none, [], [], none, []⟩ => true
  | _ => false
def chk (T : Tb) : E → Sx → Syn → Bool
  | .var i, s => gen fun x => match x with
    | .Name n _ => decide (s.N[i]? = some n) && (visB s n && okN n)
    | _ => false
  | .cst z, s => gen fun x => match x, z with
    | .Constant (.int i) _ _, .int j => decide (i = j)
    | .Constant (.bool i) _ _, .bl j => decide (i = j)
    | .Constant .none _ _, .non => true
    | .Constant (.str w) _ _, .str y => decide (y = w.cps.toList) && decide (y.length ≤ 10000)
    | _, _ => false
  | .glb j, s => gen fun x => match x with
    | .Name n _ => (match T.gl[j]? with
      | some (n', .val _) => decide (n = n') && (glB s n && okN n)
      | some (n', .ty _) => decide (n = n') && (glB s n && okN n)
      | _ => false)
    | _ => false
  | .bin op a b, s => gen fun x => match x with
    | .BinOp l op' r _ => decide (op = op') && (chk T a s (.e l) && chk T b s (.e r))
    | _ => false
  | .cmp op a b, s => fun y => match y with
    | .e (.Compare l [op'] [r] _) => decide (op = op') && ((behindInMarks op r == false) && (chk T a s (.e l) && chk T b s (.e r)))
    | .t (.Compare l [op'] [r] _) => decide (op = op') && ((behindInMarks op r == false) && (chk T a s (.e l) && chk T b s (.e r)))
    | .c [.Compare l [op'] [r] _] => decide (op = op') && ((behindInMarks op r == false) && (chk T a s (.e l) && chk T b s (.e r)))
    | _ => false
  | .chn o1 o2 a b c, s => fun y => match y with
    | .e (.Compare l [p1, p2] [m, r] _) => (decide (o1 = p1) && decide (o2 = p2)) && ((lastMarks [o1, o2] [m, r] == false) && (chk T a s (.e l) && (chk T b s (.e m) && chk T c s (.e r))))
    | .t (.Compare l [p1, p2] [m, r] _) => (decide (o1 = p1) && decide (o2 = p2)) && ((lastMarks [o1, o2] [m, r] == false) && (chk T a s (.e l) && (chk T b s (.e m) && chk T c s (.e r))))
    | .c [.Compare l [p1, p2] [m, r] _] => (decide (o1 = p1) && decide (o2 = p2)) && ((lastMarks [o1, o2] [m, r] == false) && (chk T a s (.e l) && (chk T b s (.e m) && chk T c s (.e r))))
    | _ => false
  | .neg a, s => gen fun x => match x with
    | .UnaryOp .USub x _ => chk T a s (.e x)
    | _ => false
  | .not a, s => fun y => match y with
    | .e (.UnaryOp .Not x _) => chk T a s (.e x)
    | .t (.UnaryOp .Not x _) => chk T a s (.t x)
    | .c [.UnaryOp .Not x _] => chk T a s (.t x)
    | _ => false
  | .and a r, s => fun y => match y with
    | .e (.BoolOp .And (x :: x2 :: rest) p) => chk T a s (.e x) && chk T r s (.e (.BoolOp .And (x2 :: rest) p))
    | .w (.BoolOp .And (x :: x2 :: rest) p) => chk T a s (.t x) && chk T r s (.w (.BoolOp .And (x2 :: rest) p))
    | .t (.BoolOp .And (x :: x2 :: rest) p) => chk T a s (.t x) && chk T r s (.w (.BoolOp .And (x2 :: rest) p))
    | .c [.BoolOp .And (x :: x2 :: rest) p] => chk T a s (.t x) && chk T r s (.w (.BoolOp .And (x2 :: rest) p))
    | _ => false
  | .or a r, s => fun y => match y with
    | .e (.BoolOp .Or (x :: x2 :: rest) p) => chk T a s (.e x) && chk T r s (.e (.BoolOp .Or (x2 :: rest) p))
    | .w (.BoolOp .Or (x :: x2 :: rest) p) => chk T a s (.t x) && chk T r s (.w (.BoolOp .Or (x2 :: rest) p))
    | .t (.BoolOp .Or (x :: x2 :: rest) p) => chk T a s (.t x) && chk T r s (.w (.BoolOp .Or (x2 :: rest) p))
    | .c [.BoolOp .Or (x :: x2 :: rest) p] => chk T a s (.t x) && chk T r s (.w (.BoolOp .Or (x2 :: rest) p))
    | _ => false
  | .one a, s => fun y => match y with
    | .e (.BoolOp _ [x] _) => chk T a s (.e x)
    | .w (.BoolOp _ [x] _) => chk T a s (.t x)
    | _ => false
  | .ife t a b, s => gen fun x => match x with
    | .IfExp t' l r _ => chk T t s (.t t') && (chk T a s (.e l) && chk T b s (.e r))
    | _ => false
  | .tup a, s => gen fun x => match x with
    | .Tuple es _ _ => chk T a s (.a es)
    | _ => false
  | .lst a, s => gen fun x => match x with
    | .List es _ => chk T a s (.a es)
    | _ => false
  | .call j a, s => gen fun x => match x with
    | .Call (.Name n _) es [] _ => (match T.gl[j]? with
      | some (n', .fn _) => decide (n = n') && (s.cm && (glB s n && (okN n && (es.all notStar && chk T a s (.a es)))))
      | _ => false)
    | _ => false
  | .bfn j a, s => gen fun x => match x with
    | .Call (.Name n _) (e :: es) [] _ => (match T.gl[j]? with
      | some (n', .bf b) => decide (n = n') && ((!bnCalm b || s.cm) && (glB s n && (okN n && ((e :: es).all notStar && chk T a s (.a (e :: es))))))
      | some (n', .ty _) => decide (n = n') && (glB s n && (okN n && ((e :: es).all notStar && chk T a s (.a (e :: es)))))
      | _ => false)
    | _ => false
  | .ix a b, s => gen fun x => match x with
    | .Subscript l r _ => notSlice r && (chk T a s (.e l) && chk T b s (.e r))
    | _ => false
  | .slc a lo hi, s => gen fun x => match x with
    | .Subscript l (.Slice p q none _) _ => chk T a s (.e l) && (chk T lo s (.o p) && chk T hi s (.o q))
    | _ => false
  | .none_, s => fun y => match y with
    | .o none => true
    | _ => false
  | .mth m o a, s => gen fun x => match x with
    | .Call (.Attribute o' n apos) es [] cpos => decide (n = mnN m) && (notCall o' && (decide (es.length < 20) && ((apos.endLine == cpos.line) && (es.all notStar && (chk T o s (.e o') && chk T a s (.a es))))))
    | _ => false
  | .cpr it p t e own, s => gen fun x => match x with
    | .ListComp elt [⟨tg, iter, ifs, 0⟩] scope _ => (s.cm && s.xs.isNone) && (match ownC s.N own with
      | some ow => blkC s.N s.sc scope ow && (p.slots.all (fun i => own.contains i) && (tgB iter tg && (patC (relS scope s.sc) s.N (fun x => scope.names.lookup x == some .cell) p tg && (chk T it s (.i iter) && (chk T t (s.blk scope) (.c ifs) && chk T e (s.blk scope) (.e elt))))))
      | none => false)
    | _ => false
  | .yes, s => fun y => match y with
    | .c [] => true
    | _ => false
  | .wix j a, s => gen fun x => match x with
    | .Subscript (.Name n _) r _ => (match T.gl[j]? with
      | some (n', .dct _) => decide (n = n') && (notSlice r && (glB s n && (okN n && chk T a s (.e r))))
      | _ => false)
    | _ => false
  | .act i, s => gen fun x => match x with
    | .Call (.Name n _) [] [] _ => decide (s.act = some i) && (decide (s.N[i]? = some n) && (visB s n && okN n))
    | _ => false
  | .isE j, s => gen fun x => match x, s.xs with
    | .Call (.Name f _) [.Name n _, .Name k _] [] _, some i => (match T.gl[j]? with
      | some (k', .ex _) => decide (f = ("isinstance" : Str)) && (glB s f && (decide (s.N[i]? = some n) && (visB s n && (okN n && (decide (k = k') && (glB s k && okN k))))))
      | some (k', .exf _ _) => decide (f = ("isinstance" : Str)) && (glB s f && (decide (s.N[i]? = some n) && (visB s n && (okN n && (decide (k = k') && (glB s k && okN k))))))
      | some (k', .ty _) => decide (f = ("isinstance" : Str)) && (glB s f && (decide (s.N[i]? = some n) && (visB s n && (okN n && (decide (k = k') && (glB s k && okN k))))))
      | _ => false)
    | _, _ => false
  | .dnew, s => gen fun x => match x with
    | .Dict [] [] _ => true
    | _ => false
  | .dmk a, s => gen fun x => match x with
    | .Dict (k :: ks) vs _ => decide ((k :: ks).length = vs.length) && (decide ((k :: ks).length ≤ 15) && ((k :: ks).all (·.isSome) && chk T a s (.d (k :: ks) vs)))
    | _ => false
  | .anil, s => fun y => match y with
    | .a [] => true
    | _ => false
  | .acons a r, s => fun y => match y with
    | .a (x :: xs) => notStar x && (chk T a s (.e x) && chk T r s (.a xs))
    | _ => false
  | .dnil, s => fun y => match y with
    | .d [] [] => true
    | _ => false
  | .dcons k v r, s => fun y => match y with
    | .d (some x :: ks) (w :: vs) => chk T k s (.e x) && (chk T v s (.e w) && chk T r s (.d ks vs))
    | _ => false
  | .rng1 j a, s => fun y => match y with
    | .i (.Call (.Name n _) [x] [] _) => (match T.gl[j]? with
      | some (n', .rng) => decide (n = n') && (decide (n = ("range" : Str)) && (glB s n && (notStar x && chk T a s (.a [x]))))
      | _ => false)
    | _ => false
  | .rng2 j a, s => fun y => match y with
    | .i (.Call (.Name n _) [x, x2] [] _) => (match T.gl[j]? with
      | some (n', .rng) => decide (n = n') && (decide (n = ("range" : Str)) && (glB s n && (notStar x && (notStar x2 && chk T a s (.a [x, x2])))))
      | _ => false)
    | _ => false
  | .enm j a, s => fun y => match y with
    | .i (.Call (.Name n _) [x] [] _) => (match T.gl[j]? with
      | some (n', .rng) => decide (n = n') && (decide (n = ("enumerate" : Str)) && (glB s n && (notStar x && chk T a s (.a [x]))))
      | _ => false)
    | _ => false
  | .zp j a, s => fun y => match y with
    | .i (.Call (.Name n _) [x, x2] [] _) => (match T.gl[j]? with
      | some (n', .rng) => decide (n = n') && (decide (n = ("zip" : Str)) && (glB s n && (notStar x && (notStar x2 && chk T a s (.a [x, x2])))))
      | _ => false)
    | _ => false
  | .fld f, s => gen fun x => match x, s.xs with
    | .Attribute (.Name n _) g _, some i => decide (g = f) && (decide (s.N[i]? = some n) && (visB s n && okN n))
    | _, _ => false
  | .lam j e, s => gen fun x => match x with
    | .Call (.Name n _) [.Lambda params body scope _] [] _ => (match T.gl[j]? with
      | some (n', .lam _) => decide (n = n') && ((s.cm && s.lm) && (glB s n && (okN n && (LamX.lamSB s.sc scope && (noArgs params && chk T e { sc := scope, N := s.N } (.e body))))))
      | _ => false)
    | _ => false

/-! ### what a place must keep -/
/-- a def that takes a lambda without parameters -/
def LamR (P : Program) (w : World) (K : PySem.W.Frag) (mg : Str → Option Value) (base : Heap) (c : C) (d : Nat) (g : Addr) (lf : (GH → R Z) → GH → R Z) : Prop :=
  ∀ (D : Dy) (A : Around) (outer : List Env) (s : Shared) (H : Hp) (f : Addr) (th : GH → R Z) (ρ : List Addr) (G : GH) (Q : VK) (E : XK), Room d A → Env0 P w K mg base A outer s H → D.xa = f → Rel (c.at_ D) ρ H G →
    (∀ (N : List Str) (qg : Str) (sg : Scope) (cdg : Value) (Eg : XK) (W : WX) (pn : List (Addr × Obj)) (xe : Value → Shared → Prop) (a : Str) (i : Nat) (p1 p2 : Pos), N[i]? = some a → Vis sg a → okN a = true → Takes ((cxOf (L2.CX P w) P w K mg base N qg sg g cdg A outer s H Eg).tr pn xe) W →
      PE ((cxOf (L2.CX P w) P w K mg base N qg sg g cdg A outer s H Eg).tr pn xe) (.Call (.Name a p1) [] [] p2) (tE (c.at_ D) W (dAct i th))) →
    RQ (c.at_ D) (RZ (c.at_ D)) ρ H (lf th G) Q E → codeAny (model P w) A (.call (.ref g) ⟨[.ref f], []⟩) (CR (L2.CX P w) outer P w H s Q E) s
def GlOk (r : Rt) (c : C) (cm : Bool) (X : Cx) (x : Str) : GK → Prop
  | .fn k => X.mg x = some (.ref (c.fa k)) ∧ PySem.W.keepIn X.K (.ref (c.fa k)) = true ∧ (cm = true → FnR X.prog X.w X.K X.mg X.base (L2.CX X.prog X.w) r.lv (c.fa k) (spR c (r.cf k)) ∧ ∀ d, r.lv = d + 2 → FnR X.prog X.w X.K X.mg X.base (L2.CX X.prog X.w) d (c.fa k) (spR c (r.low k)))
  | .val z => ∃ u v, X.mg x = some u ∧ RelV v u ∧ ∀ ρ H, RZ c ρ H z v
  | .ty n => X.mg x = none ∧ bootBuiltins x = some (.type n)
  | .bf b => X.mg x = none ∧ bootBuiltins x = some (.builtin (bnId b))
  | .ex k => X.mg x = some (.ref (c.ca k)) ∧ PySem.W.keepIn X.K (.ref (c.ca k)) = true ∧ Raises X (.ref (c.ca k)) ∧ ∃ bm B newId initId, ExcBaseFacts B newId initId bm ∧ PySem.W.excIn X.K (c.ca k) bm newId = true
  | .dct es => ∃ p, X.mg x = some (.ref p) ∧ ∀ y z, es.lookup y = some z → ∃ v, KDct X.K X.w p ⟨y.toArray⟩ v ∧ ∀ ρ H, RZ c ρ H z v
  | .lam k => X.mg x = some (.ref (c.fa k)) ∧ PySem.W.keepIn X.K (.ref (c.fa k)) = true ∧ (cm = true → LamR X.prog X.w X.K X.mg X.base c r.lv (c.fa k) (r.lf k))
  | .rng => X.mg x = none
  | .exf k f => X.mg x = some (.ref (c.ca k)) ∧ PySem.W.keepIn X.K (.ref (c.ca k)) = true ∧ OexG X.K (c.ca k) ∧ PySem.W.findIn X.K (.ref (c.ca k)) f = some none ∧ XfC X.K (c.ca k) ∧
      ∃ fI, PySem.W.findIn X.K (.ref (c.ca k)) "__init__" = some (some (.ref fI)) ∧ PySem.W.typeIn X.K (.ref fI) = some (.type "function") ∧ FnR X.prog X.w X.K X.mg X.base (L2.CX X.prog X.w) 1 fI (spIni X.K (c.ca k) f)
structure XOk (T : Tb) (r : Rt) (s : Sx) (c : C) (X : Cx) (W : WX) : Prop where
  hK : c.K = X.K
  hu : X.A.units + 60 < cLine
  gd : X.A.guards = some []
  sc : X.env.scope = s.sc
  N : X.N = s.N
  nd : s.N.Nodup
  cm : s.cm = true → X.calm = true
  tk : Takes X W
  gl : ∀ (j : Nat) x g, T.gl[j]? = some (x, g) → GlOk r c s.cm X x g
  act : ∀ i, s.act = some i → ∀ a p1 p2, s.N[i]? = some a → Vis X.env.scope a → okN a = true → PE X (.Call (.Name a p1) [] [] p2) (tE c W (dAct i r.th))
  exs : ∀ i x k, s.xs = some i → r.x = some x → x.pay = none → x.cls = .own k → ExcC X.K (c.ca k) → CallR X (.builtin "isinstance") (rIsE X.K (c.ca k) c.dy.xa)
  exf : ∀ i x k n, s.xs = some i → r.x = some x → x.cls = .own k → XfC X.K (c.ca k) → PySem.W.findIn X.K (.ref (c.ca k)) n = some none → ∀ (e : Expr) (te : TE) (pos : Pos), PE X e te → attributeBase e n X.env (eval e X.env) = eval e X.env → PE X (.Attribute e n pos) (tXf c.dy.xa (.ref (c.ca k)) c.dy.xd (c.ca k) n te)
  xpay : ∀ i x, s.xs = some i → r.x = some x → c.dy.xp = x.pay
  room : s.cm = true → Room r.lv X.A
  lmk : s.lm = true → 2 ≤ r.lv ∧ ∃ cd P, X.env.code = .ref cd ∧ LamX.TabB X.base X.mg cd P ∧ (P, X.env.qual ++ "<lambda>") ∈ c.T ∧ ∀ p ∈ c.T, p.1 = P → p.2 = X.env.qual ++ "<lambda>"
  isI : X.mg "isinstance" = none
  sub : ∀ a b t, r.sub a b = some t → PySem.W.exmOne X.K (clsV c a) (clsV c b) = some t ∧ ∀ j, a = .own j → PySem.W.kitOne X.K (.ref (c.ca j)) (clsV c b) = some t ∧ ExcC X.K (c.ca j)
def Good (X : Cx) (c : C) (W : WX) : Syn → M → Prop
  | .e x, m => PE X x (tE c W m.e)
  | .t x, m => PT X x (tT c W m.t)
  | .w x, m => PW X x (tT c W m.t)
  | .a xs, m => PA X xs (tA c W m.a)
  | .i x, m => (∀ tg, tgB x tg = true → PI X tg x (tI c W m.i)) ∧ ∀ v, foldedSetIterable x X.env v = pure v
  | .o x, m => PO X x (tOI c W m.o)
  | .c xs, m => PTs X xs (tT c W m.t)
  | .d ks vs, m => ∀ pos, ∃ trs, PPs X pos ks vs trs ∧ ∀ σ H Q, (∃ ρ G l, Rel c ρ H G ∧ RL c ρ H l σ ∧ RQ c (fun ρ H (zs : List (Z × Z)) (vs : List (V × V)) => RZs c ρ H (zs.map (·.1)) (vs.map (·.1)) ∧ RZs c ρ H (zs.map (·.2)) (vs.map (·.2))) ρ H (m.p l G) Q (atW W σ)) → tPairs trs σ H Q
end Zy
end
section
set_option Elab.async false
set_option linter.all false
set_option maxRecDepth 100000
set_option maxHeartbeats 4000000
set_option autoImplicit false
namespace Zy
open PySem PySem.Spec PyProof.Rows L2 LamX
theorem extN_ext {ρ : List Addr} {H H1 : Hp} (e : ExtN H H1) : Ext ρ H ρ H1 := by
  refine ⟨List.prefix_refl _, fun a xs h => ?_, fun a o u h => ?_, fun a b q h => ?_⟩
  · rcases h with h | ⟨o, h⟩
    · exact .inl (e _ _ h fun _ z => nomatch z)
    · exact .inr ⟨o, e _ _ h fun _ z => nomatch z⟩
  · exact e _ _ h fun _ z => nomatch z
  · exact e _ _ h fun _ z => by unfold CodeO at z; cases z
theorem extN_rel {c : C} {ρ : List Addr} {H H1 : Hp} {G : GH} (e : ExtN H H1) (t : Tabs c.T H1) (R : Rel c ρ H G) : Rel c ρ H1 G := by
  have ex : Ext ρ H ρ H1 := extN_ext e
  refine ⟨R.nd, R.len, fun n a o h1 h2 => ?_, t, R.pay, c.dy.mono ex R.iv⟩
  have ro := R.ob n a o h1 h2
  obtain ⟨u, h3, _, _, h4, _⟩ := ro.trk
  have := e a u h3 h4
  rw [this, ← h3]
  exact ro.mono ex
/-- what holds while a lambda is handed down -/
def lamDy (c : C) (l : L) (σ : L2.St) (f c' : Addr) (q : Str) : Dy where
  xa := f
  inv := fun ρ H => RL c ρ H l σ ∧ H c' = some (CodeO c' q) ∧ c.dy.inv ρ H ∧ ∀ m, c.dy.xp = some m → ∃ b, ρ[m]? = some b ∧ c.dy.xd = some b
  mono := fun e h => ⟨h.1.mono e, e.st.code _ _ _ h.2.1, c.dy.mono e h.2.2.1, fun m hm => let ⟨b, h1, h2⟩ := h.2.2.2 m hm; ⟨b, pre_get e.pre h1, h2⟩⟩
section
variable {c : C} {l : L} {σ : L2.St} {f c' : Addr} {q : Str}
theorem lamDy_up {ρ : List Addr} {H : Hp} {G : GH} (R : Rel c ρ H G) (h : (lamDy c l σ f c' q).inv ρ H) : Rel (c.at_ (lamDy c l σ f c' q)) ρ H G := R.xa (fun m hm => nomatch hm) h
theorem lamDy_dn {ρ : List Addr} {H : Hp} {G : GH} (R : Rel (c.at_ (lamDy c l σ f c' q)) ρ H G) : Rel c ρ H G := by
  have q1 : Rel ((c.at_ (lamDy c l σ f c' q)).at_ c.dy) ρ H G := R.xa (fun m hm => R.iv.2.2.2 m hm) R.iv.2.2.1
  exact q1
theorem rz_back {D : Dy} {ρ : List Addr} {H : Hp} {z : Z} {v : V} (r : RZ (c.at_ D) ρ H z v) : RZ c ρ H z v := by
  have q1 : RZ ((c.at_ D).at_ c.dy) ρ H z v := r.xa
  exact q1
theorem rx_at {D : Dy} {ρ : List Addr} {x : XR} {cls : Value} {d : Option Addr} : RX (c.at_ D) ρ x cls d ↔ RX c ρ x cls d := by
  unfold RX
  rw [show clsV (c.at_ D) x.cls = clsV c x.cls by cases x.cls <;> rfl]
theorem rq_up {ρ : List Addr} {H : Hp} {r : Zy.R Z} {Q : VK} {E : QW} (hi : (lamDy c l σ f c' q).inv ρ H) (h : RQ (c.at_ (lamDy c l σ f c' q)) (RZ (c.at_ (lamDy c l σ f c' q))) ρ H r Q E) : RQ c (RZ c) ρ H r Q E := by
  cases r with
  | bad => exact h
  | ok z G => exact fun ρ' H' v e R rz => h ρ' H' v e (lamDy_up R ((lamDy c l σ f c' q).mono e hi)) rz.xa
  | exc x G => exact fun ρ' H' cl d e R rx => h ρ' H' cl d e (lamDy_up R ((lamDy c l σ f c' q).mono e hi)) (rx_at.mpr rx)
theorem rq_dn {ρ : List Addr} {H : Hp} {r : Zy.R Z} {Q : VK} {E : QW} (h : RQ c (RZ c) ρ H r Q E) : RQ (c.at_ (lamDy c l σ f c' q)) (RZ (c.at_ (lamDy c l σ f c' q))) ρ H r Q E := by
  cases r with
  | bad => exact h
  | ok z G => exact fun ρ' H' v e R rz => h ρ' H' v e (lamDy_dn R) (rz_back rz)
  | exc x G => exact fun ρ' H' cl d e R rx => h ρ' H' cl d e (lamDy_dn R) (rx_at.mp rx)
end
section
variable {X : Cx} {c : C} {W : WX}
theorem se_act {k i : Nat} {g : Addr} {db : DE} {pins : List (Addr × Obj)} {σ : L2.St} {H : Hp} {s : Shared} {f c' : Addr} {pm ctv : Value} {params : Arguments} {body : Expr} {scope : Scope} {l : L}
    (hr : Room (k + 2) X.A) (L : LamS X.env.scope scope) (I : Inv X pins σ H s)
    (hf : s.heap.get? f = some (PySem.W.kla_obj "<lambda>" (X.env.qual ++ "<lambda>") params body scope (cloFrom X.env.cells scope.names []) pm c' ctv)) (hfn : H f = none) (hfr : f ∉ frs X.stack)
    (hbind : bindArgs (PySem.W.kla_fn "<lambda>" (X.env.qual ++ "<lambda>") params body scope (cloFrom X.env.cells scope.names []) pm (.ref c') ctv) ⟨[], []⟩ = pure [])
    (hbody : ∀ (A : Around) (outer : List Env) (s : Shared) (H : Hp) (E : XK), Room k (A.deeper (lamEnv X scope s.heap.objs.size f c')) → PE (lamCx X A outer s H E scope f c') body (tE c (fun cls d _ H => E cls d H) db))
    {N : List Str} {qg : Str} {sg : Scope} {cdg : Value} {Eg : XK} {W' : WX} {pn : List (Addr × Obj)} {xe : Value → Shared → Prop} {a : Str} {p1 p2 : Pos} (hN : N[i]? = some a) (hv : Vis sg a) (hn : (a == ("__debug__" : Str)) = false) (hcd : (a == ("__classdict__" : Str)) = false)
    (tk : Takes ((cxOf (L2.CX X.prog X.w) X.prog X.w X.K X.mg X.base N qg sg g cdg X.A X.stack s H Eg).tr pn xe) W') :
    PE ((cxOf (L2.CX X.prog X.w) X.prog X.w X.K X.mg X.base N qg sg g cdg X.A X.stack s H Eg).tr pn xe) (.Call (.Name a p1) [] [] p2) (tE (c.at_ (lamDy c l σ f c' (X.env.qual ++ "<lambda>"))) W' (dAct i fun G => db l G)) := by
  refine ⟨fun pinsZ sZ σZ HZ Q IZ ⟨ρZ, GZ, lZ, RZ', hlZ, qZ⟩ => ?_⟩
  unfold dAct at qZ
  split at qZ
  case h_2 => exact qZ.elim
  rename_i hli
  obtain ⟨v0, hs0, hv0⟩ := hlZ.at_ _ _ hli
  have hv1 := hv0.resolve_left fun h => by unfold RZ at h; exact h
  obtain ⟨_, rfl⟩ := hv1
  have hs : σZ[i]? = some (some (.ref f)) := hs0
  have hc : HZ c' = some (CodeO c' (X.env.qual ++ "<lambda>")) := RZ'.iv.2.1
  refine wpAny_Call_Name_kw (thn ((pe_var (pos := p1) (i := i) hN hv hn hcd).run pinsZ sZ σZ HZ (fun v H1 => v = .ref f ∧ H1 = HZ) IZ ⟨.ref f, hs, rfl, rfl⟩) fun u s1 ⟨v, H1, I1, r1, q1⟩ => ?_)
  obtain ⟨ev, eH⟩ := q1
  subst ev
  rw [eH] at I1
  obtain rfl : u = Value.ref f := r1
  have of1 : s1.heap.get? f = some (PySem.W.kla_obj "<lambda>" (X.env.qual ++ "<lambda>") params body scope (cloFrom X.env.cells scope.names []) pm c' ctv) := I1.base.keep f _ hf hfn hfr (fun z => nomatch (show f ∈ ([] : List Addr) from z))
  refine PySem.W.callWith_F0 ⟨_, _, _, _, of1⟩ ?_
  have un : Un (frs X.stack) [] H HZ s.heap s1.heap := I1.base
  obtain ⟨⟨oc, vs, t, hoc, hdc, hvc⟩, _, _⟩ := I1.hok c' _ hc
  have hr2 : Room (k + 1) (X.A.deeper (envOfC qg sg s.heap.objs.size g cdg)) := hr.deeper _
  have rc : codeAny (model X.prog X.w) (X.A.deeper (envOfC qg sg s.heap.objs.size g cdg)) (.call (.ref f) ⟨[], []⟩) (CR (L2.CX X.prog X.w) (envOfC qg sg s.heap.objs.size g cdg :: X.stack) X.prog X.w HZ s1 Q (atW W' σZ)) s1 := by
    refine PySem.W.kla_callFunE hr2.depth of1 rfl L.co L.gen rfl ⟨c', oc, vs, t, rfl, hoc, hdc, hvc⟩ ?_
    rw [hbind]
    refine wpAny_pure (wpAny_newFunctionEnv (fun y hy => (L.own y hy).2) (fun y hy => absurd hy (by simp)) (fun h₁ hns hsb => ⟨I1.nolimit.fresh _ hsb, ?_⟩) L.kind)
    show codeAny _ _ (.expr body (lamEnv X scope s1.heap.objs.size f c')) _ _
    have kp : ∀ b o, s1.heap.get? b = some o → h₁.get? b = some o := fun b o e => hsb.extBut b o (Nat.ne_of_lt (Heap.lt_size e)) (Heap.get?_push_of_some _ e)
    have J : Inv (lamCx X (X.A.deeper (envOfC qg sg s.heap.objs.size g cdg)) (envOfC qg sg s.heap.objs.size g cdg :: X.stack) s1 HZ (atW W' σZ) scope f c') [] σ HZ { s1 with heap := h₁, toks := s1.toks + ([] : List (Str × Value)).length } :=
      lam_start2 I L I1.env0 hr2.hd un hns kp
    have ht : tE c (fun cls d _ H => atW W' σZ cls d H) db σ HZ Q := ⟨ρZ, GZ, l, lamDy_dn RZ', RZ'.iv.1, rq_up RZ'.iv qZ⟩
    refine PySem.W.kla_codeExpr (wpAny_mono ((hbody _ _ s1 HZ (atW W' σZ) (hr2.deeper _)).run [] _ _ HZ Q J ht) (fun v s' hq => ?_) fun e s' hq => hq)
    obtain ⟨w', H', J', rv, q⟩ := hq
    exact ⟨w', H', J'.os, J'.bare, J'.base, J'.hok, rv, q⟩
  refine wpAny_call (codeAny_mono rc fun r s' hq => ?_)
  cases r with
  | error e => exact passAt tk σZ pinsZ HZ s1 e s' I1 hq
  | ok fl =>
    cases fl with
    | ret u => exact I1.after hq
    | next => exact False.elim hq
    | brk => exact False.elim hq
    | cont => exact False.elim hq
theorem se_lam {k : Nat} {g cc P : Addr} {x : Str} {lf : (GH → R Z) → GH → R Z} {db : DE} {params : Arguments} {body : Expr} {scope : Scope} {p lpos pos : Pos} (F : LamR X.prog X.w X.K X.mg X.base c (k + 2) g lf) (hr : Room (k + 2) X.A) (tk : Takes X W) (hg : Gl X x) (hm : X.mg x = some (.ref g)) (hk : PySem.W.keepIn X.K (.ref g) = true)
    (TB : TabB X.base X.mg cc P) (hcode : X.env.code = .ref cc) (hmT : (P, X.env.qual ++ "<lambda>") ∈ c.T) (hu : ∀ p ∈ c.T, p.1 = P → p.2 = X.env.qual ++ "<lambda>") (L : LamS X.env.scope scope) (hdef : defaultsOf params X.env = ([], []))
    (hbind : ∀ (q : Str) (cl : List (Str × Addr)) (pm cv ctv : Value), bindArgs (PySem.W.kla_fn "<lambda>" q params body scope cl pm cv ctv) ⟨[], []⟩ = pure [])
    (hbody : ∀ (A : Around) (outer : List Env) (s : Shared) (H : Hp) (E : XK) (f c' : Addr), Room k (A.deeper (lamEnv X scope s.heap.objs.size f c')) → PE (lamCx X A outer s H E scope f c') body (tE c (fun cls d _ H => E cls d H) db))
    (hdb : (x == ("__debug__" : Str)) = false) : PE X (.Call (.Name x p) [.Lambda params body scope lpos] [] pos) (tE c W fun l G => lf (fun G' => db l G') G) := by
  refine ⟨fun pins s σ H Q I ⟨ρ, G, l, R, hl, q⟩ => ?_⟩
  refine wpAny_Call_Name_kw (ld_glob I hg hm ?_ hdb)
  refine PySem.W.callWith_K (h₀ := X.base) I.ok.mod.kin hk ?_ (by rfl) (by rfl)
  show wpAny _ _ (spliced ((false, eval (.Lambda params body scope lpos) X.env) :: backTo pos (starEach [] X.env))) _ _ s
  refine Calls.spliced_cons (lam_make2 I TB hcode hmT hu R.tabs hdef (L.has I.ok) fun f c' pm' ctv H1 s' I1 eN T1 hf hfn hfr hco => ?_)
  refine Calls.spliced_nil ⟨I1.kIn, ?_⟩
  have e1 : Ext ρ H ρ H1 := extN_ext eN
  have R1 : Rel c ρ H1 G := extN_rel eN T1 R
  have hi : (lamDy c l σ f c' (X.env.qual ++ "<lambda>")).inv ρ H1 := ⟨hl.mono e1, hco, R1.iv, R1.pay⟩
  replace q : RQ c (RZ c) ρ H (lf (fun G' => db l G') G) Q (atW W σ) := q
  have q1 : RQ c (RZ c) ρ H1 (lf (fun G' => db l G') G) Q (atW W σ) := by
    cases hr2 : lf (fun G' => db l G') G with
    | bad => rw [hr2] at q; exact q
    | ok z G' => rw [hr2] at q; exact fun ρ' H' v e => q ρ' H' v (e1.trans e)
    | exc x G' => rw [hr2] at q; exact fun ρ' H' cl d e => q ρ' H' cl d (e1.trans e)
  have rc := F (lamDy c l σ f c' (X.env.qual ++ "<lambda>")) X.A X.stack s' H1 f (fun G' => db l G') ρ G Q (atW W σ) hr I1.env0 rfl (lamDy_up R1 hi)
    (fun N qg sg cdg Eg W' pn xe a i p1 p2 hN hv hn tk' => by
      have hn1 : (a == ("__debug__" : Str)) = false := by unfold okN at hn; rw [Bool.and_eq_true] at hn; simpa using hn.1
      have hn2 : (a == ("__classdict__" : Str)) = false := by unfold okN at hn; rw [Bool.and_eq_true, Bool.and_eq_true] at hn; simpa using hn.2.1
      exact se_act hr L I1 hf hfn hfr (hbind _ _ _ _ _) (fun A outer s H E hr3 => hbody A outer s H E f c' hr3) hN hv hn1 hn2 tk') (rq_dn q1)
  refine wpAny_call (codeAny_mono rc fun r s2 hq => ?_)
  cases r with
  | error e => exact passAt tk σ pins H1 s' e s2 I1 hq
  | ok fl =>
    cases fl with
    | ret u => exact I1.after hq
    | next => exact False.elim hq
    | brk => exact False.elim hq
    | cont => exact False.elim hq
end
end Zy
end
section
set_option Elab.async false
set_option linter.all false
set_option maxRecDepth 100000
set_option maxHeartbeats 4000000
set_option autoImplicit false
namespace Zy
open PySem PySem.Spec PyProof.Rows L2

theorem ba {a b : Bool} (h : (a && b) = true) : a = true ∧ b = true := Bool.and_eq_true_iff.mp h
theorem okN_d {x : Str} (h : okN x = true) : (x == ("__debug__" : Str)) = false := by
  unfold okN at h; obtain ⟨h1, _⟩ := ba h; simpa using h1
theorem okN_c {x : Str} (h : okN x = true) : (x == ("__classdict__" : Str)) = false := by
  unfold okN at h; obtain ⟨_, h2⟩ := ba h; obtain ⟨h1, _⟩ := ba h2; simpa using h1
theorem okN_n {x : Str} (h : okN x = true) : x ≠ ("__name__" : Str) := by
  unfold okN at h; obtain ⟨_, h2⟩ := ba h; obtain ⟨_, h1⟩ := ba h2
  intro e; rw [e] at h1; simp at h1
theorem plainT_ok {x : Expr} (h : plainT x = true) (env : Env) : ∀ whole, isTrue x env whole = (do let v ← whole; standAt x.pos; holding [v] (truthy v)) := by
  intro whole
  unfold plainT at h
  split at h <;> try cases h
  cases x with
  | UnaryOp op a p =>
    cases op with
    | Not => rename_i h1 _ _ _; exact absurd rfl (h1 a p)
    | _ => rfl
  | BoolOp op a p => rename_i h1 _ _; exact absurd rfl (h1 op a p)
  | IfExp a b d p => rename_i h1 _; exact absurd rfl (h1 a b d p)
  | Compare a b d p => rename_i h1; exact absurd rfl (h1 a b d p)
  | _ => rfl
theorem notSet_ok {x : Expr} (h : notSet x = true) (env : Env) : ∀ v, foldedSetIterable x env v = pure v := by
  intro v
  cases x with
  | Set a b d => cases h
  | _ => rfl
theorem notStar_ok {x : Expr} (h : notStar x = true) : ∀ a p, x ≠ .Starred a p := by
  intro a p e; subst e; cases h
theorem notSlice_ok {x : Expr} (h : notSlice x = true) : PlainIx x := by
  intro o i
  cases x with
  | Slice a b d e => cases h
  | Tuple a b d => cases h
  | _ => rfl
theorem all_star {es : List Expr} (h : es.all notStar = true) : ∀ e ∈ es, ∀ a p, e ≠ .Starred a p := fun e he => notStar_ok (List.all_eq_true.mp h e he)
theorem notCall_ok {o : Expr} (h : notCall o = true) (name : Str) (env : Env) (w : Sem Value) : attributeBase o name env w = w := by
  cases o with
  | Call a b d e => cases h
  | _ => rfl
section
variable {T : Tb} {r : Rt} {s : Sx} {X : Cx} {c : C} {W : WX}
theorem visB_ok {n : Str} (h : visB s n = true) (e : X.env.scope = s.sc) : Vis X.env.scope n := by
  unfold visB at h
  rw [e]
  split at h
  · rename_i q; exact .inl q
  · rename_i q; exact .inr (.inl q)
  · rename_i q; exact .inr (.inr q)
  · cases h
theorem glB_ok {x : Str} (h : glB s x = true) (e : X.env.scope = s.sc) : Gl X x := by
  show X.env.scope.names.lookup x = _
  rw [e]; exact of_decide_eq_true h
theorem gen_ok (hK : c.K = X.K) {core : Expr → Bool} {d : DE} {y : Syn} (h : gen core y = true) (k : ∀ x, core x = true → PE X x (tE c W d)) : Good X c W y { e := d } := by
  cases y with
  | e x => exact k x h
  | t x =>
    obtain ⟨h1, h2⟩ := ba h
    exact st_tru hK (k x h1) (plainT_ok h2 _)
  | i x =>
    obtain ⟨h1, h2⟩ := ba h
    exact ⟨fun tg _ => si_iter hK (k x h1), notSet_ok h2 _⟩
  | o x =>
    cases x with
    | none => cases h
    | some x => exact so_some (k x h)
  | c xs =>
    match xs, h with
    | [x], h =>
      obtain ⟨h1, h2⟩ := ba h
      exact pts_one (st_tru hK (k x h1) (plainT_ok h2 _))
    | [], h => cases h
    | _ :: _ :: _, h => cases h
  | w x => cases h
  | a xs => cases h
  | d a b => cases h
theorem XOk.blk (ok : XOk T r s c X W) (s1 : Shared) (H : Hp) (scope : Scope) (cl : List (Str × Addr)) (C : Addr) (fp : List Addr) : XOk T r (s.blk scope) c (X.blk s1 H scope (compEnvC scope cl C X.env) fp) W0 where
  hK := ok.hK
  hu := ok.hu
  gd := ok.gd
  sc := by rw [show (s.blk scope).sc = relS scope s.sc from rfl, ← ok.sc]; rfl
  N := ok.N
  nd := ok.nd
  cm := ok.cm
  tk := LamX.takes0
  gl := fun j x g h => by
    have q := ok.gl j x g h
    cases g <;> exact q
  act := fun i h => by cases h
  room := ok.room
  lmk := ok.lmk
  exs := fun i x D h => by cases h
  exf := fun i x k n h => by cases h
  xpay := fun i x h => by cases h
  isI := ok.isI
  sub := ok.sub
theorem ownC_ok {N : List Str} : ∀ {l : List Nat} {ow : List (Str × Nat)}, ownC N l = some ow → ow.map (·.2) = l
  | [], ow, h => by cases h; rfl
  | i :: r, ow, h => by
    unfold ownC at h
    split at h
    · rename_i x l e1 e2
      cases h
      rw [List.map_cons, ownC_ok e2]
    · cases h
theorem pats_len {fnc : Str → Bool} {sc : Scope} {N : List Str} (env : Env) : ∀ {ps : Pats} {es : List Expr}, patsC sc N fnc ps es = true → (assignEach es env).length = ps.len ∧ (assignEach es env).findIdx? (·.1) = none
  | .nil, [], h => ⟨rfl, rfl⟩
  | .nil, _ :: _, h => by unfold patsC at h; cases h
  | .cons p ps, [], h => by unfold patsC at h; cases h
  | .cons p ps, e :: es, h => by
    unfold patsC at h
    obtain ⟨h1, h2⟩ := ba h
    obtain ⟨_, h3⟩ := ba h2
    obtain ⟨h4, h5⟩ := pats_len env h3
    have he : assignEach (e :: es) env = (false, assign e env) :: assignEach es env := by
      cases e with
      | Starred a p => cases h1
      | _ => rfl
    rw [he]
    refine ⟨by rw [List.length_cons, h4]; rfl, ?_⟩
    rw [List.findIdx?_cons]
    simp [h5]
mutual
theorem patC_ok {fnc : Str → Bool} (hc : X.calm = true) (nd : X.N.Nodup) (hf : ∀ x, fnc x = true → X.fn x = true) : ∀ {p : Pat} {e : Expr}, patC X.env.scope X.N fnc p e = true → PG X e (patG X.K p)
  | .nm i, e, h => by
    cases e with
    | Name x pos =>
      unfold patC at h
      obtain ⟨h1, h2⟩ := ba h
      unfold patG
      split at h2
      · rename_i q; exact pg_name nd (of_decide_eq_true h1) (.inl q) (.inr q)
      · rename_i q; exact pg_name nd (of_decide_eq_true h1) (.inr q) (.inl (hf _ h2))
      · cases h2
    | _ => unfold patC at h; cases h
  | .tp ps, e, h => by
    cases e with
    | Tuple es k pos =>
      unfold patC at h
      obtain ⟨h3, h4⟩ := pats_len X.env h
      unfold patG
      have hp := patsC_ok hc nd hf h
      exact (pg_tup hc hp h3 h4).or (pg_unl hc hp h3 h4)
    | _ => unfold patC at h; cases h
theorem patsC_ok {fnc : Str → Bool} (hc : X.calm = true) (nd : X.N.Nodup) (hf : ∀ x, fnc x = true → X.fn x = true) : ∀ {ps : Pats} {es : List Expr}, patsC X.env.scope X.N fnc ps es = true → PGs X es (patGs X.K ps)
  | .nil, [], h => by unfold patGs; exact pgs_nil
  | .nil, _ :: _, h => by unfold patsC at h; cases h
  | .cons p ps, [], h => by unfold patsC at h; cases h
  | .cons p ps, e :: es, h => by
    unfold patsC at h
    obtain ⟨h1, h2⟩ := ba h
    obtain ⟨h3, h4⟩ := ba h2
    unfold patGs
    refine pgs_cons (patC_ok hc nd hf h3) (patsC_ok hc nd hf h4) ?_
    cases e with
    | Starred a p => cases h1
    | _ => rfl
end
end
end Zy
end
section
set_option Elab.async false
set_option linter.all false
set_option maxRecDepth 100000
set_option maxHeartbeats 4000000
set_option autoImplicit false
namespace Zy
open PySem PySem.Spec PyProof.Rows L2
section
variable {T : Tb} {r : Rt} {X : Cx} {c : C} {W : WX}
theorem _root_.L2.PTs.weak {es : List Expr} {t t' : TT} (h : PTs X es t) (w : ∀ σ H Q, t' σ H Q → t σ H Q) : PTs X es t' := ⟨fun pins s σ H Q I q => h.run pins s σ H Q I (w σ H Q q)⟩
theorem badF {P : Program} {w : World} {K : PySem.W.Frag} {mg : Str → Option Value} {base : Heap} {CX : CXT} {d : Nat} {f : Addr} : FnR P w K mg base CX d f (spR c fun _ _ => .bad) := fun A outer s H us vs Q E _ _ _ ⟨ρ, G, zs, _, _, q⟩ => q.elim
theorem badL {P : Program} {w : World} {K : PySem.W.Frag} {mg : Str → Option Value} {base : Heap} {d : Nat} {f : Addr} : LamR P w K mg base c d f (fun _ _ => .bad) := fun D A outer s H f th ρ G Q E _ _ _ _ _ q => q.elim
theorem nil_args {a : E} {s : Sx} {xs : Option Nat} (h : chk T a s (.a []) = true) : (ev T a r xs).a = dNil := by
  cases a <;> first | rfl | (unfold chk at h; first | cases h | (simp [gen] at h))
theorem bnOk (hK : c.K = X.K) (hu : X.A.units + 60 < cLine) (hgd : X.A.guards = some []) (b : Bn) (hc : bnCalm b = true → X.calm = true) : CallR X (.builtin (bnId b)) (rzs c (bnZ b)) := by
  cases b with
  | len => exact callz_len hK
  | abs => exact callz_abs
  | all => exact callz_all hK (hc rfl)
  | any => exact callz_any hK (hc rfl)
  | sum => exact callz_sum hK (hc rfl)
  | max => exact callz_max2 (hc rfl)
  | min => exact callz_min2 (hc rfl)
  | isi => exact callz_isi hK
  | repr => exact callz_repr hK hu hgd
theorem badR {g : List Z → GH → Zy.R Z} (hg : ∀ zs G, g zs G = .bad) {u : Value} : CallR X u (rzs c g) := by
  intro pins s σ H xs us Q I r h
  obtain ⟨W, ρ, G, zs, R, hz, q⟩ := h
  rw [hg] at q
  exact q.elim
theorem tyOk (hK : c.K = X.K) (n : String) : CallR X (.type n) (rzs c (tyZ n)) := by
  unfold tyZ
  split
  · rename_i h; subst h; exact callz_int
  · split
    · rename_i h; subst h; exact callz_bool
    · split
      · rename_i h; subst h; exact callz_tuple hK
      · split
        · rename_i h; subst h; exact callz_list hK
        · exact badR fun _ _ => rfl
theorem mnOk (hK : c.K = X.K) (hu : X.A.units + 60 < cLine) (m : Mn) : ∀ t ∈ mnT m, MthOk X c t (mnN m) (mnZ m t) := by
  cases m with
  | append => exact ok_append
  | extend => exact ok_extend
  | pop => exact ok_pop
  | index => exact ok_index hK hu
theorem few_ok (env : Env) (cpos : Pos) : ∀ {es : List Expr}, es.all notStar = true → (backTo cpos (starEach es env)).all (fun x => !x.1) = true
  | [], _ => rfl
  | e :: es, h => by
    rw [List.all_cons] at h
    obtain ⟨h1, h2⟩ := ba h
    rw [starEach_plain env (notStar_ok h1)]
    have := few_ok env cpos (es := es) h2
    simpa [backTo] using this
theorem se_wix (hK : c.K = X.K) {n : Str} {p pos : Pos} {e : Expr} {es : List (List Nat × Z)} {d : DE} (hg : Gl X n) (hd : (n == ("__debug__" : Str)) = false) {a : Addr} (hm : X.mg n = some (.ref a)) (hv : ∀ y z, es.lookup y = some z → ∃ v, KDct X.K X.w a ⟨y.toArray⟩ v ∧ ∀ ρ H, RZ c ρ H z v) (he : PE X e (tE c W d)) (hs : PlainIx e) :
    PE X (.Subscript (.Name n p) e pos) (tE c W (dWix es d)) :=
  (pe_ix ix_kdict (pe_glob (v := .ref a) hg hm rfl hd) he hs).weak fun σ H Q ⟨ρ, G, l, R, hl, q⟩ => tE.bind R hl q fun ρ1 H1 G1 x v e1 R1 l1 r1 q1 => by
    cases x <;> (try exact q1.elim)
    rename_i y
    obtain ⟨_, rfl⟩ := un_str r1
    have q2 : RQ c (RZ c) ρ1 H1 (match es.lookup y with | some z => .ok z G1 | none => .bad) Q (atW W σ) := q1
    cases hl : es.lookup y with
    | none => rw [hl] at q2; exact q2.elim
    | some z =>
      rw [hl] at q2
      obtain ⟨w, k1, k2⟩ := hv y z hl
      exact ⟨a, _, w, rfl, rfl, k1, RQ.here (show RQ c (RZ c) ρ1 H1 (.ok z G1) Q (atW W σ) from q2) R1 (k2 _ _)⟩
theorem se_dnew {pos : Pos} : PE X (.Dict [] [] pos) (tE c W dNewD) := pe_dnewK.weak fun σ H Q ⟨ρ, G, l, R, hl, q⟩ => fun p hp => by
  obtain ⟨R1, e1⟩ := R.new (z := .dK [] []) (o := .dK []) hp ⟨[], rfl, .nil, rfl⟩
  exact (show RQ c (RZ c) ρ H (.ok (.ref G.length) (G ++ [.dK [] []])) Q (atW W σ) from q) _ _ _ e1 R1 (rz_ref (by rw [← R.len]; exact get_new ρ p))
theorem se_isE {sx : Sx} (ok : XOk T r sx c X W) {f n k : Str} {p1 p2 p3 pos : Pos} {i : Nat} {kk : XC} {v0 : V} (hi : sx.xs = some i) (hf : f = ("isinstance" : Str)) (hgf : Gl X f) (hN : sx.N[i]? = some n) (hv : Vis X.env.scope n) (hn : okN n = true) (hk : PE X (.Name k p3) (fun _ H Q => Q v0 H)) (hv0 : ∀ u, RelV v0 u → u = clsV c kk) :
    PE X (.Call (.Name f p1) [.Name n p2, .Name k p3] [] pos) (tE c W (dIsE r.sub r.x kk i)) := by
  subst hf
  refine ⟨fun pins s σ H Q I ⟨ρ, G, l, R, hl, q⟩ => ?_⟩
  unfold dIsE at q
  split at q
  · rename_i x hx hli
    split at q
    · rename_i j b hp hj hs
      obtain ⟨v, h1, h2⟩ := hl.at_ _ _ hli
      have h3 := h2.resolve_left fun h => by unfold RZ at h; exact h
      obtain ⟨_, rfl⟩ := h3
      obtain ⟨hsub, hE⟩ := (ok.sub _ _ _ hs).2 j hj
      have rule := ok.exs i x j hi hx hp hj hE
      refine (pe_callB (t := tCons (tVar i) (tCons (fun _ H Q => Q v0 H) tNil)) rule hgf ok.isI PyProof.Rows.boot_isinstance (pa_cons (pe_var (by rw [ok.N]; exact hN) hv (okN_d hn) (okN_c hn)) (pa_cons hk pa_nil))).run pins s σ H Q I ?_
      exact ⟨_, h1, v0, clsV c kk, b, rfl, hv0, hsub, q.here R rz_bl⟩
    · exact q.elim
  · exact q.elim
theorem kept_at {k : Nat} {n : Str} (h : (k, n) ∈ T.kept) : ∃ (j : Nat) (x : Str), T.gl[j]? = some (x, .exf k n) := by
  unfold Tb.kept at h
  obtain ⟨q, hq, e⟩ := List.mem_filterMap.mp h
  obtain ⟨x, g⟩ := q
  cases g with
  | exf k' f =>
    cases e
    obtain ⟨j, hj⟩ := List.mem_iff_getElem?.mp hq
    exact ⟨j, x, hj⟩
  | _ => cases e
theorem se_fld {sx : Sx} (ok : XOk T r sx c X W) {n g : Str} {p1 pos : Pos} {i : Nat} (hi : sx.xs = some i) (hN : sx.N[i]? = some n) (hv : Vis X.env.scope n) (hn : okN n = true) : PE X (.Attribute (.Name n p1) g pos) (tE c W (dFld r.x T.kept g i)) := by
  refine ⟨fun pins s σ H Q I ⟨ρ, G, l, R, hl, q⟩ => ?_⟩
  unfold dFld at q
  split at q
  · rename_i x hx hli
    split at q
    · rename_i m k hp hk
      split at q
      · rename_i fs hG
        split at q
        · rename_i z hz
          split at q
          · rename_i hm
            obtain ⟨v, h1, h2⟩ := hl.at_ _ _ hli
            have h3 := h2.resolve_left fun h => by unfold RZ at h; exact h
            obtain ⟨_, rfl⟩ := h3
            obtain ⟨j, y, hj⟩ := kept_at hm
            obtain ⟨_, _, _, f4, f5, _⟩ := ok.gl _ _ _ hj
            obtain ⟨b, r1, r2⟩ := R.pay m ((ok.xpay i x hi hx).trans hp)
            obtain ⟨vs, e1, e2⟩ := R.ob m b _ r1 hG
            obtain ⟨v, e3, e4⟩ := xd_look e2 hz
            refine (ok.exf i x k g hi hx hk f5 f4 _ _ pos (pe_var (by rw [ok.N]; exact hN) hv (okN_d hn) (okN_c hn)) rfl).run pins s σ H Q I ?_
            exact ⟨_, h1, rfl, rfl, b, _, v, r2, e1, e3, q.here R e4⟩
          · exact q.elim
        · exact q.elim
      · exact q.elim
    · exact q.elim
  · exact q.elim
theorem rz_pairs {ρ : List Addr} {H : Hp} : ∀ {ps : List (Z × Z)} {ks ks' : List Key} {zs zs' : List Z} {vs : List V} {qs : List (V × V)}, mkKZ ps ks zs = some (ks', zs') → RZs c ρ H (ps.map (·.1)) (qs.map (·.1)) → RZs c ρ H (ps.map (·.2)) (qs.map (·.2)) → RZs c ρ H zs vs → ks.length = zs.length →
    ∃ (kvs : List (Key × V)), qs = kvs.map (fun kv => (kV kv.1, kv.2)) ∧ kvs.length = ps.length ∧ ∃ vs', mergeK (ks.zip vs) kvs = ks'.zip vs' ∧ RZs c ρ H zs' vs' ∧ ks'.length = zs'.length
  | [], ks, ks', zs, zs', vs, qs, h, h1, h2, hv, hl => by
    unfold mkKZ at h; cases h
    have := h1.nil_
    cases qs with
    | cons _ _ => cases this
    | nil => exact ⟨[], rfl, rfl, vs, rfl, hv, hl⟩
  | (k, z) :: r, ks, ks', zs, zs', vs, qs, h, h1, h2, hv, hl => by
    unfold mkKZ at h
    split at h
    · rename_i key hk
      cases qs with
      | nil => have := h1.length; cases this
      | cons q qs =>
        rw [List.map_cons, List.map_cons] at h1 h2
        unfold RZs at h1 h2
        obtain ⟨v1, r1, e1, g1, g2⟩ := h1
        obtain ⟨v2, r2, e2, g3, g4⟩ := h2
        cases e1; cases e2
        have hq1 : q.1 = kV key := by
          cases k with
          | int i => cases hk; exact un_int g1
          | str x => cases hk; obtain ⟨_, e⟩ := un_str g1; exact e
          | _ => cases hk
        have hlen : ks.length = vs.length := hl.trans hv.length
        split at h
        · cases h
        rename_i hnot
        have hno : key ∉ ks := fun z => hnot (List.any_eq_true.mpr ⟨key, z, decide_eq_true rfl⟩)
        have vno : ∀ (ks : List Key) (vs : List V), key ∉ ks → valV (ks.zip vs) key = none := by
          intro ks
          induction ks with
          | nil => intro vs _; rfl
          | cons a t ih =>
            intro vs hn
            cases vs with
            | nil => rfl
            | cons v vs =>
              rw [List.zip_cons_cons, valV_neg (fun e => hn (by rw [← show a = key from e]; exact List.mem_cons_self))]
              exact ih vs fun z => hn (List.mem_cons_of_mem _ z)
        have s1 : putK (ks.zip vs) key q.2 = (ks ++ [key]).zip (vs ++ [q.2]) := by
          rw [putK_new _ (vno ks vs hno), List.zip_append hlen]; rfl
        obtain ⟨kvs, e3, e4, vs', e5, e6, e7⟩ := rz_pairs (vs := vs ++ [q.2]) h g2 g4 (hv.append (.cons g3 .nil)) (by simp [hl])
        refine ⟨(key, q.2) :: kvs, ?_, by rw [List.length_cons, List.length_cons, e4], vs', ?_, e6, e7⟩
        · rw [List.map_cons, e3]
          show q :: _ = (kV key, q.2) :: _
          rw [← hq1]
        · show mergeK (putK (ks.zip vs) key q.2) kvs = _
          rw [s1]; exact e5
    · cases h

theorem GlOk.low {r : Rt} {c : C} {X : Cx} {x : Str} {g : GK} {k : Nat} (h : GlOk r c true X x g) (hk : r.lv = k + 2) (A : Around) (outer : List Env) (s : Shared) (H : Hp) (E : XK) (scope : Scope) (f c' : Addr) : GlOk r.lower c true (LamX.lamCx X A outer s H E scope f c') x g := by
  have hl : r.lower.lv = k := by show r.lv - 2 = k; omega
  cases g with
  | fn j => exact ⟨h.1, h.2.1, fun _ => ⟨by rw [hl]; exact (h.2.2 rfl).2 k hk, fun d hd => badF⟩⟩
  | lam j => exact ⟨h.1, h.2.1, fun _ => badL⟩
  | _ => exact h
theorem chk_ok : ∀ (e : E) {r : Rt} {s : Sx} {X : Cx} {c : C} {W : WX} {y : Syn}, XOk T r s c X W → chk T e s y = true → Good X c W y (ev T e r s.xs)
  | .var i, r, s, X, c, W, y, ok, h => gen_ok ok.hK h fun x h => by
    split at h
    · rename_i n p
      obtain ⟨h1, h2⟩ := ba h
      obtain ⟨h3, h4⟩ := ba h2
      exact se_var (by rw [ok.N]; exact of_decide_eq_true h1) (visB_ok h3 ok.sc) (okN_d h4) (okN_c h4)
    · cases h
  | .cst z, r, s, X, c, W, y, ok, h => gen_ok ok.hK h fun x h => by
    split at h
    · rename_i i _ _ j
      obtain rfl := of_decide_eq_true h
      exact se_int
    · rename_i i _ _ j
      obtain rfl := of_decide_eq_true h
      exact se_bl
    · exact se_non
    · obtain ⟨h1, h2⟩ := ba h
      obtain rfl := of_decide_eq_true h1
      have h3 := of_decide_eq_true h2
      refine se_str ?_
      show Array.size _ ≤ sizeLine
      rw [Array.length_toList] at h3
      rw [sizeLine_eq]; omega
    · cases h
  | .glb j, r, s, X, c, W, y, ok, h => gen_ok ok.hK h fun x h => by
    split at h
    · rename_i n p
      split at h
      · rename_i n' z hg
        obtain ⟨h1, h2⟩ := ba h
        obtain ⟨h3, h4⟩ := ba h2
        obtain rfl := of_decide_eq_true h1
        obtain ⟨u, v, g1, g2, g3⟩ := ok.gl _ _ _ hg
        try simp only [hg]
        exact se_glob (glB_ok h3 ok.sc) g1 g2 g3 (okN_d h4)
      · rename_i n' z hg
        obtain ⟨h1, h2⟩ := ba h
        obtain ⟨h3, h4⟩ := ba h2
        obtain rfl := of_decide_eq_true h1
        obtain ⟨g1, g2⟩ := ok.gl _ _ _ hg
        try simp only [hg]
        exact se_ty (glB_ok h3 ok.sc) g1 g2 (okN_n h4) (okN_d h4)
      · cases h
    · cases h
  | .bin op a b, r, s, X, c, W, y, ok, h => gen_ok ok.hK h fun x h => by
    split at h
    · obtain ⟨h1, h2⟩ := ba h
      obtain ⟨h3, h4⟩ := ba h2
      obtain rfl := of_decide_eq_true h1
      exact se_bin ok.hK (chk_ok a ok h3) (chk_ok b ok h4)
    · cases h
  | .cmp op a b, r, s, X, c, W, y, ok, h => by
    unfold chk at h
    split at h
    · obtain ⟨h1, h2⟩ := ba h
      obtain ⟨h3, h4⟩ := ba h2
      obtain ⟨h5, h6⟩ := ba h4
      obtain rfl := of_decide_eq_true h1
      exact se_cmp ok.hK ok.hu (chk_ok a ok h5) (chk_ok b ok h6) (beq_iff_eq.mp h3)
    · obtain ⟨h1, h2⟩ := ba h
      obtain ⟨h3, h4⟩ := ba h2
      obtain ⟨h5, h6⟩ := ba h4
      obtain rfl := of_decide_eq_true h1
      exact st_cmp ok.hK ok.hu (chk_ok a ok h5) (chk_ok b ok h6) (beq_iff_eq.mp h3)
    · obtain ⟨h1, h2⟩ := ba h
      obtain ⟨h3, h4⟩ := ba h2
      obtain ⟨h5, h6⟩ := ba h4
      obtain rfl := of_decide_eq_true h1
      exact pts_one (st_cmp ok.hK ok.hu (chk_ok a ok h5) (chk_ok b ok h6) (beq_iff_eq.mp h3))
    · cases h
  | .chn o1 o2 a b d, r, s, X, c, W, y, ok, h => by
    unfold chk at h
    split at h
    · obtain ⟨h1, h2⟩ := ba h
      obtain ⟨h3, h4⟩ := ba h2
      obtain ⟨h5, h6⟩ := ba h4
      obtain ⟨h7, h8⟩ := ba h6
      obtain ⟨k1, k2⟩ := ba h1
      obtain rfl := of_decide_eq_true k1
      obtain rfl := of_decide_eq_true k2
      exact se_chn ok.hK ok.hu (chk_ok a ok h5) (chk_ok b ok h7) (chk_ok d ok h8) (beq_iff_eq.mp h3)
    · obtain ⟨h1, h2⟩ := ba h
      obtain ⟨h3, h4⟩ := ba h2
      obtain ⟨h5, h6⟩ := ba h4
      obtain ⟨h7, h8⟩ := ba h6
      obtain ⟨k1, k2⟩ := ba h1
      obtain rfl := of_decide_eq_true k1
      obtain rfl := of_decide_eq_true k2
      exact st_chn ok.hK ok.hu (chk_ok a ok h5) (chk_ok b ok h7) (chk_ok d ok h8) (beq_iff_eq.mp h3)
    · obtain ⟨h1, h2⟩ := ba h
      obtain ⟨h3, h4⟩ := ba h2
      obtain ⟨h5, h6⟩ := ba h4
      obtain ⟨h7, h8⟩ := ba h6
      obtain ⟨k1, k2⟩ := ba h1
      obtain rfl := of_decide_eq_true k1
      obtain rfl := of_decide_eq_true k2
      exact pts_one (st_chn ok.hK ok.hu (chk_ok a ok h5) (chk_ok b ok h7) (chk_ok d ok h8) (beq_iff_eq.mp h3))
    · cases h
  | .neg a, r, s, X, c, W, y, ok, h => gen_ok ok.hK h fun x h => by
    split at h
    · exact se_neg (chk_ok a ok h)
    · cases h
  | .not a, r, s, X, c, W, y, ok, h => by
    unfold chk at h
    split at h
    · exact se_not ok.hK (chk_ok a ok h)
    · exact st_not (chk_ok a ok h)
    · exact pts_one (st_not (chk_ok a ok h))
    · cases h
  | .and a b, r, s, X, c, W, y, ok, h => by
    unfold chk at h
    split at h
    · obtain ⟨h1, h2⟩ := ba h
      exact se_and ok.hK (chk_ok a ok h1) (chk_ok b ok h2)
    · obtain ⟨h1, h2⟩ := ba h
      exact st_and (chk_ok a ok h1) (chk_ok b ok h2)
    · obtain ⟨h1, h2⟩ := ba h
      exact (st_and (chk_ok a ok h1) (chk_ok b ok h2)).pt
    · obtain ⟨h1, h2⟩ := ba h
      exact pts_one (st_and (chk_ok a ok h1) (chk_ok b ok h2)).pt
    · cases h
  | .or a b, r, s, X, c, W, y, ok, h => by
    unfold chk at h
    split at h
    · obtain ⟨h1, h2⟩ := ba h
      exact se_or ok.hK (chk_ok a ok h1) (chk_ok b ok h2)
    · obtain ⟨h1, h2⟩ := ba h
      exact st_or (chk_ok a ok h1) (chk_ok b ok h2)
    · obtain ⟨h1, h2⟩ := ba h
      exact (st_or (chk_ok a ok h1) (chk_ok b ok h2)).pt
    · obtain ⟨h1, h2⟩ := ba h
      exact pts_one (st_or (chk_ok a ok h1) (chk_ok b ok h2)).pt
    · cases h
  | .one a, r, s, X, c, W, y, ok, h => by
    unfold chk at h
    split at h
    · exact se_one (chk_ok a ok h)
    · rename_i op _ _
      cases op with
      | And => exact st_and1 (chk_ok a ok h)
      | Or => exact st_or1 (chk_ok a ok h)
    · cases h
  | .ife t a b, r, s, X, c, W, y, ok, h => gen_ok ok.hK h fun x h => by
    split at h
    · obtain ⟨h1, h2⟩ := ba h
      obtain ⟨h3, h4⟩ := ba h2
      exact se_if (chk_ok t ok h1) (chk_ok a ok h3) (chk_ok b ok h4)
    · cases h
  | .tup a, r, s, X, c, W, y, ok, h => gen_ok ok.hK h fun x h => by
    split at h
    · exact se_tup (chk_ok a ok h)
    · cases h
  | .lst a, r, s, X, c, W, y, ok, h => gen_ok ok.hK h fun x h => by
    split at h
    · exact se_lst (chk_ok a ok h)
    · cases h
  | .call j a, r, s, X, c, W, y, ok, h => gen_ok ok.hK h fun x h => by
    split at h
    · rename_i n p es pos
      split at h
      · rename_i n' k hg
        obtain ⟨h1, h2⟩ := ba h
        obtain ⟨hcm, h2⟩ := ba h2
        obtain ⟨h3, h4⟩ := ba h2
        obtain ⟨h5, h6⟩ := ba h4
        obtain ⟨h7, h8⟩ := ba h6
        obtain rfl := of_decide_eq_true h1
        obtain ⟨g1, g2, g3⟩ := ok.gl _ _ _ hg
        obtain ⟨F, _⟩ := g3 hcm
        have hr := ok.room hcm
        try simp only [hg]
        have hA : PA X es (tA c W (ev T a r s.xs).a) := chk_ok a ok h8
        cases es with
        | nil =>
          rw [nil_args h8]
          exact se_call0 F hr ok.tk (glB_ok h3 ok.sc) g1 g2 (okN_d h5)
        | cons e es =>
          rw [List.all_cons] at h7
          obtain ⟨k1, k2⟩ := ba h7
          exact se_call F hr ok.tk (glB_ok h3 ok.sc) g1 g2 hA (okN_d h5) (starEach_plain _ (notStar_ok k1)) (starEach_none _ _ (all_star k2))
      · cases h
    · cases h
  | .bfn j a, r, s, X, c, W, y, ok, h => gen_ok ok.hK h fun x h => by
    split at h
    · rename_i n p e es pos
      split at h
      · rename_i n' b hg
        obtain ⟨h1, h2⟩ := ba h
        obtain ⟨h3, h4⟩ := ba h2
        obtain ⟨h5, h6⟩ := ba h4
        obtain ⟨h7, h8⟩ := ba h6
        obtain ⟨h9, h10⟩ := ba h8
        obtain rfl := of_decide_eq_true h1
        obtain ⟨g1, g2⟩ := ok.gl _ _ _ hg
        try simp only [hg]
        rw [List.all_cons] at h9
        obtain ⟨k1, k2⟩ := ba h9
        refine se_callB (bnOk ok.hK ok.hu ok.gd b fun hb => ok.cm ?_) (glB_ok h5 ok.sc) g1 g2 (chk_ok a ok h10) (okN_n h7) (okN_d h7) (starEach_plain _ (notStar_ok k1)) (starEach_none _ _ (all_star k2))
        rw [hb] at h3
        simpa using h3
      · rename_i n' t hg
        obtain ⟨h1, h2⟩ := ba h
        obtain ⟨h5, h6⟩ := ba h2
        obtain ⟨h7, h8⟩ := ba h6
        obtain ⟨h9, h10⟩ := ba h8
        obtain rfl := of_decide_eq_true h1
        obtain ⟨g1, g2⟩ := ok.gl _ _ _ hg
        try simp only [hg]
        rw [List.all_cons] at h9
        obtain ⟨k1, k2⟩ := ba h9
        exact se_callTy (tyOk ok.hK t) (glB_ok h5 ok.sc) g1 g2 (chk_ok a ok h10) (okN_n h7) (okN_d h7) (starEach_plain _ (notStar_ok k1)) (starEach_none _ _ (all_star k2))
      · cases h
    · cases h
  | .ix a b, r, s, X, c, W, y, ok, h => gen_ok ok.hK h fun x h => by
    split at h
    · obtain ⟨h1, h2⟩ := ba h
      obtain ⟨h3, h4⟩ := ba h2
      exact se_ix ok.hK (chk_ok a ok h3) (chk_ok b ok h4) (notSlice_ok h1)
    · cases h
  | .slc a lo hi, r, s, X, c, W, y, ok, h => gen_ok ok.hK h fun x h => by
    split at h
    · obtain ⟨h1, h2⟩ := ba h
      obtain ⟨h3, h4⟩ := ba h2
      exact se_slc ok.hK (chk_ok a ok h1) (chk_ok lo ok h3) (chk_ok hi ok h4)
    · cases h
  | .none_, r, s, X, c, W, y, ok, h => by
    unfold chk at h
    split at h
    · exact so_none
    · cases h
  | .mth m o a, r, s, X, c, W, y, ok, h => gen_ok ok.hK h fun x h => by
    split at h
    · rename_i o' n apos es cpos
      obtain ⟨h1, h2⟩ := ba h
      obtain ⟨h3, h4⟩ := ba h2
      obtain ⟨h5, h6⟩ := ba h4
      obtain ⟨h7, h8⟩ := ba h6
      obtain ⟨h9, h10⟩ := ba h8
      obtain ⟨h11, h12⟩ := ba h10
      obtain rfl := of_decide_eq_true h1
      have h5' := of_decide_eq_true h5
      have hA : PA X es (tA c W (ev T a r s.xs).a) := chk_ok a ok h12
      cases es with
      | nil =>
        show PE X _ (tE c W (dMth (mnZ m) (mnT m) (ev T o r s.xs).e (ev T a r s.xs).a))
        rw [nil_args h12]
        exact se_mth0 ok.hK (mnOk ok.hK ok.hu m) (chk_ok o ok h11) (notCall_ok h3 _ _ _) h7
      | cons e es =>
        have h9' := h9
        rw [List.all_cons] at h9
        obtain ⟨k1, k2⟩ := ba h9
        refine se_mth ok.hK (mnOk ok.hK ok.hu m) (chk_ok o ok h11) hA (notCall_ok h3 _ _ _) ?_ h7 (starEach_plain _ (notStar_ok k1)) (starEach_none _ _ (all_star k2))
        rw [few_ok _ _ h9']
        simp only [Bool.true_and, Bool.and_eq_true, decide_eq_true_eq]
        exact ⟨rfl, by show (e :: es).length + 0 + 0 < 30; omega⟩
    · cases h
  | .cpr it p t e own, r, s, X, c, W, y, ok, h => gen_ok ok.hK h fun x h => by
    split at h
    · rename_i elt tg iter ifs scope pos
      obtain ⟨h1, h2⟩ := ba h
      split at h2
      · rename_i ow ho
        obtain ⟨h3, h4⟩ := ba h2
        obtain ⟨h5, h6⟩ := ba h4
        obtain ⟨htg, h6⟩ := ba h6
        obtain ⟨h7, h8⟩ := ba h6
        obtain ⟨h9, h10⟩ := ba h8
        obtain ⟨h11, h12⟩ := ba h10
        have e2 := ownC_ok ho
        obtain ⟨h1, hxs⟩ := ba h1
        have hxs := Option.isNone_iff_eq_none.mp hxs
        obtain ⟨i1, i2⟩ : (∀ tg, tgB iter tg = true → PI X tg iter (tI c W (ev T it r s.xs).i)) ∧ ∀ v, foldedSetIterable iter X.env v = pure v := chk_ok it ok h9
        have q := se_comp (X := X) (c := c) (W := W) (tg := tg) (iter := iter) (elt := elt) (ifs := ifs) (scope := scope) (own := ow) (di := (ev T it r s.xs).i) (p := p) (t := (ev T t r none).t) (e := (ev T e r none).e) (pos := pos) ok.hK (ok.cm h1) (by rw [ok.N]; exact ok.nd) (i1 tg htg)
          (blkOk_by (by rw [ok.N, ok.sc]; exact h3)) (fun s1 H C cl fp => ?_) (fun s1 H C cl fp => chk_ok t (ok.blk s1 H scope cl C fp) h11) (fun s1 H C cl fp => chk_ok e (ok.blk s1 H scope cl C fp) h12) i2 (fun i hi => by rw [e2]; exact List.contains_iff_mem.mp (List.all_eq_true.mp h5 i hi))
        · rw [e2] at q; rw [hxs] at q ⊢; exact q
        · refine patC_ok (X := X.blk s1 H scope (compEnvC scope cl C X.env) fp) (fnc := fun x => scope.names.lookup x == some .cell) (ok.cm h1) (by show X.N.Nodup; rw [ok.N]; exact ok.nd) (fun x hx => hx) ?_
          have := (ok.blk s1 H scope cl C fp).sc
          rw [this, show (X.blk s1 H scope (compEnvC scope cl C X.env) fp).N = s.N from ok.N]
          exact h7
      · cases h2
    · cases h
  | .yes, r, s, X, c, W, y, ok, h => by
    unfold chk at h
    split at h
    · exact pts_nil.weak fun σ H Q ⟨ρ, G, l, R, hl, q⟩ => (show RQ c rB ρ H (.ok true G) Q (atW W σ) from q) ρ H true (Ext.refl _ _) R rfl
    · cases h
  | .wix j a, r, s, X, c, W, y, ok, h => gen_ok ok.hK h fun x h => by
    split at h
    · split at h
      · rename_i hg
        obtain ⟨h1, h2⟩ := ba h
        obtain ⟨h3, h4⟩ := ba h2
        obtain ⟨h5, h6⟩ := ba h4
        obtain ⟨h7, h8⟩ := ba h6
        obtain rfl := of_decide_eq_true h1
        obtain ⟨p, g1, g2⟩ := ok.gl _ _ _ hg
        try simp only [hg]
        exact se_wix ok.hK (glB_ok h5 ok.sc) (okN_d h7) g1 g2 (chk_ok a ok h8) (notSlice_ok h3)
      · cases h
    · cases h
  | .act i, r, s, X, c, W, y, ok, h => gen_ok ok.hK h fun x h => by
    split at h
    · obtain ⟨h1, h2⟩ := ba h
      obtain ⟨h3, h4⟩ := ba h2
      obtain ⟨h5, h6⟩ := ba h4
      exact ok.act i (of_decide_eq_true h1) _ _ _ (of_decide_eq_true h3) (visB_ok h5 ok.sc) h6
    · cases h
  | .isE j, r, s, X, c, W, y, ok, h => gen_ok ok.hK h fun x h => by
    split at h
    · rename_i i hi
      split at h
      · rename_i hg
        obtain ⟨h1, h2⟩ := ba h
        obtain ⟨h3, h4⟩ := ba h2
        obtain ⟨h5, h6⟩ := ba h4
        obtain ⟨h7, h8⟩ := ba h6
        obtain ⟨h9, h10⟩ := ba h8
        obtain ⟨h11, h12⟩ := ba h10
        obtain ⟨h13, h14⟩ := ba h12
        have e1 := of_decide_eq_true h1
        obtain rfl := of_decide_eq_true h11
        obtain ⟨g1, g2, _⟩ := ok.gl _ _ _ hg
        simp only [hg, hi]
        exact se_isE (kk := .own _) ok hi e1 (glB_ok h3 ok.sc) (of_decide_eq_true h5) (visB_ok h7 ok.sc) h9 (pe_glob (v := .ref _) (glB_ok h13 ok.sc) g1 rfl (okN_d h14)) fun u h => h
      · rename_i hg
        obtain ⟨h1, h2⟩ := ba h
        obtain ⟨h3, h4⟩ := ba h2
        obtain ⟨h5, h6⟩ := ba h4
        obtain ⟨h7, h8⟩ := ba h6
        obtain ⟨h9, h10⟩ := ba h8
        obtain ⟨h11, h12⟩ := ba h10
        obtain ⟨h13, h14⟩ := ba h12
        have e1 := of_decide_eq_true h1
        obtain rfl := of_decide_eq_true h11
        obtain ⟨g1, g2, _⟩ := ok.gl _ _ _ hg
        simp only [hg, hi]
        exact se_isE (kk := .own _) ok hi e1 (glB_ok h3 ok.sc) (of_decide_eq_true h5) (visB_ok h7 ok.sc) h9 (pe_glob (v := .ref _) (glB_ok h13 ok.sc) g1 rfl (okN_d h14)) fun u h => h
      · rename_i hg
        obtain ⟨h1, h2⟩ := ba h
        obtain ⟨h3, h4⟩ := ba h2
        obtain ⟨h5, h6⟩ := ba h4
        obtain ⟨h7, h8⟩ := ba h6
        obtain ⟨h9, h10⟩ := ba h8
        obtain ⟨h11, h12⟩ := ba h10
        obtain ⟨h13, h14⟩ := ba h12
        have e1 := of_decide_eq_true h1
        obtain rfl := of_decide_eq_true h11
        obtain ⟨g1, g2⟩ := ok.gl _ _ _ hg
        simp only [hg, hi]
        exact se_isE (kk := .blt _) ok hi e1 (glB_ok h3 ok.sc) (of_decide_eq_true h5) (visB_ok h7 ok.sc) h9 (pe_bltn (v := .ty _) (glB_ok h13 ok.sc) g1 g2 rfl (okN_n h14) (okN_d h14)) fun u h => h
      · cases h
    · cases h
  | .dnew, r, s, X, c, W, y, ok, h => gen_ok ok.hK h fun x h => by
    split at h
    · exact se_dnew
    · cases h
  | .dmk a, r, s, X, c, W, y, ok, h => gen_ok ok.hK h fun x h => by
    split at h
    · rename_i k ks vs pos
      obtain ⟨h1, h2⟩ := ba h
      obtain ⟨h3, h4⟩ := ba h2
      obtain ⟨h5, h6⟩ := ba h4
      obtain ⟨trs, hp, ht⟩ := (show ∀ pos, _ from chk_ok a ok h6) pos
      refine (pe_disp hp h5 (of_decide_eq_true h1) (List.cons_ne_nil _ _) (of_decide_eq_true h3)).weak fun σ H Q ⟨ρ, G, l, R, hl, q⟩ => fun p hpn => ?_
      obtain ⟨R1, e1⟩ := R.new (z := .dK [] []) (o := .dK []) hpn ⟨[], rfl, .nil, rfl⟩
      refine ht σ _ _ ⟨_, _, l, R1, hl.mono e1, ?_⟩
      have q' : RQ c (RZ c) ρ H (((ev T a r s.xs).p l (G ++ [.dK [] []])).bind fun ps G2 => match G2[G.length]?, mkKZ ps [] [] with
        | some (.dK [] []), some (ks, zs) => if ps.length ≤ 15 then .ok (.ref G.length) (G2.set G.length (.dK ks zs)) else .bad
        | _, _ => .bad) Q (atW W σ) := q
      cases hr : (ev T a r s.xs).p l (G ++ [.dK [] []]) with
      | bad => rw [hr] at q'; exact q'
      | exc x G2 => rw [hr] at q'; exact fun ρ2 H2 cl d e2 => q' ρ2 H2 cl d (e1.trans e2)
      | ok ps G2 =>
        rw [hr] at q'
        intro ρ2 H2 qs e2 R2 hq
        have q2 : RQ c (RZ c) ρ H (match G2[G.length]?, mkKZ ps [] [] with
          | some (.dK [] []), some (ks, zs) => if ps.length ≤ 15 then .ok (.ref G.length) (G2.set G.length (.dK ks zs)) else .bad
          | _, _ => .bad) Q (atW W σ) := q'
        split at q2
        · rename_i ks2 zs2 hG hm
          split at q2
          · rename_i h15
            have hD : ρ2[G.length]? = some p := pre_get e2.pre (by rw [← R.len]; exact get_new ρ p)
            obtain ⟨b, g1, vs1, g2, g3, g4⟩ := R2.at hG
            rw [hD] at g1; cases g1
            obtain ⟨kvs, f1, f2, vs2, f3, f4, f5⟩ := rz_pairs (vs := []) hm hq.1 hq.2 .nil rfl
            refine ⟨g2, kvs, f1, by rw [f2]; exact h15, ?_⟩
            obtain ⟨R3, e3⟩ := R2.put (z := .dK ks2 zs2) (o := .dK (mergeK [] kvs)) hD ⟨vs2, by rw [show mergeK [] kvs = ks2.zip vs2 from f3], f4, f5⟩
            exact q2 ρ2 _ _ ((e1.trans e2).trans e3) R3 (rz_ref hD)
          · exact q2.elim
        · exact q2.elim
    · cases h
  | .anil, r, s, X, c, W, y, ok, h => by
    unfold chk at h
    split at h
    · exact sa_nil
    · cases h
  | .acons a b, r, s, X, c, W, y, ok, h => by
    unfold chk at h
    split at h
    · obtain ⟨h1, h2⟩ := ba h
      obtain ⟨h3, h4⟩ := ba h2
      exact sa_cons (chk_ok a ok h3) (chk_ok b ok h4) (starEach_plain _ (notStar_ok h1))
    · cases h
  | .dnil, r, s, X, c, W, y, ok, h => by
    unfold chk at h
    split at h
    · exact fun pos => ⟨[], pps_nil, fun σ H Q ⟨ρ, G, l, R, hl, q⟩ => q ρ H [] (Ext.refl _ _) R ⟨.nil, .nil⟩⟩
    · cases h
  | .dcons k v b, r, s, X, c, W, y, ok, h => by
    unfold chk at h
    split at h
    · obtain ⟨h1, h2⟩ := ba h
      obtain ⟨h3, h4⟩ := ba h2
      intro pos
      obtain ⟨trs, hp, ht⟩ := (show ∀ pos, _ from chk_ok b ok h4) pos
      refine ⟨(tE c W (ev T k r s.xs).e, tE c W (ev T v r s.xs).e) :: trs, pps_cons (chk_ok k ok h1) (chk_ok v ok h3) hp, fun σ H Q ⟨ρ, G, l, R, hl, q⟩ => ?_⟩
      refine tE.bind R hl q fun ρ1 H1 G1 x xv e1 R1 l1 r1 q1 => tE.bind R1 l1 q1 fun ρ2 H2 G2 z zv e2 R2 l2 r2 q2 => ?_
      refine ht σ H2 _ ⟨ρ2, G2, l, R2, l2, RQ.imp (RQ.bind q2) (fun ps H3 ⟨ρ3, G3, zs, e3, R3, rp, q3⟩ => ?_) fun _ _ _ h => h⟩
      exact q3 ρ3 H3 ((xv, zv) :: ps) (Ext.refl _ _) R3 ⟨.cons ((r1.mono e2).mono e3) rp.1, .cons (r2.mono e3) rp.2⟩
    · cases h
  | .rng1 j a, r, s, X, c, W, y, ok, h => by
    unfold chk at h
    split at h
    · split at h
      · rename_i hg
        obtain ⟨h1, h2⟩ := ba h
        obtain ⟨h3, h4⟩ := ba h2
        obtain ⟨h5, h6⟩ := ba h4
        obtain ⟨h7, h8⟩ := ba h6
        obtain rfl := of_decide_eq_true h1
        obtain rfl := of_decide_eq_true h3
        have g1 := ok.gl _ _ _ hg
        exact ⟨fun tg _ => si_rng1 (glB_ok h5 ok.sc) g1 (chk_ok a ok h8) (starEach_plain _ (notStar_ok h7)), fun v => rfl⟩
      · cases h
    · cases h
  | .rng2 j a, r, s, X, c, W, y, ok, h => by
    unfold chk at h
    split at h
    · split at h
      · rename_i hg
        obtain ⟨h1, h2⟩ := ba h
        obtain ⟨h3, h4⟩ := ba h2
        obtain ⟨h5, h6⟩ := ba h4
        obtain ⟨h7, h8⟩ := ba h6
        obtain ⟨h9, h10⟩ := ba h8
        obtain rfl := of_decide_eq_true h1
        obtain rfl := of_decide_eq_true h3
        have g1 := ok.gl _ _ _ hg
        refine ⟨fun tg _ => si_rng2 (glB_ok h5 ok.sc) g1 (chk_ok a ok h10) ?_ (starEach_plain _ (notStar_ok h9)), fun v => rfl⟩
        rw [starEach_plain _ (notStar_ok h7), starEach_plain _ (notStar_ok h9)]; rfl
      · cases h
    · cases h
  | .enm j a, r, s, X, c, W, y, ok, h => by
    unfold chk at h
    split at h
    · split at h
      · rename_i hg
        obtain ⟨h1, h2⟩ := ba h
        obtain ⟨h3, h4⟩ := ba h2
        obtain ⟨h5, h6⟩ := ba h4
        obtain ⟨h7, h8⟩ := ba h6
        obtain rfl := of_decide_eq_true h1
        obtain rfl := of_decide_eq_true h3
        have g1 := ok.gl _ _ _ hg
        refine ⟨fun tg ht => ?_, fun v => rfl⟩
        cases tg with
        | Tuple es kk tpos => exact si_enum ok.hK (glB_ok h5 ok.sc) g1 (chk_ok a ok h8) (starEach_plain _ (notStar_ok h7))
        | _ => cases ht
      · cases h
    · cases h
  | .zp j a, r, s, X, c, W, y, ok, h => by
    unfold chk at h
    split at h
    · split at h
      · rename_i hg
        obtain ⟨h1, h2⟩ := ba h
        obtain ⟨h3, h4⟩ := ba h2
        obtain ⟨h5, h6⟩ := ba h4
        obtain ⟨h7, h8⟩ := ba h6
        obtain ⟨h9, h10⟩ := ba h8
        obtain rfl := of_decide_eq_true h1
        obtain rfl := of_decide_eq_true h3
        have g1 := ok.gl _ _ _ hg
        refine ⟨fun tg ht => ?_, fun v => rfl⟩
        cases tg with
        | Tuple es kk tpos =>
          refine si_zip ok.hK (glB_ok h5 ok.sc) g1 (chk_ok a ok h10) (starEach_plain _ (notStar_ok h7)) ?_
          rw [starEach_plain _ (notStar_ok h9)]; rfl
        | _ => cases ht
      · cases h
    · cases h
  | .fld f, r, s, X, c, W, y, ok, h => gen_ok ok.hK h fun x h => by
    split at h
    · rename_i n pn g pos _ i hi
      obtain ⟨h1, h2⟩ := ba h
      obtain ⟨h3, h4⟩ := ba h2
      obtain ⟨h5, h6⟩ := ba h4
      obtain rfl := of_decide_eq_true h1
      simp only [hi]
      exact se_fld ok hi (of_decide_eq_true h3) (visB_ok h5 ok.sc) h6
    · cases h
  | .lam j e, r, s, X, c, W, y, ok, h => gen_ok ok.hK h fun x h => by
    split at h
    · rename_i n p params body scope lpos pos
      split at h
      · rename_i n' k hg
        obtain ⟨h1, h2⟩ := ba h
        obtain ⟨h3, h4⟩ := ba h2
        obtain ⟨h5, h6⟩ := ba h4
        obtain ⟨h7, h8⟩ := ba h6
        obtain ⟨h9, h10⟩ := ba h8
        obtain ⟨h11, h12⟩ := ba h10
        obtain ⟨hcm, hlm⟩ := ba h3
        obtain rfl := of_decide_eq_true h1
        obtain ⟨g1, g2, g3⟩ := ok.gl _ _ _ hg
        obtain ⟨hlv, cd, P, k1, k2, k3, k4⟩ := ok.lmk hlm
        have L : LamX.LamS X.env.scope scope := LamX.lamS_by (by rw [ok.sc]; exact h9)
        have hr := ok.room hcm
        try simp only [hg]
        obtain ⟨a1, a2, a3, a4, a5, a6, a7⟩ := params
        unfold noArgs at h11
        split at h11
        case h_2 => cases h11
        rename_i heq
        cases heq
        · obtain ⟨k, hk⟩ : ∃ k, r.lv = k + 2 := ⟨r.lv - 2, by omega⟩
          refine se_lam (k := k) (db := (ev T e r.lower none).e) (hk ▸ g3 hcm) (hk ▸ hr) ok.tk (glB_ok h5 ok.sc) g1 g2 k2 k1 k3 k4 L rfl (fun _ _ _ _ _ => rfl) (fun A outer s1 H E f c' hr2 => ?_) (okN_d h7)
          refine chk_ok e (r := r.lower) (s := { sc := scope, N := s.N }) (y := .e body) ?_ h12
          exact {
            hK := ok.hK
            hu := by
              have := hr2.un
              show (A.deeper _).units + 60 < cLine
              omega
            gd := hr2.gd
            sc := rfl
            N := ok.N
            nd := ok.nd
            cm := fun _ => rfl
            tk := takes_of rfl rfl rfl rfl
            gl := fun j x g hj => by
              have q := ok.gl j x g hj
              rw [hcm] at q
              exact q.low hk A outer s1 H E scope f c'
            act := fun i h => nomatch h
            exs := fun i x k h => nomatch h
            exf := fun i x k n h => nomatch h
            xpay := fun i x h => nomatch h
            room := fun _ => by show Room (r.lv - 2) _; rw [show r.lv - 2 = k by omega]; exact hr2
            lmk := fun h => nomatch h
            isI := ok.isI
            sub := ok.sub }
      · cases h
    · cases h
end
end Zy
end
section
set_option Elab.async false
set_option linter.all false
set_option maxRecDepth 100000
set_option maxHeartbeats 4000000
set_option autoImplicit false
namespace Zy
open PySem PySem.Spec PyProof.Rows L2

inductive SynG where
  | g (x : Expr) | gs (xs : List Expr)
def locB (s : Sx) (x : Str) : Bool := match s.sc.names.lookup x with
  | some .local => true
  | some .cell => true
  | _ => false
def isComp : Expr → Bool
  | .ListComp _ _ _ _ => true
  | .SetComp _ _ _ _ => true
  | .DictComp _ _ _ _ _ => true
  | _ => false
def isName : Expr → Bool
  | .Name _ _ => true
  | _ => false
/-- a target that is no plain local name -/
def oddT (sc : Scope) : Expr → Bool
  | .Name id _ => !(sc.names.lookup id == some .local)
  | _ => true
def noSwap (sc : Scope) : Expr → Expr → Bool
  | .Tuple ts _ _, .Tuple vs _ _ => ts.any (oddT sc) || (!(ts.length == 2 || ts.length == 3) || vs.all (foldedForSure 8))
  | .List ts _, .Tuple vs _ _ => ts.any (oddT sc) || (!(ts.length == 2 || ts.length == 3) || vs.all (foldedForSure 8))
  | _, _ => true
def chkG (T : Tb) : Gt → Sx → SynG → Bool
  | .nm i, s => fun y => match y with
    | .g (.Name x _) => decide (s.N[i]? = some x) && locB s x
    | _ => false
  | .tp gs, s => fun y => match y with
    | .g (.Tuple es _ _) => s.cm && chkG T gs s (.gs es)
    | _ => false
  | .gnil, s => fun y => match y with
    | .gs [] => true
    | _ => false
  | .gcons g gs, s => fun y => match y with
    | .gs (e :: es) => notStar e && (chkG T g s (.g e) && chkG T gs s (.gs es))
    | _ => false
  | .sub o i, s => fun y => match y with
    | .g (.Subscript a b _) => notSlice b && (chk T o s (.e a) && chk T i s (.e b))
    | _ => false
inductive SynS where
  | s (x : Stmt) | ss (xs : List Stmt) | h (xs : List ExceptHandler)
def parB (s : Sx) (x y : Str) (px py : Pos) (a b : Expr) : Bool :=
  decide (s.sc.kind = .function) && (decide (s.sc.names.lookup x = some .local) && (decide (s.sc.names.lookup y = some .local) && (decide (px.line = py.line) && (!decide (x = y) && (notStar a && (notStar b && (!([a, b].all (foldedForSure 8)) && !([a, b].all (constantsAlone 8)))))))))
def setB (s : Sx) (x : Str) (px : Pos) (e : Expr) : Bool := match e with
  | .ListComp _ [⟨_, _, _, 0⟩] scope pos => decide (s.sc.kind = .function) && (decide (s.sc.names.lookup x = some .local) && ((px.line == pos.line) && !(scope.names.any fun q => q.1 == x && (q.2 == .local || q.2 == .cell))))
  | _ => false
def chkS (T : Tb) : St → Sx → SynS → Bool
  | .nil, s => fun y => match y with
    | .ss [] => true
    | _ => false
  | .cons a b, s => fun y => match y with
    | .ss (x :: xs) => chkS T a s (.s x) && chkS T b s (.ss xs)
    | _ => false
  | .ret e, s => fun y => match y with
    | .s (.Return (some x) _) => chk T e s (.e x)
    | _ => false
  | .retN, s => fun y => match y with
    | .s (.Return none _) => true
    | _ => false
  | .exp e, s => fun y => match y with
    | .s (.Expr x _) => !isComp x && chk T e s (.e x)
    | _ => false
  | .asg g e, s => fun y => match y with
    | .s (.Assign [tg] x _) => (!isComp x || !isName tg) && (noSwap s.sc tg x && (notStar tg && (chkG T g s (.g tg) && chk T e s (.e x))))
    | _ => false
  | .asgC i e, s => fun y => match y with
    | .s (.Assign [.Name x px] v _) => setB s x px v && (decide (s.N[i]? = some x) && chk T e s (.e v))
    | _ => false
  | .ife t a b, s => fun y => match y with
    | .s (.If x p q _) => chk T t s (.t x) && (chkS T a s (.ss p) && chkS T b s (.ss q))
    | _ => false
  | .pass, s => fun y => match y with
    | .s (.Pass _) => true
    | _ => false
  | .brk, s => fun y => match y with
    | .s (.Break _) => true
    | _ => false
  | .cnt, s => fun y => match y with
    | .s (.Continue _) => true
    | _ => false
  | .for_ it g b, s => fun y => match y with
    | .s (.For tg x body [] _) => s.cm && (tgB x tg && (chk T it s (.i x) && (chkG T g s (.g tg) && chkS T b s (.ss body))))
    | _ => false
  | .while_ t b, s => fun y => match y with
    | .s (.While x body [] _) => s.cm && (chk T t s (.t x) && chkS T b s (.ss body))
    | _ => false
  | .raise_ j, s => fun y => match y with
    | .s (.Raise (some (.Call (.Name n _) [.Constant (.str _) _ _] [] _)) none _) => (match T.gl[j]? with
      | some (n', .ex _) => decide (n = n') && (s.cm && (glB s n && okN n))
      | _ => false)
    | _ => false
  | .raiseF j e, s => fun y => match y with
    | .s (.Raise (some (.Call (.Name n _) [x] [] _)) none _) => (match T.gl[j]? with
      | some (n', .exf _ _) => decide (n = n') && (s.cm && (glB s n && (okN n && (notStar x && chk T e s (.e x)))))
      | _ => false)
    | _ => false
  | .try_ b h, s => fun y => match y with
    | .s (.Try body (h₀ :: hds) [] [] _) => s.cm && (chkS T b s (.ss body) && chkS T h s (.h (h₀ :: hds)))
    | _ => false
  | .hnil, s => fun y => match y with
    | .h [] => true
    | _ => false
  | .hcons j i b r, s => fun y => match y with
    | .h (.ExceptHandler (some (.Name x _)) n (b₀ :: suite) _ :: hds) => (match T.gl[j]? with
      | some (n', .ex _) => decide (x = n') && (glB s x && (okN x && ((match n, i with
        | none, none => true
        | some m, some i => decide (s.N[i]? = some m) && decide (s.sc.names.lookup m = some .local)
        | _, _ => false) && (chkS T b { s with cm := false, xs := i, act := none, lm := false } (.ss (b₀ :: suite)) && chkS T r s (.h hds)))))
      | some (n', .exf _ _) => decide (x = n') && (glB s x && (okN x && ((match n, i with
        | none, none => true
        | some m, some i => decide (s.N[i]? = some m) && decide (s.sc.names.lookup m = some .local)
        | _, _ => false) && (chkS T b { s with cm := false, xs := i, act := none, lm := false } (.ss (b₀ :: suite)) && chkS T r s (.h hds)))))
      | _ => false)
    | _ => false
  | .par i j a, s => fun y => match y with
    | .s (.Assign [.Tuple [.Name x px, .Name y py] _ _] (.Tuple [e1, e2] _ _) _) => s.cm && (parB s x y px py e1 e2 && (decide (s.N[i]? = some x) && (decide (s.N[j]? = some y) && (!decide (i = j) && chk T a s (.a [e1, e2])))))
    | _ => false
structure XS (T : Tb) (r : Rt) (s : Sx) (c : C) (X : Cx) (W : WX) : Prop where
  ok : XOk T r s c X W
  stk : X.stack = X.env :: X.outer
  fr : X.env.frame = some X.env.locals
  pw : s.cm = true → PassesOwn (model X.prog X.w) X.A X.env X.xe
  fn : ∀ x, X.fn x = true
  xs0 : s.cm = true → s.xs = none
  two : s.cm = true → 2 ≤ r.lv
  act : ∀ i, s.act = some i → ∀ a p1 p2 W' pn xe, s.N[i]? = some a → Vis X.env.scope a → okN a = true → Takes (X.tr pn xe) W' → PE (X.tr pn xe) (.Call (.Name a p1) [] [] p2) (tE c W' (dAct i r.th))
def GoodG (X : Cx) (c : C) (W : WX) : SynG → MG → Prop
  | .g x, m => PG X x (tG c W m.g)
  | .gs xs, m => PGs X xs (tGs c W m.gs) ∧ (assignEach xs X.env).length = m.n ∧ (assignEach xs X.env).findIdx? (·.1) = none
def GoodS (X : Cx) (c : C) (W : WX) : SynS → MS → Prop
  | .s x, m => PS X x (tS c W m.s)
  | .ss xs, m => PSs X xs (tS c W m.s)
  | .h xs, m => HdsG X xs (m.h.map (hzT c))
section
variable {T : Tb}
theorem locB_ok {s : Sx} {X : Cx} {x : Str} (h : locB s x = true) (e : X.env.scope = s.sc) : Loc X.env.scope x := by
  unfold locB at h
  rw [e]
  split at h
  · rename_i q; exact .inl q
  · rename_i q; exact .inr q
  · cases h
theorem filter_odd {f : Expr → Option Str} {g : Expr → Bool} (h : ∀ e, g e = true → f e = none) : ∀ {ts : List Expr}, ts.any g = true → (ts.filterMap f).length < ts.length
  | [], q => by cases q
  | e :: ts, q => by
    have le : (ts.filterMap f).length ≤ ts.length := List.length_filterMap_le f ts
    rw [List.any_cons, Bool.or_eq_true] at q
    rw [List.filterMap_cons]
    rcases q with q | q
    · rw [h e q, List.length_cons]; show (ts.filterMap f).length < _; omega
    · have := filter_odd h q
      cases f e with
      | none => rw [List.length_cons]; show (ts.filterMap f).length < _; omega
      | some y => rw [List.length_cons, List.length_cons]; omega
theorem noSwap_ok {tg e : Expr} {env : Env} {sc : Scope} (hs : env.scope = sc) (h : noSwap sc tg e = true) : swappedStores [tg] e env = pure none := by
  have key : ∀ (ts vs : List Expr), (ts.any (oddT sc) || (!(ts.length == 2 || ts.length == 3) || vs.all (foldedForSure 8))) = true →
      (do
        if !(ts.length == 2 || ts.length == 3) || vs.length != ts.length || env.blockKind != .function then return none
        if vs.any fun | .Starred .. => true | _ => false then return none
        let line := (ts.head?.map (·.pos.line)).getD 0
        let names := ts.filterMap fun
          | .Name id pos => if env.kindOf id == some .local && pos.line == line then some id else none
          | _ => none
        if names.length != ts.length || names.eraseDups.length != names.length then return none
        if vs.all (foldedForSure 8) then return none
        if vs.all (constantsAlone 8) then unsupported "assign.tuple-of-constant-expressions:order-of-the-stores"
        return some names : Sem (Option (List Str))) = pure none := by
    intro ts vs h
    rw [Bool.or_eq_true] at h
    rcases h with h | h
    · have hl := filter_odd (f := fun e => match e with
          | .Name id pos => if env.kindOf id == some .local && pos.line == (ts.head?.map (·.pos.line)).getD 0 then some id else none
          | _ => none) (g := oddT sc) (fun e he => by
        cases e with
        | Name id pos =>
          have h0 : (sc.names.lookup id == some .local) = false := by
            have he' : (!(sc.names.lookup id == some .local)) = true := he
            simpa using he'
          have h1 : (env.kindOf id == some .local) = false := by
            show (env.scope.names.lookup id == some .local) = false
            rw [hs]; exact h0
          simp only [h1, Bool.false_and, Bool.false_eq_true, if_false]
        | _ => rfl) h
      have hne : ((ts.filterMap fun e => match e with
          | .Name id pos => if env.kindOf id == some .local && pos.line == (ts.head?.map (·.pos.line)).getD 0 then some id else none
          | _ => none).length != ts.length) = true := by
        rw [bne_iff_ne]; omega
      dsimp only
      split
      · rfl
      · split
        · rfl
        · split
          · rfl
          · rename_i hx
            exact absurd (by rw [Bool.or_eq_true]; exact .inl hne) hx
    · rw [Bool.or_eq_true] at h
      rcases h with h | h
      · rw [h]; simp
      · simp only [h, if_true]
        split
        · rfl
        · split
          · rfl
          · split <;> rfl
  cases tg with
  | Tuple ts k p =>
    cases e with
    | Tuple vs k2 p2 => exact key ts vs h
    | _ => rfl
  | List ts p =>
    cases e with
    | Tuple vs k2 p2 => exact key ts vs h
    | _ => rfl
  | _ => cases e <;> rfl
theorem noComp_ok {x : Expr} {tg : Option Expr} {n : Nat} {env : Env} (h : isComp x = false) : swapsWith x tg n env = pure false := by
  cases x with
  | ListComp a b d e => cases h
  | SetComp a b d e => cases h
  | DictComp a b d e f => cases h
  | _ => rfl
theorem noComp2_ok {x tg : Expr} {n : Nat} {env : Env} (h : isName tg = false) : swapsWith x (some tg) n env = pure false := by
  cases tg with
  | Name a b => cases h
  | _ => cases x <;> rfl
theorem swaps_ok {x : Str} {px pos : Pos} {n : Nat} {env : Env} {s : Sx} {e : Expr} (hs : env.scope = s.sc) (h : setB s x px e = true) : ∃ elt tg iter ifs scope pos, e = .ListComp elt [⟨tg, iter, ifs, 0⟩] scope pos ∧ env.scope.names.lookup x = some .local ∧ swapsWith e (some (.Name x px)) n env = pure true := by
  unfold setB at h
  split at h
  · rename_i elt tg iter ifs scope pos
    obtain ⟨h1, h2⟩ := ba h
    obtain ⟨h3, h4⟩ := ba h2
    obtain ⟨h5, h6⟩ := ba h4
    have e1 := of_decide_eq_true h1
    have e2 := of_decide_eq_true h3
    refine ⟨elt, tg, iter, ifs, scope, pos, rfl, by rw [hs]; exact e2, ?_⟩
    have k1 : env.blockKind = .function := by unfold Env.blockKind; rw [hs, e1]; rfl
    have k2 : env.kindOf x = some .local := by show env.scope.names.lookup x = _; rw [hs]; exact e2
    show (pure (env.blockKind == .function && env.kindOf x == some .local && px.line == pos.line && !(scope.names.any fun (n, k) => n == x && (k == .local || k == .cell))) : Sem Bool) = pure true
    rw [k1, k2, h5]
    have h6' : (!(scope.names.any fun (n, k) => n == x && (k == .local || k == .cell))) = true := h6
    rw [h6']; rfl
  · cases h
theorem par_ok {s : Sx} {x y : Str} {px py : Pos} {a b : Expr} {env : Env} {kt k2 : Nat} {pt pt2 : Pos} (hs : env.scope = s.sc) (h : parB s x y px py a b = true) : swappedStores [.Tuple [.Name x px, .Name y py] kt pt] (.Tuple [a, b] k2 pt2) env = pure (some [x, y]) := by
  unfold parB at h
  obtain ⟨h1, h⟩ := ba h
  obtain ⟨h2, h⟩ := ba h
  obtain ⟨h3, h⟩ := ba h
  obtain ⟨h4, h⟩ := ba h
  obtain ⟨h5, h⟩ := ba h
  obtain ⟨h6, h⟩ := ba h
  obtain ⟨h7, h⟩ := ba h
  obtain ⟨h8, h9⟩ := ba h
  have e1 := of_decide_eq_true h1
  have e2 := of_decide_eq_true h2
  have e3 := of_decide_eq_true h3
  have e4 := of_decide_eq_true h4
  have hxy : x ≠ y := by simpa using h5
  have k1 : env.blockKind = .function := by unfold Env.blockKind; rw [hs, e1]; rfl
  have k2 : env.kindOf x = some .local := by show env.scope.names.lookup x = _; rw [hs]; exact e2
  have k3 : env.kindOf y = some .local := by show env.scope.names.lookup y = _; rw [hs]; exact e3
  have n1 : ([a, b].any fun | .Starred .. => true | _ => false) = false := by
    have s1 : (match (generalizing := false) a with | .Starred .. => true | _ => false) = false := by cases a <;> first | rfl | cases h6
    have s2 : (match (generalizing := false) b with | .Starred .. => true | _ => false) = false := by cases b <;> first | rfl | cases h7
    rw [List.any_cons, List.any_cons, List.any_nil]
    rw [s1, s2]; rfl
  have n2 : ([a, b].all (foldedForSure 8)) = false := by
    cases q : [a, b].all (foldedForSure 8) with
    | false => rfl
    | true => rw [q] at h8; cases h8
  have n3 : ([a, b].all (constantsAlone 8)) = false := by
    cases q : [a, b].all (constantsAlone 8) with
    | false => rfl
    | true => rw [q] at h9; cases h9
  have nm : ([Expr.Name x px, Expr.Name y py].filterMap fun e => match e with
      | .Name id pos => if (env.kindOf id == some .local && pos.line == px.line) = true then some id else none
      | _ => none) = [x, y] := by
    simp [k2, k3, e4]
  have dd : [x, y].eraseDups = [x, y] := by
    simp [List.eraseDups_cons, hxy.symm, Ne.symm hxy]
  unfold swappedStores
  simp only [k1]
  refine (if_neg ?_).trans ?_
  · exact Bool.false_ne_true
  refine (if_neg ?_).trans ?_
  · exact fun q => Bool.false_ne_true (n1.symm.trans q)
  simp only [List.head?_cons, Option.map_some, Option.getD_some, Expr.pos]
  erw [nm]
  rw [dd]
  refine (if_neg ?_).trans ?_
  · exact Bool.false_ne_true
  refine (if_neg ?_).trans ?_
  · exact fun q => Bool.false_ne_true (n2.symm.trans q)
  refine (if_neg ?_).trans ?_
  · exact fun q => Bool.false_ne_true (n3.symm.trans q)
  rfl
theorem chkG_ok {r : Rt} : ∀ (g : Gt) {s : Sx} {X : Cx} {c : C} {W : WX} {y : SynG}, XS T r s c X W → chkG T g s y = true → GoodG X c W y (evG T r s.xs g)
  | .nm i, s, X, c, W, y, ok, h => by
    unfold chkG at h
    split at h
    · obtain ⟨h1, h2⟩ := ba h
      exact sg_name (by rw [ok.ok.N]; exact ok.ok.nd) (by rw [ok.ok.N]; exact of_decide_eq_true h1) (locB_ok h2 ok.ok.sc) (.inl (ok.fn _))
    · cases h
  | .tp gs, s, X, c, W, y, ok, h => by
    unfold chkG at h
    split at h
    · obtain ⟨h1, h2⟩ := ba h
      obtain ⟨g1, g2, g3⟩ := (show _ ∧ _ ∧ _ from chkG_ok gs ok h2)
      exact sg_tup ok.ok.hK (ok.ok.cm h1) g1 g2 g3
    · cases h
  | .gnil, s, X, c, W, y, ok, h => by
    unfold chkG at h
    split at h
    · exact ⟨sgs_nil, rfl, rfl⟩
    · cases h
  | .gcons g gs, s, X, c, W, y, ok, h => by
    unfold chkG at h
    split at h
    · rename_i e es
      obtain ⟨h1, h2⟩ := ba h
      obtain ⟨h3, h4⟩ := ba h2
      have g0 : PG X e (tG c W (evG T r s.xs g).g) := chkG_ok g ok h3
      obtain ⟨g1, g2, g3⟩ := (show _ ∧ _ ∧ _ from chkG_ok gs ok h4)
      have he : assignEach (e :: es) X.env = (false, assign e X.env) :: assignEach es X.env := by
        cases e with
        | Starred a p => cases h1
        | _ => rfl
      refine ⟨sgs_cons g0 g1 (pgs_cons g0 g1 (by rw [he]; rfl)), ?_, ?_⟩
      · rw [he, List.length_cons, g2]; rfl
      · rw [he, List.findIdx?_cons]; simp [g3]
    · cases h
  | .sub o i, s, X, c, W, y, ok, h => by
    unfold chkG at h
    split at h
    · rename_i a b p
      obtain ⟨h1, h2⟩ := ba h
      obtain ⟨h3, h4⟩ := ba h2
      have g1 : PE X a (tE c W (ev T o r s.xs).e) := chk_ok o ok.ok h3
      have g2 : PE X b (tE c W (ev T i r s.xs).e) := chk_ok i ok.ok h4
      refine sg_sub g1 g2 (pg_sub g1 g2 set_list ?_)
      intro v
      cases b with
      | Slice a b d e => cases h1
      | _ => rfl
    · cases h
end
end Zy
end
section
set_option Elab.async false
set_option linter.all false
set_option maxRecDepth 100000
set_option maxHeartbeats 4000000
set_option autoImplicit false
namespace Zy
open PySem PySem.Spec PyProof.Rows L2
section
variable {T : Tb}
theorem GlOk.tr {r : Rt} {c : C} {cm : Bool} {X : Cx} {x : Str} {g : GK} (h : GlOk r c cm X x g) (pn : List (Addr × Obj)) (xe : Value → Shared → Prop) : GlOk r c cm (X.tr pn xe) x g := by
  cases g <;> exact h
theorem XS.tr {r : Rt} {s : Sx} {c : C} {X : Cx} {W W' : WX} (ok : XS T r s c X W) (hcm : s.cm = true) {pn : List (Addr × Obj)} {xe : Value → Shared → Prop} (tk : Takes (X.tr pn xe) W') (hp : PassesOwn (model X.prog X.w) X.A X.env xe) : XS T r s c (X.tr pn xe) W' where
  ok := {
    hK := ok.ok.hK
    hu := ok.ok.hu
    gd := ok.ok.gd
    sc := ok.ok.sc
    N := ok.ok.N
    nd := ok.ok.nd
    cm := ok.ok.cm
    tk := tk
    gl := fun j x g h => (ok.ok.gl j x g h).tr pn xe
    act := fun i hi a p1 p2 ha hv hn => ok.act i hi a p1 p2 W' pn xe ha hv hn tk
    room := ok.ok.room
    lmk := ok.ok.lmk
    exs := fun i x k h => by rw [ok.xs0 hcm] at h; cases h
    exf := fun i x k n h => by rw [ok.xs0 hcm] at h; cases h
    xpay := fun i x h => by rw [ok.xs0 hcm] at h; cases h
    isI := ok.ok.isI
    sub := ok.ok.sub }
  stk := ok.stk
  fr := ok.fr
  pw := fun _ => hp
  fn := ok.fn
  xs0 := ok.xs0
  two := ok.two
  act := fun i hi a p1 p2 W2 pn2 xe2 ha hv hn tk2 => ok.act i hi a p1 p2 W2 pn2 xe2 ha hv hn tk2
theorem GlOk.suite {r r' : Rt} {c : C} {D : Dy} {cm : Bool} {X : Cx} {x : Str} {g : GK} (h : GlOk r c cm X x g) (a : Addr) (pn : List (Addr × Obj)) : GlOk r' (c.at_ D) false (X.suite a pn) x g := by
  cases g with
  | fn k => exact ⟨h.1, h.2.1, fun z => nomatch z⟩
  | val z =>
    obtain ⟨u, v, h1, h2, h3⟩ := h
    exact ⟨u, v, h1, h2, fun ρ H => (h3 ρ H).xa⟩
  | ty n => exact h
  | bf b => exact h
  | ex k => exact h
  | dct es =>
    obtain ⟨p, h1, h2⟩ := h
    exact ⟨p, h1, fun y z e => let ⟨v, k1, k2⟩ := h2 y z e; ⟨v, k1, fun ρ H => (k2 ρ H).xa⟩⟩
  | lam k => exact ⟨h.1, h.2.1, fun z => nomatch z⟩
  | rng => exact h
  | exf k f => exact h
theorem clsV_at (c : C) (D : Dy) (x : XC) : clsV (c.at_ D) x = clsV c x := by cases x <;> rfl
theorem XS.suite {r : Rt} {s : Sx} {c : C} {X : Cx} {W : WX} (ok : XS T r s c X W) {i : Option Nat} {x : XR} {D : Dy} {a : Addr} {oe : Obj} {pn : List (Addr × Obj)} {cls : Value} {d : Option Addr} (hz : Zc cls d oe) (hf : ∃ vs, oe.data = .fields vs) (hcls : cls = clsV c x.cls) (hd : x.pay = none → d = none) (ha : i ≠ none → D.xa = a ∧ D.xd = d ∧ D.xp = x.pay) :
    XS T { r with x := some x } { s with cm := false, xs := i, act := none, lm := false } (c.at_ D) (X.suite a ((a, oe) :: pn)) W0 where
  ok := {
    hK := ok.ok.hK
    hu := ok.ok.hu
    gd := ok.ok.gd
    sc := ok.ok.sc
    N := ok.ok.N
    nd := ok.ok.nd
    cm := fun z => nomatch z
    tk := LamX.takes0
    gl := fun j x g h => (ok.ok.gl j x g h).suite a _
    act := fun i hi => nomatch hi
    exs := fun j x' k hj hx hp hc hE => by
      have hx' : some x = some x' := hx
      cases hx'
      have e1 : cls = .ref (c.ca k) := by rw [hcls, hc]; rfl
      have e2 := hd hp
      subst e1 e2
      have hj' : i = some j := hj
      have e3 : D.xa = a := (ha (by rw [hj']; exact fun z => nomatch z)).1
      have q := call_isE (X := X) (a := a) (D := c.ca k) (pn := pn) (show ExcC X.K (c.ca k) from hE) hz hf
      show CallR (X.suite a ((a, oe) :: pn)) _ (rIsE X.K (c.ca k) D.xa)
      rw [e3]
      exact q
    exf := fun j x' k n hj hx hc hX hno e te pos he hb => by
      have hx' : some x = some x' := hx
      cases hx'
      have e1 : cls = .ref (c.ca k) := by rw [hcls, hc]; rfl
      have hj' : i = some j := hj
      obtain ⟨e3, e4, _⟩ := ha (by rw [hj']; exact fun z => nomatch z)
      have q := pe_xf (X := X) (a := a) (cls := cls) (d := d) (pn := pn) (pos := pos) (n := n) (show XfC X.K (c.ca k) from hX) hno hz hf he hb
      show PE (X.suite a ((a, oe) :: pn)) _ (tXf D.xa (.ref (c.ca k)) D.xd (c.ca k) n te)
      rw [e3, e4, ← e1]
      exact q
    xpay := fun j x' hj hx => by
      have hx' : some x = some x' := hx
      cases hx'
      have hj' : i = some j := hj
      exact (ha (by rw [hj']; exact fun z => nomatch z)).2.2
    room := fun z => nomatch z
    lmk := fun z => nomatch z
    isI := ok.ok.isI
    sub := fun a b t h => by
      obtain ⟨h1, h2⟩ := ok.ok.sub a b t h
      rw [clsV_at, clsV_at]
      exact ⟨h1, h2⟩ }
  stk := ok.stk
  fr := ok.fr
  pw := fun z => nomatch z
  fn := ok.fn
  xs0 := fun z => nomatch z
  two := fun z => nomatch z
  act := fun i hi => nomatch hi
theorem _root_.L2.PSs.ex {X : Cx} {xs : List Stmt} {ι : Type} {t : ι → TS} {P : ι → Prop} (h : ∀ i, P i → PSs X xs (t i)) : PSs X xs (fun D σ H => ∃ i, P i ∧ t i D σ H) := ⟨fun pins s σ H D I ⟨i, hp, q⟩ => (h i hp).run pins s σ H D I q⟩
theorem chkS_ok : ∀ (st : St) {r : Rt} {s : Sx} {X : Cx} {c : C} {W : WX} {y : SynS}, XS T r s c X W → chkS T st s y = true → GoodS X c W y (evS T s.xs st r)
  | .nil, r, s, X, c, W, y, ok, h => by
    unfold chkS at h
    split at h
    · exact sss_nil
    · cases h
  | .cons a b, r, s, X, c, W, y, ok, h => by
    unfold chkS at h
    split at h
    · obtain ⟨h1, h2⟩ := ba h
      exact sss_cons (chkS_ok a ok h1) (chkS_ok b ok h2)
    · cases h
  | .ret e, r, s, X, c, W, y, ok, h => by
    unfold chkS at h
    split at h
    · exact ss_ret (chk_ok e ok.ok h)
    · cases h
  | .retN, r, s, X, c, W, y, ok, h => by
    unfold chkS at h
    split at h
    · exact ss_retN
    · cases h
  | .exp e, r, s, X, c, W, y, ok, h => by
    unfold chkS at h
    split at h
    · obtain ⟨h1, h2⟩ := ba h
      exact ss_exp (chk_ok e ok.ok h2) (noComp_ok (by simpa using h1))
    · cases h
  | .asg g e, r, s, X, c, W, y, ok, h => by
    unfold chkS at h
    split at h
    · rename_i tg x p
      obtain ⟨h1, h2⟩ := ba h
      obtain ⟨h3, h4⟩ := ba h2
      obtain ⟨h5, h6⟩ := ba h4
      obtain ⟨h7, h8⟩ := ba h6
      refine ss_asg (chk_ok e ok.ok h8) (chkG_ok g ok h7) ?_ (noSwap_ok ok.ok.sc h3) ?_
      · show swapsWith x (some tg) p.line X.env = pure false
        rw [Bool.or_eq_true] at h1
        rcases h1 with h1 | h1
        · exact noComp_ok (by simpa using h1)
        · exact noComp2_ok (by simpa using h1)
      · cases tg with
        | Starred a p => cases h5
        | _ => rfl
    · cases h
  | .asgC i e, r, s, X, c, W, y, ok, h => by
    unfold chkS at h
    split at h
    · rename_i x px v p
      obtain ⟨h1, h2⟩ := ba h
      obtain ⟨h3, h4⟩ := ba h2
      obtain ⟨elt, tg, iter, ifs, scope, pos, rfl, k1, k2⟩ := swaps_ok (n := p.line) (pos := p) ok.ok.sc h1
      cases e with
      | cpr it pt t el own =>
        have h4' : ((s.cm && s.xs.isNone) && (match ownC s.N own with
          | some ow => blkC s.N s.sc scope ow && (pt.slots.all (fun i => own.contains i) && (tgB iter tg && (patC (relS scope s.sc) s.N (fun x => scope.names.lookup x == some .cell) pt tg && (chk T it s (.i iter) && (chk T t (s.blk scope) (.c ifs) && chk T el (s.blk scope) (.e elt))))))
          | none => false)) = true := h4
        obtain ⟨g1, g2⟩ := ba h4'
        obtain ⟨g1, hxs⟩ := ba g1
        have hxs := Option.isNone_iff_eq_none.mp hxs
        split at g2
        · rename_i ow ho
          obtain ⟨q3, q4⟩ := ba g2
          obtain ⟨q5, q6⟩ := ba q4
          obtain ⟨htg, q6⟩ := ba q6
          obtain ⟨q7, q8⟩ := ba q6
          obtain ⟨q9, q10⟩ := ba q8
          obtain ⟨q11, q12⟩ := ba q10
          have e2 := ownC_ok ho
          obtain ⟨i1, i2⟩ : (∀ tg, tgB iter tg = true → PI X tg iter (tI c W (ev T it r s.xs).i)) ∧ ∀ v, foldedSetIterable iter X.env v = pure v := chk_ok it ok.ok q9
          have q := ss_setComp (X := X) (c := c) (W := W) (tg := tg) (iter := iter) (elt := elt) (ifs := ifs) (scope := scope) (own := ow) (di := (ev T it r s.xs).i) (p := pt) (t := (ev T t r none).t) (e := (ev T el r none).e) (pos := pos) (py := px) (spos := p) ok.ok.hK (ok.ok.cm g1) (by rw [ok.ok.N]; exact ok.ok.nd)
            (i := i) (y := x) (by rw [ok.ok.N]; exact of_decide_eq_true h3) k1 k2 (i1 tg htg)
            (blkOk_by (by rw [ok.ok.N, ok.ok.sc]; exact q3)) (fun s1 H C cl fp => ?_) (fun s1 H C cl fp => chk_ok t (ok.ok.blk s1 H scope cl C fp) q11) (fun s1 H C cl fp => chk_ok el (ok.ok.blk s1 H scope cl C fp) q12) i2 (fun i hi => by rw [e2]; exact List.contains_iff_mem.mp (List.all_eq_true.mp q5 i hi))
          · rw [e2] at q; rw [hxs] at q ⊢; exact q
          · refine patC_ok (X := X.blk s1 H scope (compEnvC scope cl C X.env) fp) (fnc := fun x => scope.names.lookup x == some .cell) (ok.ok.cm g1) (by show X.N.Nodup; rw [ok.ok.N]; exact ok.ok.nd) (fun x hx => hx) ?_
            have := (ok.ok.blk s1 H scope cl C fp).sc
            rw [this, show (X.blk s1 H scope (compEnvC scope cl C X.env) fp).N = s.N from ok.ok.N]
            exact q7
        · cases g2
      | _ => first | cases h4 | (exfalso; revert h4; unfold chk; first | (intro z; cases z; done) | (simp [gen]; done))
    · cases h
  | .ife t a b, r, s, X, c, W, y, ok, h => by
    unfold chkS at h
    split at h
    · obtain ⟨h1, h2⟩ := ba h
      obtain ⟨h3, h4⟩ := ba h2
      exact ss_if (chk_ok t ok.ok h1) (chkS_ok a ok h3) (chkS_ok b ok h4)
    · cases h
  | .pass, r, s, X, c, W, y, ok, h => by
    unfold chkS at h
    split at h
    · exact ss_pass
    · cases h
  | .brk, r, s, X, c, W, y, ok, h => by
    unfold chkS at h
    split at h
    · exact ss_break
    · cases h
  | .cnt, r, s, X, c, W, y, ok, h => by
    unfold chkS at h
    split at h
    · exact ss_cont
    · cases h
  | .for_ it g b, r, s, X, c, W, y, ok, h => by
    unfold chkS at h
    split at h
    · rename_i tg x body p
      obtain ⟨h1, h2⟩ := ba h
      obtain ⟨htg, h2⟩ := ba h2
      obtain ⟨h3, h4⟩ := ba h2
      obtain ⟨h5, h6⟩ := ba h4
      obtain ⟨i1, i2⟩ : (∀ tg, tgB x tg = true → PI X tg x (tI c W (ev T it r s.xs).i)) ∧ ∀ v, foldedSetIterable x X.env v = pure v := chk_ok it ok.ok h3
      exact ss_for (ok.pw h1) (ok.ok.cm h1) (i1 tg htg) (chkG_ok g ok h5) (chkS_ok b ok h6) i2
    · cases h
  | .while_ t b, r, s, X, c, W, y, ok, h => by
    unfold chkS at h
    split at h
    · obtain ⟨h1, h2⟩ := ba h
      obtain ⟨h3, h4⟩ := ba h2
      exact ss_while (ok.pw h1) (chk_ok t ok.ok h3) (chkS_ok b ok h4)
    · cases h
  | .raise_ j, r, s, X, c, W, y, ok, h => by
    unfold chkS at h
    split at h
    · split at h
      · rename_i hg
        obtain ⟨h1, h2⟩ := ba h
        obtain ⟨h3, h4⟩ := ba h2
        obtain ⟨h5, h6⟩ := ba h4
        obtain rfl := of_decide_eq_true h1
        obtain ⟨g1, g2, g3, bm, B, n1, n2, F, g4⟩ := ok.ok.gl _ _ _ hg
        show PS X _ (tS c W (evS T s.xs (.raise_ j) r).s)
        simp only [evS, hg]
        exact ss_raise (ok.ok.cm h3) ok.ok.tk F g4 g1 g2 g3 (glB_ok h5 ok.ok.sc) (okN_d h6)
      · cases h
    · cases h
  | .raiseF j e, r, s, X, c, W, y, ok, h => by
    unfold chkS at h
    split at h
    · split at h
      · rename_i hg
        obtain ⟨h1, h2⟩ := ba h
        obtain ⟨h3, h4⟩ := ba h2
        obtain ⟨h5, h6⟩ := ba h4
        obtain ⟨h7, h8⟩ := ba h6
        obtain ⟨h9, h10⟩ := ba h8
        obtain rfl := of_decide_eq_true h1
        obtain ⟨g1, g2, g3, g4, g5, fI, g6, g7, g8⟩ := ok.ok.gl _ _ _ hg
        show PS X _ (tS c W (evS T s.xs (.raiseF j e) r).s)
        simp only [evS, hg]
        exact ss_raiseF (ok.ok.cm h3) ok.ok.tk g3 g4 g6 g7 g8 ((ok.ok.room h3).mono (ok.two h3)) (glB_ok h5 ok.ok.sc) g1 (chk_ok e ok.ok h10) (okN_d h7) (starEach_plain _ (notStar_ok h9))
      · cases h
    · cases h
  | .try_ b hh, r, s, X, c, W, y, ok, h => by
    unfold chkS at h
    split at h
    · obtain ⟨h1, h2⟩ := ba h
      obtain ⟨h3, h4⟩ := ba h2
      exact ss_try (fun a b t q => (ok.ok.sub a b t q).1) ok.stk ok.fr (by rw [ok.ok.N]; exact ok.ok.nd) ok.ok.tk (fun W' pn xe tk hp => chkS_ok b (ok.tr h1 tk hp) h3) (chkS_ok hh ok h4)
    · cases h
  | .hnil, r, s, X, c, W, y, ok, h => by
    unfold chkS at h
    split at h
    · exact .nil
    · cases h
  | .hcons j i b rest, r, s, X, c, W, y, ok, h => by
    unfold chkS at h
    split at h
    · rename_i x np n b₀ suite pos hds
      split at h
      · rename_i hg
        obtain ⟨h1, h2⟩ := ba h
        obtain ⟨h3, h4⟩ := ba h2
        obtain ⟨h5, h6⟩ := ba h4
        obtain ⟨h7, h8⟩ := ba h6
        obtain ⟨h9, h10⟩ := ba h8
        obtain rfl := of_decide_eq_true h1
        obtain ⟨g1, g2, _⟩ := ok.ok.gl _ _ _ hg
        have hrest : HdsG X hds ((evS T s.xs rest r).h.map (hzT c)) := chkS_ok rest ok h10
        show HdsG X _ (((evS T s.xs (.hcons j i b rest) r).h).map (hzT c))
        simp only [evS, hg, List.map_cons]
        refine .cons ⟨glB_ok h3 ok.ok.sc, okN_d h5, .inl g1⟩ ?_ (fun a oe cls d pn hz hf => ?_) hrest
        · cases n with
          | none =>
            cases i with
            | none => trivial
            | some i => cases h7
          | some m =>
            cases i with
            | none => cases h7
            | some i =>
              obtain ⟨k1, k2⟩ := ba h7
              exact ⟨by rw [ok.ok.N]; exact of_decide_eq_true k1, by show X.env.scope.names.lookup m = _; rw [ok.ok.sc]; exact of_decide_eq_true k2⟩
        · cases i with
          | none =>
            refine ⟨fun pins s1 σ H D I ⟨x, hcls, hd, q⟩ => ?_⟩
            have hs := chkS_ok b (XS.suite (i := none) (x := x) (D := c.dy) (a := a) (pn := pn) (d := d) ok hz hf hcls hd (fun z => absurd rfl z)) h9
            exact (show PSs _ _ _ from hs).run pins s1 σ H D I q
          | some i =>
            refine ⟨fun pins s1 σ H D I ⟨x, hcls, hd, q⟩ => ?_⟩
            have hs := chkS_ok b (XS.suite (i := some i) (x := x) (D := .exc a d x.pay c.dy) (a := a) (pn := pn) ok hz hf hcls hd (fun _ => ⟨rfl, rfl, rfl⟩)) h9
            exact (show PSs _ _ _ from hs).run pins s1 σ H D I q
      · rename_i hg
        obtain ⟨h1, h2⟩ := ba h
        obtain ⟨h3, h4⟩ := ba h2
        obtain ⟨h5, h6⟩ := ba h4
        obtain ⟨h7, h8⟩ := ba h6
        obtain ⟨h9, h10⟩ := ba h8
        obtain rfl := of_decide_eq_true h1
        obtain ⟨g1, g2, _⟩ := ok.ok.gl _ _ _ hg
        have hrest : HdsG X hds ((evS T s.xs rest r).h.map (hzT c)) := chkS_ok rest ok h10
        show HdsG X _ (((evS T s.xs (.hcons j i b rest) r).h).map (hzT c))
        simp only [evS, hg, List.map_cons]
        refine .cons ⟨glB_ok h3 ok.ok.sc, okN_d h5, .inl g1⟩ ?_ (fun a oe cls d pn hz hf => ?_) hrest
        · cases n with
          | none =>
            cases i with
            | none => trivial
            | some i => cases h7
          | some m =>
            cases i with
            | none => cases h7
            | some i =>
              obtain ⟨k1, k2⟩ := ba h7
              exact ⟨by rw [ok.ok.N]; exact of_decide_eq_true k1, by show X.env.scope.names.lookup m = _; rw [ok.ok.sc]; exact of_decide_eq_true k2⟩
        · cases i with
          | none =>
            refine ⟨fun pins s1 σ H D I ⟨x, hcls, hd, q⟩ => ?_⟩
            have hs := chkS_ok b (XS.suite (i := none) (x := x) (D := c.dy) (a := a) (pn := pn) (d := d) ok hz hf hcls hd (fun z => absurd rfl z)) h9
            exact (show PSs _ _ _ from hs).run pins s1 σ H D I q
          | some i =>
            refine ⟨fun pins s1 σ H D I ⟨x, hcls, hd, q⟩ => ?_⟩
            have hs := chkS_ok b (XS.suite (i := some i) (x := x) (D := .exc a d x.pay c.dy) (a := a) (pn := pn) ok hz hf hcls hd (fun _ => ⟨rfl, rfl, rfl⟩)) h9
            exact (show PSs _ _ _ from hs).run pins s1 σ H D I q
      · cases h
    · cases h
  | .par i j a, r, s, X, c, W, y, ok, h => by
    unfold chkS at h
    split at h
    · obtain ⟨h1, h2⟩ := ba h
      obtain ⟨h3, h4⟩ := ba h2
      obtain ⟨h5, h6⟩ := ba h4
      obtain ⟨h7, h8⟩ := ba h6
      obtain ⟨h9, h10⟩ := ba h8
      have hp := h3
      unfold parB at h3
      obtain ⟨k1, h3⟩ := ba h3
      obtain ⟨k2, h3⟩ := ba h3
      obtain ⟨k3, h3⟩ := ba h3
      refine (ps_par (ok.ok.cm h1) (by rw [ok.ok.N]; exact ok.ok.nd) (i := i) (j := j) (by rw [ok.ok.N]; exact of_decide_eq_true h5) (by rw [ok.ok.N]; exact of_decide_eq_true h7) (by simpa using h9) (by rw [ok.ok.sc]; exact of_decide_eq_true k2) (by rw [ok.ok.sc]; exact of_decide_eq_true k3) (chk_ok a ok.ok h10) (par_ok ok.ok.sc hp) rfl).weak
        fun D σ H ⟨ρ, G, l, R, hl, q⟩ => ?_
      refine ⟨ρ, G, l, R, hl, RQ.of_st hl q fun ρ1 H1 G1 zs vs e1 R1 l1 r1 q1 => ?_⟩
      split at q1
      · obtain ⟨v, w, rfl, rv, rw'⟩ := r1.two
        exact ⟨v, w, rfl, q1 ρ1 H1 _ (Ext.refl _ _) R1 ((l1.set rv).set rw')⟩
      · exact q1.elim
    · cases h
end
end Zy
end
section
set_option Elab.async false
set_option linter.all false
set_option maxRecDepth 100000
set_option maxHeartbeats 4000000
set_option autoImplicit false
/-! defs -/
namespace Zy
open PySem PySem.Spec PyProof.Rows L2

structure Fd where
  d : He.DefD
  N : List Str
  np : Nat
  star : Bool := false
  act : Bool := false
  lm : Bool := false
  body : St
def Fd.ps (f : Fd) : List Str := f.N.take f.np
def Fd.pv (f : Fd) : Str := f.N.getD f.np ""
def Fd.sx (f : Fd) : Sx := { sc := f.d.scope, N := f.N, act := if f.act then some 0 else none, lm := f.lm }
def fdB (T : Tb) (f : Fd) : Bool := C8.scC f.N (if f.star then f.ps ++ [f.pv] else f.ps) f.d.scope && (decide (f.ps.length = f.np) && (decide (f.d.dfl.length = 0) && (decide (f.d.kwd.length = 0) && (chkS T f.body f.sx (.ss f.d.body) &&
  (if f.act then !f.star && (decide (f.np = 1) && decide (0 < f.N.length)) else true)))))
/-- the end of a body, as the def's result -/
def S.fin : S → R Z
  | .rt z G => .ok z G
  | .nx _ G => .ok .non G
  | .exc x _ G => .exc x G
  | _ => .bad
def stL (n : Nat) (zs : List Z) : L := zs.map some ++ List.replicate (n - zs.length) none
def dFun (T : Tb) (f : Fd) (r : Rt) : List Z → GH → R Z := fun zs G =>
  if f.star then (if f.np ≤ zs.length ∧ zs.length ≤ sizeLine then ((evS T none f.body r).s (stL f.N.length (zs.take f.np ++ [.tup (zs.drop f.np)])) G).fin else .bad)
  else (if zs.length = f.np then ((evS T none f.body r).s (stL f.N.length zs) G).fin else .bad)
def dFunA (T : Tb) (f : Fd) (r : Rt) : GH → R Z := fun G => ((evS T none f.body r).s (stL f.N.length [.ex]) G).fin
structure Cd where
  cf : CF
  lf : Nat → (GH → R Z) → GH → R Z
def badC : Cd := ⟨fun _ _ _ => .bad, fun _ _ _ => .bad⟩
section
variable (T : Tb) (sub : XC → XC → Option Bool) (fs : List Fd)
def mkRt (d : Nat) (hi lo : Cd) : Rt := { cf := hi.cf, lf := hi.lf, low := lo.cf, sub := sub, lv := d }
def stepD (d : Nat) (hi lo : Cd) : Cd where
  cf := fun k => match fs[k]? with
    | some f => if f.act then fun _ _ => .bad else dFun T f (mkRt sub d hi lo)
    | none => fun _ _ => .bad
  lf := fun k th => match fs[k]? with
    | some f => if f.act then dFunA T f { mkRt sub d hi lo with th := th } else fun _ => .bad
    | none => fun _ => .bad
/-- what the defs do, calls nested at most d deep -/
def callD : Nat → Cd
  | 0 => badC
  | 1 => badC
  | 2 => badC
  | d + 3 => stepD T sub fs (d + 2) (callD (d + 2)) (callD d)
end
/-! ### soundness -/
def GlS (c : C) (X : Cx) (x : Str) : GK → Prop
  | .fn k => X.mg x = some (.ref (c.fa k)) ∧ PySem.W.keepIn X.K (.ref (c.fa k)) = true
  | .lam k => X.mg x = some (.ref (c.fa k)) ∧ PySem.W.keepIn X.K (.ref (c.fa k)) = true
  | g => GlOk { cf := fun _ _ _ => .bad } c false X x g
structure CxIs (X : Cx) (P : Program) (w : World) (K : PySem.W.Frag) (mg : Str → Option Value) (base : Heap) : Prop where
  prog : X.prog = P
  w : X.w = w
  K : X.K = K
  mg : X.mg = mg
  base : X.base = base
/-- what stands of the text -/
structure Tx (T : Tb) (sub : XC → XC → Option Bool) (fs : List Fd) (c : C) (P : Program) (w : World) (K : PySem.W.Frag) (mg : Str → Option Value) (base : Heap) : Prop where
  hK : c.K = K
  gl : ∀ D X, CxIs X P w K mg base → ∀ (j : Nat) x g, T.gl[j]? = some (x, g) → GlS (c.at_ D) X x g
  isI : mg "isinstance" = none
  sub : ∀ a b t, sub a b = some t → PySem.W.exmOne K (clsV c a) (clsV c b) = some t ∧ ∀ j, a = .own j → PySem.W.kitOne K (.ref (c.ca j)) (clsV c b) = some t ∧ ExcC K (c.ca j)
  fd : ∀ (k : Nat) f, fs[k]? = some f → ∃ fd, FunD K f.d.name f.d.qual f.d.params f.d.body f.d.scope [] [] (c.fa k) fd
  lm : ∀ (k : Nat) f, fs[k]? = some f → f.lm = true → ∀ oc od fd osl, K.lookup (c.fa k) = some ⟨oc, od, .func fd, osl⟩ → ∃ cd P, fd.code = .ref cd ∧ LamX.TabB base mg cd P ∧ (P, f.d.qual ++ ".<locals>." ++ "<lambda>") ∈ c.T ∧ ∀ p ∈ c.T, p.1 = P → p.2 = f.d.qual ++ ".<locals>." ++ "<lambda>"
/-- how a def binds -/
def Bd (f : Fd) : Prop := ∀ (kV doc pm : Value) (an : Option Addr) (cdv ct : Value),
  if f.star then ∀ us rest : List Value, us.length = f.np → bindArgs (PySem.W.fnOf f.d.name f.d.qual f.d.params f.d.body f.d.scope .none kV doc pm an cdv ct) ⟨us ++ rest, []⟩ = (newTuple rest >>= fun t => pure (f.ps.zip us ++ [(f.pv, t)]))
  else ∀ us : List Value, us.length = f.np → bindArgs (PySem.W.fnOf f.d.name f.d.qual f.d.params f.d.body f.d.scope .none kV doc pm an cdv ct) ⟨us, []⟩ = pure (f.ps.zip us)
section
variable {T : Tb} {sub : XC → XC → Option Bool} {fs : List Fd} {c : C} {P : Program} {w : World} {K : PySem.W.Frag} {mg : Str → Option Value} {base : Heap}
theorem stL_rel {ρ : List Addr} {H : Hp} {n : Nat} {zs : List Z} {vs : List V} (N : List Str) (hn : N.length = n) (r : RZs c ρ H zs vs) : RL c ρ H (stL n zs) (L2.start N vs) := by
  refine ⟨by unfold stL L2.start; simp [r.length, hn], fun i z e => ?_⟩
  unfold stL at e
  by_cases hi : i < zs.length
  · rw [List.getElem?_append_left (by simpa using hi), List.getElem?_map] at e
    cases q : zs[i]? with
    | none => rw [q] at e; cases e
    | some y =>
      rw [q] at e; cases e
      obtain ⟨v, h1, h2⟩ := r.get q
      refine ⟨v, ?_, .inl h2⟩
      unfold L2.start
      rw [List.getElem?_append_left (by rw [List.length_map, ← r.length]; exact hi), List.getElem?_map, h1]; rfl
  · rw [List.getElem?_append_right (by simpa using hi), List.getElem?_replicate] at e
    split at e <;> cases e
theorem fin_rs {ρ : List Addr} {H : Hp} {r : S} {Q : VK} {E : XK} (q : RQ c (RZ c) ρ H r.fin Q E) : RS c ρ H r { nx := fun _ H' => Q .non H', rt := Q } (fun cls d _ H => E cls d H) := by
  cases r with
  | nx l G => exact fun ρ' H' σ' e R hl => q ρ' H' .non e R rz_non
  | rt z G => exact fun ρ' H' v e R rz => q ρ' H' v e R rz
  | exc x l G => exact fun ρ' H' σ' cls d e R hl rx => q ρ' H' cls d e R rx
  | _ => exact q.elim
/-- the place of a def's body -/
theorem body_ok (tx : Tx T sub fs c P w K mg base) {f : Fd} {k d : Nat} (hk : fs[k]? = some f) {hi lo : Cd} {th : GH → R Z}
    (IH : (∀ k D, FnR P w K mg base (L2.CX P w) d (c.fa k) (spR (c.at_ D) (hi.cf k))) ∧ ∀ k, LamR P w K mg base c d (c.fa k) (hi.lf k)) (IL : ∀ d', d = d' + 2 → ∀ k D, FnR P w K mg base (L2.CX P w) d' (c.fa k) (spR (c.at_ D) (lo.cf k))) (h2 : 2 ≤ d)
    (hB : fdB T f = true) {oc kV doc pm cdv ct : Value} {od an : Option Addr} {osl : Array (Option Value)} (lk : K.lookup (c.fa k) = some ⟨oc, od, .func (PySem.W.fnOf f.d.name f.d.qual f.d.params f.d.body f.d.scope .none kV doc pm an cdv ct), osl⟩) (D : Dy) {A : Around} {outer : List Env} {s : Shared} {H : Hp} {E : XK} (hr : Room d (A.deeper (envOfC f.d.qual f.d.scope s.heap.objs.size (c.fa k) cdv)))
    (hact : f.act = true → ∀ a p1 p2 W' pn xe, f.N[0]? = some a → Vis f.d.scope a → okN a = true → Takes ((cxOf (L2.CX P w) P w K mg base f.N f.d.qual f.d.scope (c.fa k) cdv A outer s H E).tr pn xe) W' → PE ((cxOf (L2.CX P w) P w K mg base f.N f.d.qual f.d.scope (c.fa k) cdv A outer s H E).tr pn xe) (.Call (.Name a p1) [] [] p2) (tE (c.at_ D) W' (dAct 0 th))) :
    PSs (cxOf (L2.CX P w) P w K mg base f.N f.d.qual f.d.scope (c.fa k) cdv A outer s H E) f.d.body (tS (c.at_ D) (fun cls d _ H => E cls d H) (evS T none f.body { mkRt sub d hi lo with th := th }).s) := by
  unfold fdB at hB
  obtain ⟨b1, b2⟩ := Zy.ba hB
  obtain ⟨b3, b4⟩ := Zy.ba b2
  obtain ⟨b5, b6⟩ := Zy.ba b4
  obtain ⟨b7, b8⟩ := Zy.ba b6
  obtain ⟨b9, b10⟩ := Zy.ba b8
  have S := C8.fnScope_by b1
  have hgl : ∀ X, CxIs X P w K mg base → ∀ (j : Nat) x g, T.gl[j]? = some (x, g) → GlOk { mkRt sub d hi lo with th := th } (c.at_ D) true X x g := fun X hX j x g hj => by
    have q := tx.gl D X hX j x g hj
    obtain ⟨e1, e2, e3, e4, e5⟩ := hX
    subst e1 e2 e3 e4 e5
    cases g with
    | fn k => exact ⟨q.1, q.2, fun _ => ⟨IH.1 k D, fun d' hd => IL d' hd k D⟩⟩
    | lam k => exact ⟨q.1, q.2, fun _ D' A outer s H f th ρ G Q E h1 h2 h3 h4 h5 h6 => IH.2 k D' A outer s H f th ρ G Q E h1 h2 h3 h4 h5 h6⟩
    | val z => exact q
    | ty n => exact q
    | bf b => exact q
    | ex k => exact q
    | dct es => exact q
    | rng => exact q
    | exf k f => exact q
  have tk0 : Takes (cxOf (L2.CX P w) P w K mg base f.N f.d.qual f.d.scope (c.fa k) cdv A outer s H E) (fun cls d _ H => E cls d H) := takes_of rfl rfl rfl rfl
  have hact' : ∀ i, f.sx.act = some i → f.act = true ∧ i = 0 := fun i hi => by
    cases ha : f.act with
    | false =>
      have hi' : (if f.act then some 0 else none) = some i := hi
      rw [ha] at hi'; cases hi'
    | true =>
      have hi' : (if f.act then some 0 else none) = some i := hi
      rw [ha] at hi'; cases hi'; exact ⟨rfl, rfl⟩
  refine (show PSs _ _ _ from chkS_ok (T := T) (s := f.sx) (r := { mkRt sub d hi lo with th := th }) f.body (y := .ss f.d.body) ?_ b9)
  exact {
    ok := {
      hK := tx.hK
      hu := by
        have := hr.un
        show (A.deeper _).units + 60 < cLine
        omega
      gd := hr.gd
      sc := rfl
      N := rfl
      nd := S.nd
      cm := fun _ => rfl
      tk := tk0
      gl := hgl _ ⟨rfl, rfl, rfl, rfl, rfl⟩
      act := fun i hi a p1 p2 ha hv hn => by
        obtain ⟨h1, rfl⟩ := hact' i hi
        exact hact h1 a p1 p2 _ [] _ ha hv hn tk0
      exs := fun i x k h => nomatch h
      exf := fun i x k n h => nomatch h
      xpay := fun i x h => nomatch h
      room := fun _ => hr
      lmk := fun hl => by
        obtain ⟨cd, PP, g1, g2, g3, g4⟩ := tx.lm k f hk hl _ _ _ _ lk
        exact ⟨h2, cd, PP, g1, g2, g3, g4⟩
      isI := tx.isI
      sub := fun a b t h => by
        obtain ⟨h1, h2⟩ := tx.sub a b t h
        rw [clsV_at, clsV_at]
        exact ⟨h1, h2⟩ }
    stk := rfl
    fr := rfl
    pw := fun _ => passes_of rfl
    fn := fun _ => rfl
    xs0 := fun _ => rfl
    two := fun _ => h2
    act := fun i hi a p1 p2 W' pn xe ha hv hn tk => by
      obtain ⟨h1, rfl⟩ := hact' i hi
      exact hact h1 a p1 p2 W' pn xe ha hv hn tk }
theorem callD_ok (tx : Tx T sub fs c P w K mg base) (hB : ∀ f ∈ fs, fdB T f = true) (hb : ∀ f ∈ fs, Bd f) : ∀ d, (∀ k D, FnR P w K mg base (L2.CX P w) d (c.fa k) (spR (c.at_ D) ((callD T sub fs d).cf k))) ∧ ∀ k, LamR P w K mg base c d (c.fa k) ((callD T sub fs d).lf k)
  | 0 => ⟨fun k D => badF, fun k => badL⟩
  | 1 => ⟨fun k D => badF, fun k => badL⟩
  | 2 => ⟨fun k D => badF, fun k => badL⟩
  | d + 3 => by
    have IH := callD_ok tx hB hb (d + 2)
    have IL := callD_ok tx hB hb d
    have IL' : ∀ d', d + 2 = d' + 2 → ∀ k D, FnR P w K mg base (L2.CX P w) d' (c.fa k) (spR (c.at_ D) ((callD T sub fs d).cf k)) := fun d' h k D => by
      obtain rfl : d' = d := by omega
      exact IL.1 k D
    refine ⟨fun k D => ?_, fun k => ?_⟩
    · show FnR P w K mg base (L2.CX P w) (d + 3) (c.fa k) (spR (c.at_ D) ((stepD T sub fs (d + 2) (callD T sub fs (d + 2)) (callD T sub fs d)).cf k))
      unfold stepD
      simp only
      cases hk : fs[k]? with
      | none => exact badF
      | some f =>
        simp only
        split
        · exact badF
        · rename_i hact
          have hm : f ∈ fs := List.mem_of_getElem? hk
          have hBf := hB f hm
          have hbf := hb f hm
          have hBf' := hBf
          unfold fdB at hBf'
          obtain ⟨b1, b2⟩ := Zy.ba hBf'
          obtain ⟨b3, b4⟩ := Zy.ba b2
          have S := C8.fnScope_by b1
          have e3 := of_decide_eq_true b3
          obtain ⟨fd, F⟩ := tx.fd k f hk
          obtain ⟨oc, od, dV, kV, doc, pm, an, cdv, ct, osl, rfl, lk, hcd, hD, _⟩ := F.ex
          obtain rfl : dV = .none := by
            rcases hD with ⟨_, h⟩ | ⟨h, _⟩
            · exact h
            · exact absurd rfl h
          have bd := hbf kV doc pm an cdv ct
          have hact0 : f.act = false := by simpa using hact
          cases hst : f.star with
          | false =>
            rw [hst] at bd S
            intro A outer s H us vs Q E hr e0 rv ⟨ρ, G, zs, R, rz, q⟩
            unfold dFun at q
            rw [hst] at q
            simp only [Bool.false_eq_true, if_false] at q
            split at q
            case isFalse => exact q.elim
            rename_i hl
            have hlv : vs.length = f.ps.length := by rw [← rz.length, hl, e3]
            exact def_run lk hcd S hr e0 (.of_eq (bd us (by rw [← rv.length, hlv, e3]))) hlv rv ⟨_, body_ok tx hk (th := fun _ => .bad) IH IL' (by omega) hBf lk D (hr.deeper _) (fun h => by rw [hact0] at h; cases h), ρ, G, stL f.N.length zs, R, stL_rel f.N rfl rz, fin_rs q⟩
          | true =>
            rw [hst] at bd S
            intro A outer s H us vs Q E hr e0 rv ⟨ρ, G, zs, R, rz, q⟩
            unfold dFun at q
            rw [hst] at q
            simp only [if_true] at q
            split at q
            case isFalse => exact q.elim
            rename_i hl
            have hlen := rz.length
            refine star_run lk hcd S StX.cxUp (fun us rest hl => bd us rest (by rw [hl, e3])) (xs := vs.take f.np) (ys := vs.drop f.np) hr e0 (by rw [List.take_append_drop]; exact rv) (by rw [List.length_take, e3]; omega) (by rw [List.length_drop]; omega) fun s2 p hp hr2 => ?_
            obtain ⟨R1, e1⟩ := R.aside (o := .tup (vs.drop f.np)) hp
            refine ⟨_, body_ok tx hk (th := fun _ => .bad) IH IL' (by omega) hBf lk D hr2 (fun h => by rw [hact0] at h; cases h), ρ, G, stL f.N.length (zs.take f.np ++ [.tup (zs.drop f.np)]), R1, stL_rel f.N rfl (((rz.take f.np).mono e1).append (.cons ?_ .nil)), fin_rs ?_⟩
            · unfold RZ
              exact ⟨p, vs.drop f.np, rfl, .inl (.inl upd_same), (rz.drop f.np).mono e1⟩
            · have mv : ∀ r : Zy.R Z, RQ (c.at_ D) (RZ (c.at_ D)) ρ H r Q E → RQ (c.at_ D) (RZ (c.at_ D)) ρ (L2.upd H p (.tup (vs.drop f.np))) r Q E := fun r q => by
                cases r with
                | bad => exact q
                | ok z G' => exact fun ρ' H' v e => q ρ' H' v (e1.trans e)
                | exc x G' => exact fun ρ' H' cl d e => q ρ' H' cl d (e1.trans e)
              exact mv _ q
    · show LamR P w K mg base c (d + 3) (c.fa k) ((stepD T sub fs (d + 2) (callD T sub fs (d + 2)) (callD T sub fs d)).lf k)
      unfold stepD
      simp only
      cases hk : fs[k]? with
      | none => exact badL
      | some f =>
        simp only
        cases hact : f.act with
        | false => simp only [Bool.false_eq_true, if_false]; exact badL
        | true =>
          simp only [if_true]
          have hm : f ∈ fs := List.mem_of_getElem? hk
          have hBf := hB f hm
          have hbf := hb f hm
          have hBf' := hBf
          unfold fdB at hBf'
          obtain ⟨b1, b2⟩ := Zy.ba hBf'
          obtain ⟨b3, b4⟩ := Zy.ba b2
          obtain ⟨b5, b6⟩ := Zy.ba b4
          obtain ⟨b7, b8⟩ := Zy.ba b6
          obtain ⟨b9, b10⟩ := Zy.ba b8
          rw [hact] at b10
          simp only [if_true] at b10
          obtain ⟨b11, b12⟩ := Zy.ba b10
          obtain ⟨b13, b14⟩ := Zy.ba b12
          have hst : f.star = false := by simpa using b11
          have e4 := of_decide_eq_true b13
          have e5 := of_decide_eq_true b14
          have S := C8.fnScope_by b1
          have e3 := of_decide_eq_true b3
          rw [hst] at S
          obtain ⟨fd, F⟩ := tx.fd k f hk
          obtain ⟨oc, od, dV, kV, doc, pm, an, cdv, ct, osl, rfl, lk, hcd, hD, _⟩ := F.ex
          obtain rfl : dV = .none := by
            rcases hD with ⟨_, h⟩ | ⟨h, _⟩
            · exact h
            · exact absurd rfl h
          have bd := hbf kV doc pm an cdv ct
          rw [hst] at bd
          intro D A outer s H fl th ρ G Q E hr e0 hxa R hact2 q
          refine LamX.run_ofS (N := f.N) (ps := f.ps) (us := [.ref fl]) (vs := [.ref fl]) lk hcd S hr.toRoom e0 (.of_eq (bd [.ref fl] (by rw [e4]; rfl))) (.cons rfl .nil) (by rw [e3, e4]; rfl) fun hr0 => ?_
          have hr' : Room (d + 2) _ := ⟨hr0, hr.gd⟩
          refine ⟨_, body_ok tx hk (th := th) IH IL' (by omega) hBf lk D hr' (fun _ a p1 p2 W' pn xe ha hv hn tk => hact2 f.N f.d.qual f.d.scope cdv E W' pn xe a 0 p1 p2 ha hv hn tk), ρ, G, stL f.N.length [.ex], R, ?_, fin_rs q⟩
          refine ⟨by unfold stL L2.start; simp, fun i z e => ?_⟩
          unfold stL at e
          cases i with
          | zero =>
            have e' : some (some Z.ex) = some (some z) := e
            cases e'
            exact ⟨.ref fl, rfl, .inr ⟨rfl, by show V.ref fl = .ref D.xa; rw [hxa]⟩⟩
          | succ i =>
            have e' : (List.replicate (f.N.length - 1) (none : Option Z))[i]? = some (some z) := e
            rw [List.getElem?_replicate] at e'
            split at e' <;> cases e'
end
end Zy
end
section
set_option Elab.async false
set_option linter.all false
set_option maxRecDepth 100000
set_option maxHeartbeats 4000000
set_option autoImplicit false
/-! the text's facts, the law's end -/
namespace Zy
open PySem PySem.Spec PyProof.Rows L2

/-! ### what is read of the written part -/
inductive Bx where
  | val | idx | ovf | ari | lkp | run | typ | exc
def Bx.bm : Bx → List Value
  | .val => [.type "ValueError", .type "Exception", .type "BaseException", .type "object"]
  | .idx => [.type "IndexError", .type "LookupError", .type "Exception", .type "BaseException", .type "object"]
  | .ovf => [.type "OverflowError", .type "ArithmeticError", .type "Exception", .type "BaseException", .type "object"]
  | .ari => [.type "ArithmeticError", .type "Exception", .type "BaseException", .type "object"]
  | .lkp => [.type "LookupError", .type "Exception", .type "BaseException", .type "object"]
  | .run => [.type "RuntimeError", .type "Exception", .type "BaseException", .type "object"]
  | .typ => [.type "TypeError", .type "Exception", .type "BaseException", .type "object"]
  | .exc => [.type "Exception", .type "BaseException", .type "object"]
def Bx.new : Bx → String
  | .val => "ValueError.__new__"
  | .idx => "IndexError.__new__"
  | .ovf => "OverflowError.__new__"
  | .ari => "ArithmeticError.__new__"
  | .lkp => "LookupError.__new__"
  | .run => "RuntimeError.__new__"
  | .typ => "TypeError.__new__"
  | .exc => "Exception.__new__"
theorem Bx.facts (b : Bx) : ∃ B i, ExcBaseFacts B b.new i b.bm := by
  cases b with
  | val => exact ⟨_, _, PySem.F.excBase_ValueError⟩
  | idx => exact ⟨_, _, PySem.F.excBase_IndexError⟩
  | ovf => exact ⟨_, _, PySem.F.excBase_OverflowError⟩
  | ari => exact ⟨_, _, PySem.F.excBase_ArithmeticError⟩
  | lkp => exact ⟨_, _, PySem.F.excBase_LookupError⟩
  | run => exact ⟨_, _, PySem.F.excBase_RuntimeError⟩
  | typ => exact ⟨_, _, PySem.F.excBase_TypeError⟩
  | exc => exact ⟨_, _, PySem.F.excBase_Exception⟩
/-- the __init__ of an own exception that keeps a value -/
structure Ini where
  k : Nat
  d : He.DefD
  N : List Str
  f : Str
structure TX where
  T : Tb
  fs : List Fd
  cl : List (Str × Bx)
  subL : List (XC × XC × Bool)
  ds : List (Str × List Str)
  ini : List Ini := []
def BdI (q : Ini) : Prop := ∀ (kV doc pm : Value) (an : Option Addr) (cdv ct : Value) (us : List Value), us.length = q.N.length → bindArgs (PySem.W.fnOf q.d.name q.d.qual q.d.params q.d.body q.d.scope .none kV doc pm an cdv ct) ⟨us, []⟩ = pure (q.N.zip us)
theorem Bx.store (b : Bx) (h : b ≠ .exc) : ∃ B i, ExcBaseFacts B b.new i b.bm ∧ StoreFacts B b.bm "object.__setattr__" "object" := by
  cases b with
  | val => exact ⟨_, _, PySem.F.excBase_ValueError, PySem.F.store_ValueError⟩
  | idx => exact ⟨_, _, PySem.F.excBase_IndexError, PySem.F.store_IndexError⟩
  | ovf => exact ⟨_, _, PySem.F.excBase_OverflowError, PySem.F.store_OverflowError⟩
  | ari => exact ⟨_, _, PySem.F.excBase_ArithmeticError, PySem.F.store_ArithmeticError⟩
  | lkp => exact ⟨_, _, PySem.F.excBase_LookupError, PySem.F.store_LookupError⟩
  | run => exact ⟨_, _, PySem.F.excBase_RuntimeError, PySem.F.store_RuntimeError⟩
  | typ => exact ⟨_, _, PySem.F.excBase_TypeError, PySem.F.store_TypeError⟩
  | exc => exact absurd rfl h
def Bx.isExc : Bx → Bool
  | .exc => true
  | _ => false
/-- the class at C keeps a value -/
def oexB (K : PySem.W.Frag) (C : Addr) (b : Bx) : Bool := !b.isExc && (PySem.W.excInitIn K C b.bm b.new && (PySem.W.excOver K C b.bm && (PySem.W.hasDictIn K C && (decide (PySem.W.findIn K (.ref C) "__setattr__" = some (some (.builtin "object.__setattr__"))) &&
  (decide (PySem.W.subIn K (.ref C) (.type "BaseException") = some true) && (decide (PySem.W.typeIn K (.ref C) = some (.type "type")) && PySem.W.keepIn K (.ref C)))))))
theorem oexB_ok {K : PySem.W.Frag} {C : Addr} {b : Bx} (h : oexB K C b = true) : OexG K C := by
  unfold oexB at h
  obtain ⟨h1, h⟩ := Zy.ba h
  obtain ⟨h2, h⟩ := Zy.ba h
  obtain ⟨h3, h⟩ := Zy.ba h
  obtain ⟨h4, h⟩ := Zy.ba h
  obtain ⟨h5, h⟩ := Zy.ba h
  obtain ⟨h6, h⟩ := Zy.ba h
  obtain ⟨h7, h8⟩ := Zy.ba h
  obtain ⟨B, i, F, S⟩ := b.store (fun e => by rw [e] at h1; cases h1)
  exact ⟨⟨B, _, i, _, F, S, h2, h3⟩, h4, of_decide_eq_true h5, of_decide_eq_true h6, of_decide_eq_true h7, h8⟩
def iniK (K : PySem.W.Frag) (C : Addr) (k : Nat) (f : Str) (q : Ini) : Bool := decide (q.k = k) && (decide (q.f = f) && ((decide (q.d.dfl.length = 0) && decide (q.d.kwd.length = 0)) && (iniB q.N f q.d.scope q.d.body &&
  (decide (PySem.W.findIn K (.ref C) "__init__" = some (some (.ref (He.fAd K q.d.at_)))) && decide (PySem.W.typeIn K (.ref (He.fAd K q.d.at_)) = some (.type "function"))))))
def TX.sub (t : TX) (a b : XC) : Option Bool := (t.subL.find? fun q => decide (q.1 = a) && decide (q.2.1 = b)).map (·.2.2)
def TX.at_ (t : TX) (k : Nat) : Str × Option Str := match t.fs[k]? with
  | some f => f.d.at_
  | none => ("", none)
def TX.cn (t : TX) (k : Nat) : Str := match t.cl[k]? with
  | some q => q.1
  | none => ""
def TX.lms (t : TX) : List Fd := t.fs.filter (·.lm)
def TX.c (t : TX) (K : PySem.W.Frag) : C where
  K := K
  fa := fun k => He.fAd K (t.at_ k)
  ca := fun k => He.ga K (t.cn k)
  T := t.lms.map fun f => ((He.cT K f.d.at_).2, f.d.qual ++ ".<locals>." ++ "<lambda>")
mutual
/-- the value u of the written part is z -/
def zOk (c : C) : Z → Value → Bool
  | .non, .none => true
  | .bl b, .bool d => b == d
  | .int i, .int j _ => decide (i = j)
  | .str x, .str y _ => decide (y.cps.toList = x) && decide (x.length ≤ 10000)
  | .tup xs, .ref a => (match c.K.lookup a with
    | some ⟨.type n, _, .seq its _, _⟩ => decide (n = "tuple") && (decide (its.size ≤ sizeLine) && zsOk c xs its.toList)
    | _ => false)
  | .rol xs, .ref a => (match c.K.lookup a with
    | some ⟨.type n, none, .seq its _, _⟩ => decide (n = "list") && (decide (its.size ≤ sizeLine) && zsOk c xs its.toList)
    | _ => false)
  | .ty n, .type m => decide (n = m)
  | _, _ => false
def zsOk (c : C) : List Z → List Value → Bool
  | [], [] => true
  | z :: zs, u :: us => zOk c z u && zsOk c zs us
  | _, _ => false
end
def eqO (a b : Option (Option Value)) : Bool := decide (a = b)
def glK (t : TX) (K : PySem.W.Frag) (x : Str) : GK → Bool
  | .fn k => eqO (PySem.W.nsIn K mainGlobals x) (some (some (.ref ((t.c K).fa k)))) && PySem.W.keepIn K (.ref ((t.c K).fa k))
  | .lam k => eqO (PySem.W.nsIn K mainGlobals x) (some (some (.ref ((t.c K).fa k)))) && PySem.W.keepIn K (.ref ((t.c K).fa k))
  | .val z => (match PySem.W.nsIn K mainGlobals x with
    | some (some u) => zOk (t.c K) z u
    | _ => false)
  | .ty n => eqO (PySem.W.nsIn K mainGlobals x) (some none) && decide (bootBuiltins x = some (.type n))
  | .bf b => eqO (PySem.W.nsIn K mainGlobals x) (some none) && decide (bootBuiltins x = some (.builtin (bnId b)))
  | .ex k => (match t.cl[k]? with
    | some q => eqO (PySem.W.nsIn K mainGlobals x) (some (some (.ref ((t.c K).ca k)))) && (PySem.W.keepIn K (.ref ((t.c K).ca k)) && (PySem.W.excIn K ((t.c K).ca k) q.2.bm q.2.new && (decide (PySem.W.subIn K (.ref ((t.c K).ca k)) (.type "BaseException") = some true) && decide (PySem.W.typeIn K (.ref ((t.c K).ca k)) = some (.type "type")))))
    | none => false)
  | .dct es => eqO (PySem.W.nsIn K mainGlobals x) (some (some (.ref (He.ga K x)))) && ((t.ds.any fun q => decide (q.1 = x)) && es.all fun q => match PySem.W.nsIn K (He.ga K x) ⟨q.1.toArray⟩ with
    | some (some u) => zOk (t.c K) q.2 u
    | _ => false)
  | .rng => eqO (PySem.W.nsIn K mainGlobals x) (some none)
  | .exf k f => (match t.cl[k]? with
    | some q => eqO (PySem.W.nsIn K mainGlobals x) (some (some (.ref ((t.c K).ca k)))) && (PySem.W.keepIn K (.ref ((t.c K).ca k)) && (oexB K ((t.c K).ca k) q.2 && (decide (PySem.W.findIn K (.ref ((t.c K).ca k)) f = some none) && (xfB K ((t.c K).ca k) && t.ini.any (iniK K ((t.c K).ca k) k f)))))
    | none => false)
def excCB (K : PySem.W.Frag) (D : Addr) : Bool := eqO (PySem.W.findIn K (.ref D) "__getattribute__") (some (some (.builtin "BaseException.__getattribute__"))) && (eqO (PySem.W.findIn K (.ref D) "__getattr__") (some none) && (decide (PySem.W.subIn K (.ref D) (.type "BaseException") = some true) && (PySem.W.hasDictIn K D &&
  (eqO (PySem.W.findIn K (.ref D) "__class__") (some (some (.builtin "object.__class__"))) && (eqO (PySem.W.specialIn K (.builtin "object.__class__") "__get__") (some (some (.builtin "getset_descriptor.__get__"))) && (decide (PySem.W.takesIn K (.builtin "object.__class__") = some true) && decide (PySem.W.mroIn K D (.type "object") = some true)))))))
def subK (t : TX) (K : PySem.W.Frag) (q : XC × XC × Bool) : Bool := decide (PySem.W.exmOne K (clsV (t.c K) q.1) (clsV (t.c K) q.2.1) = some q.2.2) && (match q.1 with
  | .own j => decide (PySem.W.kitOne K (.ref ((t.c K).ca j)) (clsV (t.c K) q.2.1) = some q.2.2) && excCB K ((t.c K).ca j)
  | _ => true)
def exB (t : TX) (K : PySem.W.Frag) : Bool := (t.T.gl.all fun q => glK t K q.1 q.2) && (eqO (PySem.W.nsIn K mainGlobals "isinstance") (some none) && (t.subL.all (subK t K) && ((t.c K).T.all fun p => (t.c K).T.all fun q => !decide (p.1 = q.1) || decide (p.2 = q.2))))
def TX.tabs (t : TX) : List He.Tab := t.ds.map fun q => ((fun K => He.ga K q.1), q.2)
def TX.tf (t : TX) : List He.Defn := t.lms.map (·.d.at_)
def TX.fn (t : TX) : List He.DefD := t.fs.map (·.d) ++ t.ini.map (·.d)
section
variable {c : C}
mutual
theorem zOk_ok : ∀ {z : Z} {u : Value}, zOk c z u = true → ∃ v, RelV v u ∧ ∀ ρ H, RZ c ρ H z v := by
  intro z u h
  cases z with
  | non => cases u <;> first | (exact ⟨.non, rfl, fun ρ H => by unfold RZ; rfl⟩) | (unfold zOk at h; cases h)
  | bl b =>
    cases u <;> (unfold zOk at h) <;> (try cases h; done)
    rename_i d
    obtain rfl := eq_of_beq h
    exact ⟨.bl b, rfl, fun ρ H => by unfold RZ; rfl⟩
  | int i =>
    cases u <;> (unfold zOk at h) <;> (try cases h; done)
    rename_i j tk
    obtain rfl := of_decide_eq_true h
    exact ⟨.int i, ⟨tk, rfl⟩, fun ρ H => by unfold RZ; rfl⟩
  | str x =>
    cases u <;> (unfold zOk at h) <;> (try cases h; done)
    rename_i y tk
    obtain ⟨h1, h2⟩ := Zy.ba h
    obtain rfl := of_decide_eq_true h1
    have h3 := of_decide_eq_true h2
    refine ⟨.str y, ⟨tk, rfl⟩, fun ρ H => ?_⟩
    unfold RZ
    refine ⟨by rw [sizeLine_eq]; omega, ?_⟩
    cases y; simp
  | tup xs =>
    cases u <;> (unfold zOk at h) <;> (try cases h; done)
    rename_i a
    split at h
    · rename_i n od its k sl e
      obtain ⟨h1, h2⟩ := Zy.ba h
      obtain ⟨h3, h4⟩ := Zy.ba h2
      obtain rfl := of_decide_eq_true h1
      obtain ⟨vs, g1, g2⟩ := zsOk_ok h4
      refine ⟨.ref a, rfl, fun ρ H => ?_⟩
      unfold RZ
      exact ⟨a, vs, rfl, .inr ⟨_, its, _, e, rfl, rfl, of_decide_eq_true h3, g1⟩, g2 ρ H⟩
    · cases h
  | rol xs =>
    cases u <;> (unfold zOk at h) <;> (try cases h; done)
    rename_i a
    split at h
    · rename_i n its k sl e
      obtain ⟨h1, h2⟩ := Zy.ba h
      obtain ⟨h3, h4⟩ := Zy.ba h2
      obtain rfl := of_decide_eq_true h1
      obtain ⟨vs, g1, g2⟩ := zsOk_ok h4
      refine ⟨.ref a, rfl, fun ρ H => ?_⟩
      unfold RZ
      exact ⟨a, vs, rfl, .inr ⟨_, its, _, e, rfl, rfl, rfl, of_decide_eq_true h3, g1⟩, g2 ρ H⟩
    · cases h
  | ty n =>
    cases u <;> (unfold zOk at h) <;> (try cases h; done)
    rename_i m
    obtain rfl := of_decide_eq_true h
    exact ⟨.ty n, rfl, fun ρ H => by unfold RZ; rfl⟩
  | _ => cases u <;> (unfold zOk at h) <;> cases h
theorem zsOk_ok : ∀ {zs : List Z} {us : List Value}, zsOk c zs us = true → ∃ vs, Vals vs us ∧ ∀ ρ H, RZs c ρ H zs vs
  | [], [], h => ⟨[], .nil, fun _ _ => .nil⟩
  | [], _ :: _, h => by unfold zsOk at h; cases h
  | _ :: _, [], h => by unfold zsOk at h; cases h
  | z :: zs, u :: us, h => by
    unfold zsOk at h
    obtain ⟨h1, h2⟩ := Zy.ba h
    obtain ⟨v, g1, g2⟩ := zOk_ok h1
    obtain ⟨vs, g3, g4⟩ := zsOk_ok h2
    exact ⟨v :: vs, .cons g1 g3, fun ρ H => .cons (g2 ρ H) (g4 ρ H)⟩
end
end
theorem eqO_ok {a b : Option (Option Value)} (h : eqO a b = true) : a = b := of_decide_eq_true h
theorem excCB_ok {K : PySem.W.Frag} {D : Addr} (h : excCB K D = true) : ExcC K D := by
  unfold excCB at h
  obtain ⟨h1, h⟩ := Zy.ba h
  obtain ⟨h2, h⟩ := Zy.ba h
  obtain ⟨h3, h⟩ := Zy.ba h
  obtain ⟨h4, h⟩ := Zy.ba h
  obtain ⟨h5, h⟩ := Zy.ba h
  obtain ⟨h6, h⟩ := Zy.ba h
  obtain ⟨h7, h8⟩ := Zy.ba h
  exact ⟨eqO_ok h1, eqO_ok h2, of_decide_eq_true h3, h4, eqO_ok h5, eqO_ok h6, of_decide_eq_true h7, of_decide_eq_true h8⟩
theorem lookup_memN : ∀ {es : List (List Nat × Z)} {y : List Nat} {z : Z}, es.lookup y = some z → (y, z) ∈ es
  | [], y, z, h => by cases h
  | (a, b) :: r, y, z, h => by
    rw [List.lookup_cons] at h
    cases q : y == a with
    | true => rw [q] at h; cases h; rw [eq_of_beq q]; exact List.mem_cons_self
    | false => rw [q] at h; exact List.mem_cons_of_mem _ (lookup_memN h)
section
variable {t : TX} {P : Program} {w : World} {K : PySem.W.Frag} {mg : Str → Option Value} {base h : Heap} {fa : List He.Fa}
theorem fn_fst {k : Nat} {f : Fd} (hk : t.fs[k]? = some f) : t.fn[k]? = some f.d := by
  unfold TX.fn
  rw [List.getElem?_append_left (by rw [List.length_map]; exact (List.getElem?_eq_some_iff.mp hk).1), List.getElem?_map, hk]; rfl
theorem fn_ini {k : Nat} {q : Ini} (hk : t.ini[k]? = some q) : t.fn[t.fs.length + k]? = some q.d := by
  unfold TX.fn
  rw [List.getElem?_append_right (by rw [List.length_map]; omega), List.length_map, Nat.add_sub_cancel_left, List.getElem?_map, hk]; rfl
theorem glK_ok (Kb : K.In base) (G : base.Ns mainGlobals mg) (c : He.SaysT fa t.fn t.tabs w K) (hi : ∀ q ∈ t.ini, BdI q) {D : Dy} {X : Cx} (hX : CxIs X P w K mg base) {x : Str} {g : GK} (e : glK t K x g = true) : GlS ((t.c K).at_ D) X x g := by
  obtain ⟨e1, e2, e3, e4, e5⟩ := hX
  subst e1 e2 e3 e4 e5
  cases g with
  | fn k =>
    obtain ⟨h1, h2⟩ := Zy.ba e
    exact ⟨PySem.W.mg_of Kb G (eqO_ok h1), h2⟩
  | lam k =>
    obtain ⟨h1, h2⟩ := Zy.ba e
    exact ⟨PySem.W.mg_of Kb G (eqO_ok h1), h2⟩
  | val z =>
    simp only [glK] at e
    split at e
    · rename_i u q
      obtain ⟨v, g1, g2⟩ := zOk_ok e
      exact ⟨u, v, PySem.W.mg_of Kb G q, g1, fun ρ H => (g2 ρ H).xa⟩
    · cases e
  | ty n =>
    obtain ⟨h1, h2⟩ := Zy.ba e
    exact ⟨PySem.W.mg_none_of Kb G (eqO_ok h1), of_decide_eq_true h2⟩
  | bf b =>
    obtain ⟨h1, h2⟩ := Zy.ba e
    exact ⟨PySem.W.mg_none_of Kb G (eqO_ok h1), of_decide_eq_true h2⟩
  | ex k =>
    simp only [glK] at e
    split at e
    · rename_i q hq
      obtain ⟨h1, h2⟩ := Zy.ba e
      obtain ⟨h3, h4⟩ := Zy.ba h2
      obtain ⟨h5, h6⟩ := Zy.ba h4
      obtain ⟨h7, h8⟩ := Zy.ba h6
      obtain ⟨B, i, F⟩ := q.2.facts
      exact ⟨PySem.W.mg_of Kb G (eqO_ok h1), h3, raises_own (of_decide_eq_true h7) (of_decide_eq_true h8), _, B, _, i, F, h5⟩
    · cases e
  | dct es =>
    obtain ⟨h1, h2⟩ := Zy.ba e
    obtain ⟨h3, h4⟩ := Zy.ba h2
    obtain ⟨q, hq, hqx⟩ := List.any_eq_true.mp h3
    obtain rfl := of_decide_eq_true hqx
    obtain ⟨i, hi⟩ := List.mem_iff_getElem?.mp hq
    obtain ⟨es', n, KD⟩ := c.tab i (t := ((fun K => He.ga K q.1), q.2)) (by unfold TX.tabs; rw [List.getElem?_map, hi]; rfl)
    refine ⟨He.ga X.K q.1, PySem.W.mg_of Kb G (eqO_ok h1), fun y z hyz => ?_⟩
    have h5 := List.all_eq_true.mp h4 _ (lookup_memN hyz)
    simp only at h5
    split at h5
    · rename_i u hu
      obtain ⟨v, g1, g2⟩ := zOk_ok h5
      exact ⟨v, ⟨es', n, u, KD.at_, KD.lit, hu, g1⟩, fun ρ H => (g2 ρ H).xa⟩
    · cases h5
  | rng => exact PySem.W.mg_none_of Kb G (eqO_ok e)
  | exf k f =>
    simp only [glK] at e
    split at e
    · rename_i q hq
      obtain ⟨h1, h2⟩ := Zy.ba e
      obtain ⟨h3, h4⟩ := Zy.ba h2
      obtain ⟨h5, h6⟩ := Zy.ba h4
      obtain ⟨h7, h8⟩ := Zy.ba h6
      obtain ⟨h9, h10⟩ := Zy.ba h8
      obtain ⟨n, hn, hb⟩ := List.any_eq_true.mp h10
      unfold iniK at hb
      obtain ⟨b1, hb⟩ := Zy.ba hb
      obtain ⟨b2, hb⟩ := Zy.ba hb
      obtain ⟨b3, hb⟩ := Zy.ba hb
      obtain ⟨b4, hb⟩ := Zy.ba hb
      obtain ⟨b5, b6⟩ := Zy.ba hb
      obtain ⟨d1, d2⟩ := Zy.ba b3
      obtain ⟨i, hni⟩ := List.mem_iff_getElem?.mp hn
      obtain ⟨fd, F⟩ := c.d.def_ (t.fs.length + i) (d := n.d) (fn_ini hni)
      obtain ⟨oc, od, dV, kV, doc, pm, an, cdv, ct, osl, rfl, lk, hcd, hD, _⟩ := F.ex
      have e1 : n.d.dvs X.K = [] := by unfold He.DefD.dvs; rw [List.length_eq_zero_iff.mp (of_decide_eq_true d1)]; rfl
      obtain rfl : dV = .none := by
        rcases hD with ⟨_, h⟩ | ⟨h, _⟩
        · exact h
        · exact absurd e1 h
      exact ⟨PySem.W.mg_of Kb G (eqO_ok h1), h3, oexB_ok h5, of_decide_eq_true h7, xfB_ok h9, _, of_decide_eq_true b5, of_decide_eq_true b6, ini_fn lk hcd b4 (hi n hn kV doc pm an cdv ct)⟩
    · cases e
theorem tx_of (Kb : K.In base) (G : base.Ns mainGlobals mg) (c : He.SaysX fa t.fn t.tabs t.tf (exB t) w h K) (hT : ∀ p ∈ t.tf.map (He.cT K), LamX.TabB base mg p.1 p.2) (hd : ∀ f ∈ t.fs, f.d.dfl.length = 0 ∧ f.d.kwd.length = 0) (hi : ∀ q ∈ t.ini, BdI q) : Tx t.T t.sub t.fs (t.c K) P w K mg base := by
  have hx := c.more
  unfold exB at hx
  obtain ⟨x1, x2⟩ := Zy.ba hx
  obtain ⟨x3, x4⟩ := Zy.ba x2
  obtain ⟨x5, x6⟩ := Zy.ba x4
  have fat : ∀ (k : Nat) f, t.fs[k]? = some f → (t.c K).fa k = He.fAd K f.d.at_ := fun k f hk => by
    show He.fAd K (t.at_ k) = _
    unfold TX.at_
    rw [hk]
  refine ⟨rfl, fun D X hX j x g hj => glK_ok Kb G c.t hi hX (List.all_eq_true.mp x1 _ (List.mem_of_getElem? hj)), PySem.W.mg_none_of Kb G (eqO_ok x3), fun a b r hab => ?_, fun k f hk => ?_, fun k f hk hl oc od fd osl lk => ?_⟩
  · unfold TX.sub at hab
    obtain ⟨q, hq, rfl⟩ := Option.map_eq_some_iff.mp hab
    have hm := List.mem_of_find?_eq_some hq
    have hp := List.find?_some hq
    obtain ⟨p1, p2⟩ := Zy.ba hp
    obtain rfl := of_decide_eq_true p1
    obtain rfl := of_decide_eq_true p2
    have hk := List.all_eq_true.mp x5 _ hm
    unfold subK at hk
    obtain ⟨k1, k2⟩ := Zy.ba hk
    refine ⟨of_decide_eq_true k1, fun j hj => ?_⟩
    rw [hj] at k2
    obtain ⟨k3, k4⟩ := Zy.ba k2
    exact ⟨of_decide_eq_true k3, excCB_ok k4⟩
  · have hm : f ∈ t.fs := List.mem_of_getElem? hk
    obtain ⟨d1, d2⟩ := hd f hm
    obtain ⟨fd, F⟩ := c.t.d.def_ k (d := f.d) (fn_fst hk)
    refine ⟨fd, ?_⟩
    rw [fat k f hk]
    have e1 : f.d.dvs K = [] := by unfold He.DefD.dvs; rw [List.length_eq_zero_iff.mp d1]; rfl
    have e2 : f.d.kws K = [] := by unfold He.DefD.kws; rw [List.length_eq_zero_iff.mp d2]; rfl
    rw [e1, e2] at F
    exact F
  · have hm : f ∈ t.fs := List.mem_of_getElem? hk
    obtain ⟨fd', F⟩ := c.t.d.def_ k (d := f.d) (fn_fst hk)
    obtain ⟨oc', od', dV, kV, doc, pm, an, cdv, ct, osl', rfl, lk', hcd, _, _⟩ := F.ex
    rw [fat k f hk, lk'] at lk
    cases lk
    obtain ⟨cd, rfl⟩ := He.codeIn_ref hcd
    have hco := He.codeOf_eq lk' (c := cd) rfl
    have hlm : f ∈ t.lms := List.mem_filter.mpr ⟨hm, hl⟩
    have hcT : He.cT K f.d.at_ = (cd, He.tabOf K cd) := by unfold He.cT; rw [hco]
    have hmT : ((He.cT K f.d.at_).2, f.d.qual ++ ".<locals>." ++ "<lambda>") ∈ (t.c K).T := List.mem_map.mpr ⟨f, hlm, rfl⟩
    refine ⟨cd, He.tabOf K cd, rfl, ?_, ?_, fun p hp e => ?_⟩
    · have := hT (He.cT K f.d.at_) (List.mem_map.mpr ⟨f.d.at_, List.mem_map.mpr ⟨f, hlm, rfl⟩, rfl⟩)
      rw [hcT] at this
      exact this
    · rw [hcT] at hmT; exact hmT
    · have h1 := List.all_eq_true.mp (List.all_eq_true.mp x6 p hp) _ hmT
      rw [hcT] at h1
      rw [Bool.or_eq_true] at h1
      rcases h1 with h1 | h1
      · rw [e] at h1; simp at h1
      · exact of_decide_eq_true h1
end
end Zy
end
section
set_option Elab.async false
set_option linter.all false
set_option maxRecDepth 100000
set_option maxHeartbeats 4000000
set_option autoImplicit false
/-! the end of a law where the callee is asked only at the caller's own surroundings -/
namespace Zy
open PySem PySem.Spec PyProof.Rows L2 LamX
section
variable {P : Program} {w : World} {K : PySem.W.Frag} {mg mb : Str → Option Value} {cs : List (Addr × Addr)} {a : Addr} {vs : List Value} {s0 : Shared}
abbrev listO (vs : List Value) : Obj := { cls := .type "list", data := .seq vs.toArray }
abbrev tblO : Obj := { cls := .none, data := .fields #[] }
/-- what stands where the law is called -/
structure Scene (K : PySem.W.Frag) (mg mb : Str → Option Value) (cs : List (Addr × Addr)) (a : Addr) (vs : List Value) (s0 : Shared) : Prop where
  frag : K.In s0.heap
  glob : s0.heap.Ns mainGlobals mg
  blt : s0.heap.Ns builtinsNs mb
  boot : ∀ y : Str, y ≠ "__name__" → mb y = bootBuiltins y
  lim : s0.heap.NoLimit
  gens : s0.gens = #[]
  tabs : ∀ p ∈ cs, s0.heap.get? p.2 = some tblO
  notK : ∀ p ∈ cs, K.lookup p.2 = none
  code : ∀ p ∈ cs, PySem.W.CodeHd s0.heap p.1 p.2
  bmod : ∃ (bm : Addr) (ob : Obj), mg "__builtins__" = some (.ref bm) ∧ bm ≠ builtinsNs ∧ s0.heap.get? bm = some ob ∧ ob.cls = .type "module" ∧ ob.dict = some builtinsNs ∧ ob.data = .plain
  cell : s0.heap.get? a = some (listO vs)
/-- what is tracked there: the tables, and the script where the frame does not hold it -/
structure Track (P : Program) (w : World) (K : PySem.W.Frag) (cs : List (Addr × Addr)) (a : Addr) (s0 : Shared) (H : Hp) : Prop where
  ok : HOk P w H s0.heap
  tab : ∀ p ∈ cs, H p.2 = some (.tbl #[])
  only : ∀ b u, H b = some u → (b = a ∧ K.lookup a = none ∧ ∃ o xs, u = .frz o (.lst xs)) ∨ ∃ p ∈ cs, p.2 = b
theorem Scene.free (S : Scene K mg mb cs a vs s0) {H : Hp} (T : Track P w K cs a s0 H) {b : Addr} {o : Obj} (e : s0.heap.get? b = some o) (n1 : ∀ xs n, o.data ≠ .seq xs n) (n2 : o.data ≠ .fields #[]) : H b = none := by
  cases q : H b with
  | none => rfl
  | some u =>
    rcases T.only b u q with ⟨rfl, _⟩ | ⟨p, hp, rfl⟩
    · have z := e.symm.trans S.cell
      cases z
      exact absurd rfl (n1 _ _)
    · have z := e.symm.trans (S.tabs p hp)
      cases z
      exact absurd rfl n2
theorem Scene.stay (S : Scene K mg mb cs a vs s0) {H : Hp} (T : Track P w K cs a s0 H) {b : Addr} {o : Obj} (e : s0.heap.get? b = some o) (n1 : ∀ xs n, o.data ≠ .seq xs n) (n2 : o.data ≠ .fields #[]) : (hidT s0.heap H).get? b = some o := hidT_get e (S.free T e n1 n2)
theorem Scene.nss (S : Scene K mg mb cs a vs s0) {H : Hp} (T : Track P w K cs a s0 H) {b : Addr} {m : Str → Option Value} (x : s0.heap.Ns b m) : (hidT s0.heap H).Ns b m := by
  obtain ⟨o, es, ep, e, d, r⟩ := x
  exact ⟨o, es, ep, S.stay T e (fun _ _ z => by rw [d] at z; cases z) (fun z => by rw [d] at z; cases z), d, r⟩
theorem Scene.kin (S : Scene K mg mb cs a vs s0) {H : Hp} (T : Track P w K cs a s0 H) : K.In (hidT s0.heap H) := fun b o e => by
  refine hidT_get (S.frag b o e) ?_
  cases q : H b with
  | none => rfl
  | some u =>
    rcases T.only b u q with ⟨rfl, h, _⟩ | ⟨p, hp, rfl⟩
    · have z := e.symm.trans h
      cases z
    · have z := e.symm.trans (S.notK p hp)
      cases z
theorem Scene.modl (S : Scene K mg mb cs a vs s0) {H : Hp} (T : Track P w K cs a s0 H) : L2.Mod K mg (hidT s0.heap H) := by
  obtain ⟨mc, l1, l2⟩ := S.lim
  exact ⟨S.kin T, S.nss T S.glob, ⟨mb, S.nss T S.blt, S.boot⟩, ⟨mc, S.nss T l1, l2⟩⟩
theorem Scene.tabB (S : Scene K mg mb cs a vs s0) {H : Hp} (T : Track P w K cs a s0 H) : ∀ p ∈ cs, TabB (hidT s0.heap H) mg p.1 p.2 := fun p hp => by
  have tp := S.tabs p hp
  obtain ⟨og, esg, epg, eg, dg, _⟩ := S.glob
  refine ⟨?_, ?_, fun z => ?_⟩
  · obtain ⟨o, us, file, tf, flags, tg, inF, text, tt, e1, r1, r2, rest⟩ := S.code p hp
    refine ⟨o, us, file, tf, flags, tg, inF, text, tt, S.stay T e1 (fun _ _ z => ?_) (fun z => ?_), r1, r2, rest⟩
    · rw [r2] at z; cases z
    · rw [r2] at z; cases z; simp at rest
  · obtain ⟨bm, ob, b1, b2, b3, b4, b5, b6⟩ := S.bmod
    refine ⟨bm, ob, b1, b2, fun q => ?_, fun q => ?_, S.stay T b3 (fun _ _ z => ?_) (fun z => ?_), b4, b5, b6⟩
    · subst q
      have z := b3.symm.trans eg
      cases z
      rw [dg] at b6; cases b6
    · subst q
      have z := b3.symm.trans tp
      cases z
      cases b6
    · rw [b6] at z; cases z
    · rw [b6] at z; cases z
  · rw [← z] at tp
    have q := tp.symm.trans eg
    cases q
    cases dg
theorem Scene.env (S : Scene K mg mb cs a vs s0) {H : Hp} (T : Track P w K cs a s0 H) : Env0 P w K mg (hidT s0.heap H) callerA [] s0 H where
  frames := rfl
  mod := S.modl T
  bs := fun _ _ e => of_hidT e
  bsz := Nat.le_of_eq (hidT_size _ _)
  funs := trivial
  frf := fun b hb => by cases hb
  hok := T.ok
  bare := .of_eq S.gens
/-- the walk's end, from the callee's -/
theorem Scene.done (S : Scene K mg mb cs a vs s0) {H : Hp} (T : Track P w K cs a s0 H) {s1 : Shared} {u : Value} (h : CE [] P w H s0 (fun v _ => v = .bl true) u s1) :
    u = .bool true ∧ OldK s0.heap s1.heap ∧ s1.os = s0.os ∧ AllBare s1.gens := by
  obtain ⟨v, H1, ho, hb, un, ok1, rv, rfl⟩ := h
  have hu : u = Value.bool true := rv
  have late : ∀ p ∈ cs, ∃ xs : Array Value, s1.heap.get? p.2 = some { cls := .none, data := .fields xs } := fun p hp => by
    obtain ⟨xs, z⟩ := un.tbls p.2 #[] (T.tab p hp)
    exact ⟨_, ok1 p.2 _ z⟩
  have keep : ∀ b o, (¬ ∃ p ∈ cs, p.2 = b) → s0.heap.get? b = some o → s1.heap.get? b = some o := fun b o nb e => by
    cases q : H b with
    | none => exact un.keep b o e q (fun z => by cases z) (fun z => by cases z)
    | some x =>
      rcases T.only b x q with ⟨_, _, ob, xs, rfl⟩ | z
      · have g1 := (T.ok b _ q).1
        have g2 := (ok1 b _ (un.frzs b ob _ q)).1
        rw [g2, ← g1, e]
      · exact absurd z nb
  refine ⟨hu, ⟨fun b o e => ?_, fun b o e => ?_⟩, ho, hb⟩
  · rcases Classical.em (∃ p ∈ cs, p.2 = b) with ⟨p, hp, rfl⟩ | nb
    · obtain ⟨xs, hx⟩ := late p hp
      have z := (S.tabs p hp).symm.trans e
      cases z
      refine .inr (.inl ⟨((S.code p hp).tab (S.tabs p hp)).isCodeTable, rfl, #[], xs, rfl, ?_⟩)
      rw [Array.empty_append]; exact hx
    · exact .inl (keep b o nb e)
  · rcases Classical.em (∃ p ∈ cs, p.2 = b) with ⟨p, hp, rfl⟩ | nb
    · obtain ⟨xs, hx⟩ := late p hp
      exact ⟨_, hx⟩
    · exact ⟨o, keep b o nb e⟩
/-- something is tracked -/
theorem Scene.track (S : Scene K mg mb cs a vs s0) {ns : List Int} (hi : IntsAre vs ns) (hl : ns.length ≤ sizeLine) : ∃ H, Track P w K cs a s0 H ∧ SqL K H a (ns.map V.int) := by
  classical
  have rv := vals_ints hi
  have lenV := hi.length
  have na : ¬ ∃ p ∈ cs, p.2 = a := fun ⟨p, hp, e⟩ => by
    have z := (S.tabs p hp).symm.trans (e ▸ S.cell)
    cases z
  let tb : Hp := fun b => if ∃ p ∈ cs, p.2 = b then some (.tbl #[]) else none
  have tb1 : ∀ p ∈ cs, tb p.2 = some (.tbl #[]) := fun p hp => if_pos ⟨p, hp, rfl⟩
  have tb2 : ∀ b u, tb b = some u → (∃ p ∈ cs, p.2 = b) ∧ u = .tbl #[] := fun b u z => by
    by_cases hb : ∃ p ∈ cs, p.2 = b
    · have z' := (if_pos hb).symm.trans z
      cases z'
      exact ⟨hb, rfl⟩
    · have z' := (if_neg hb).symm.trans z
      cases z'
  cases hk : K.lookup a with
  | some o =>
    have z := (S.frag a o hk).symm.trans S.cell
    cases z
    refine ⟨tb, ⟨fun b u z => ?_, tb1, fun b u z => .inr (tb2 b u z).1⟩, .inr ⟨_, vs.toArray, _, hk, rfl, rfl, rfl, by rw [List.size_toArray, lenV]; exact hl, by simpa using rv⟩⟩
    obtain ⟨⟨p, hp, rfl⟩, rfl⟩ := tb2 b u z
    exact S.tabs p hp
  | none =>
    have up : ∀ b u, L2.upd tb a (.frz (listO vs) (.lst (ns.map V.int))) b = some u → (b = a ∧ u = .frz (listO vs) (.lst (ns.map V.int))) ∨ tb b = some u := fun b u z => by
      by_cases hb : b = a
      · subst hb
        rw [upd_same] at z
        cases z
        exact .inl ⟨rfl, rfl⟩
      · rw [upd_ne hb] at z
        exact .inr z
    have ta : tb a = none := if_neg na
    refine ⟨L2.upd tb a (.frz (listO vs) (.lst (ns.map V.int))), ⟨fun b u z => ?_, fun p hp => ?_, fun b u z => ?_⟩, .inl (.inr ⟨_, upd_same⟩)⟩
    · rcases up b u z with ⟨rfl, rfl⟩ | z
      · exact ⟨S.cell, by rw [List.length_map]; exact hl, vs, _, rv, S.cell⟩
      · obtain ⟨⟨p, hp, rfl⟩, rfl⟩ := tb2 b u z
        exact S.tabs p hp
    · rw [upd_ne (fun e => na ⟨p, hp, e⟩)]
      exact tb1 p hp
    · rcases up b u z with ⟨rfl, rfl⟩ | z
      · exact .inl ⟨rfl, hk, _, _, rfl⟩
      · exact .inr (tb2 b u z).1
end
/-- what is known of the law where the walk meets it, the callee asked at the caller's surroundings alone -/
def LawAtG (l : PySem.W.OpenLaw) (w : World) (K : PySem.W.Frag) (n : Nat) (mg : Str → Option Value) (fa : Addr) (h : Heap) : Prop :=
  ∃ cs : List (Addr × Addr), (∀ p ∈ cs, h.get? p.2 = some tblO) ∧ (∀ p ∈ cs, K.lookup p.2 = none) ∧ (∀ p ∈ cs, PySem.W.CodeHd h p.1 p.2) ∧
    ∀ (s : Shared) (H : Hp) (base : Heap) (a : Addr) (ns : List Int), ns.length ≤ n → (∀ z ∈ ns, Builtin.Int.intBits z ≤ 1048576) → (∀ p ∈ cs, H p.2 = some (.tbl #[])) → SqL K H a (ns.map V.int) →
      K.In base → base.Ns mainGlobals mg → (∀ p ∈ cs, TabB base mg p.1 p.2) → Env0 l.prog w K mg base callerA [] s H →
      codeAny (model l.prog w) callerA (.call (.ref fa) ⟨[.ref a], []⟩) (CR (L2.CX l.prog w) [] l.prog w H s (fun v _ => v = .bl true) fun _ _ _ => False) s
theorem walkG {l : PySem.W.OpenLaw} {n : Nat} {q : Program} {loose : List Str} {XP : (Str → Option Value) → Heap → Prop} {YP : World → Heap → Prop} {d : DefRec} (hm : l.most = some n) (hz : n ≤ sizeLine) (hdf : d.params.defaults = [])
    (F : ∀ (w : World) (mg : Str → Option Value) (fa : Addr) (h : Heap), YP w h → h.Ns mainGlobals mg → mg d.name = some (.ref fa) → ∃ K : PySem.W.Frag, K.In h ∧ LawAtG l w K n mg fa h) :
    PySem.W.WalkO q loose XP YP l.row.toRowW d [] (fun f vs => PySem.call f vs) := by
  refine Att.attach_callB hm hdf fun w _ s1 mg mb fa _ _ _ _ a vs ns G Y _ _ _ hmg hobj hints hlen hbits hg => ?_
  obtain ⟨K, KX, cs, hT, nT, C, run⟩ := F w mg fa _ Y G.T.g hmg
  have S : Scene K mg mb cs a vs s1 := ⟨KX, G.T.g, G.T.b, G.T.builtins, G.T.nolimit, hg, hT, nT, C, G.T.bmain, hobj⟩
  obtain ⟨H, T, hS⟩ := S.track (P := l.prog) (w := w) hints (Nat.le_trans hlen hz)
  refine codeAny_mono (run s1 H _ a ns hlen hbits T.tab hS (S.kin T) (S.nss T S.glob) (S.tabB T) (S.env T)) fun r s2 h => ?_
  cases r with
  | error e =>
    obtain ⟨_, _, _, _, _, _, _, _, _, _, _, _, z⟩ := h
    exact z.elim
  | ok fl =>
    cases fl with
    | ret u =>
      obtain ⟨rfl, h2, h3, h4⟩ := S.done T h
      exact ⟨rfl, h2, h3, h4⟩
    | _ => exact False.elim h
end Zy
end
section
set_option Elab.async false
set_option linter.all false
set_option maxRecDepth 100000
set_option maxHeartbeats 4000000
set_option autoImplicit false
/-! the law's end -/
namespace Zy
open PySem PySem.Spec PyProof.Rows L2
section
variable {T : Tb} {sub : XC → XC → Option Bool} {fs : List Fd} {c : C} {P : Program} {w : World} {K : PySem.W.Frag} {mg : Str → Option Value} {base : Heap}
end
theorem Bd.plain {f : Fd} (n : Nat) (hs : f.star = false) (hn : f.np = n) (h : ∀ (kV doc pm : Value) (an : Option Addr) (cdv ct : Value) (us : List Value), us.length = n → bindArgs (PySem.W.fnOf f.d.name f.d.qual f.d.params f.d.body f.d.scope .none kV doc pm an cdv ct) ⟨us, []⟩ = pure (f.ps.zip us)) : Bd f := by
  intro kV doc pm an cdv ct
  rw [hs]
  intro us hl
  exact h kV doc pm an cdv ct us (by rw [hl, hn])
theorem Bd.star {f : Fd} (n : Nat) (hs : f.star = true) (hn : f.np = n) (h : ∀ (kV doc pm : Value) (an : Option Addr) (cdv ct : Value) (us rest : List Value), us.length = n → bindArgs (PySem.W.fnOf f.d.name f.d.qual f.d.params f.d.body f.d.scope .none kV doc pm an cdv ct) ⟨us ++ rest, []⟩ = (newTuple rest >>= fun t => pure (f.ps.zip us ++ [(f.pv, t)]))) : Bd f := by
  intro kV doc pm an cdv ct
  rw [hs]
  intro us rest hl
  exact h kV doc pm an cdv ct us rest (by rw [hl, hn])
theorem binds_z {K : PySem.W.Frag} {f : Fd} {a : Addr} {fd : FuncData} (hbf : Bd f) (hst : f.star = false) (F : FunD K f.d.name f.d.qual f.d.params f.d.body f.d.scope [] [] a fd) (s : Shared) (us : List Value) (hl : us.length = f.np) : BindsTo s fd ⟨us, []⟩ (f.ps.zip us) := by
  obtain ⟨oc, od, dV, kV, doc, pm, an, cdv, ct, osl, rfl, lk, hcd, hD, _⟩ := F.ex
  obtain rfl : dV = .none := by
    rcases hD with ⟨_, h⟩ | ⟨h, _⟩
    · exact h
    · exact absurd rfl h
  have bd := hbf kV doc pm an cdv ct
  rw [hst] at bd
  exact .of_eq (bd us hl)
/-! ### the script, locked -/
section
variable {P : Program} {w : World} {K : PySem.W.Frag} {mg : Str → Option Value} {base : Heap} {A : Around} {outer : List Env} {s : Shared} {H : Hp}
theorem env0_frz (e0 : Env0 P w K mg base A outer s H) {a : Addr} {xs : List V} (h : H a = some (.lst xs)) : ∃ o, Env0 P w K mg base A outer s (upd H a (.frz o (.lst xs))) := by
  have ok := e0.hok a _ h
  obtain ⟨hz, its, n, rv, ho⟩ := id ok
  have keepT : ∀ b ys, H b = some (.tup ys) → upd H a (.frz ({ cls := .type "list", data := .seq its.toArray n } : Obj) (.lst xs)) b = some (.tup ys) := fun b ys e => by
    rw [upd_ne (fun z => by rw [z, h] at e; cases e)]; exact e
  have keepO : ∀ b y, H b = some (.own y) → upd H a (.frz ({ cls := .type "list", data := .seq its.toArray n } : Obj) (.lst xs)) b = some (.own y) := fun b y e => by
    rw [upd_ne (fun z => by rw [z, h] at e; cases e)]; exact e
  refine ⟨{ cls := .type "list", data := .seq its.toArray n }, e0.frames, e0.mod, fun b o e => ⟨(e0.bs b o e).1, ?_⟩, e0.bsz, e0.funs, fun b hb => ?_, fun b o e => ?_, e0.bare⟩
  · rw [upd_ne (fun z => by have := (e0.bs b o e).2; rw [z, h] at this; cases this)]; exact (e0.bs b o e).2
  · rw [upd_ne (fun z => by have := e0.frf b hb; rw [z, h] at this; cases this)]; exact e0.frf b hb
  · by_cases hb : b = a
    · subst hb
      rw [upd_same] at e; cases e
      exact ⟨ho, hz, its, n, rv, ho⟩
    · rw [upd_ne hb] at e
      exact (e0.hok b o e).stay (fun _ _ _ q => q) (fun c q => keepO c _ q) keepT
theorem un_frz {H' : Hp} {fs : List Addr} {h h' : Heap} {a : Addr} {xs : List V} {o : Obj} (e : H a = some (.lst xs)) (u : Un fs [] (upd H a (.frz o (.lst xs))) H' h h') : Un fs [] H H' h h' := by
  have nn : ∀ {b : Addr}, H b = none → upd H a (.frz o (.lst xs)) b = none := fun {b} n => by rw [upd_ne (fun z => by rw [z, e] at n; cases n)]; exact n
  have nt : ∀ {b : Addr} {u : HO}, H b = some u → (∀ ys, u ≠ .lst ys) → upd H a (.frz o (.lst xs)) b = some u := fun {b u} n h => by rw [upd_ne (fun z => by rw [z, e] at n; cases n; exact h _ rfl)]; exact n
  exact ⟨fun b q e1 n => u.keep b q e1 (nn n), fun b q e1 n => u.slot b q e1 (nn n), fun b q e1 n => u.free b q e1 (nn n), u.there, fun b ys q => u.tups b ys (nt q fun _ z => nomatch z), fun b q v e1 => u.frzs b q v (nt e1 fun _ z => nomatch z), fun b ps q => u.tbls b ps (nt q fun _ z => nomatch z)⟩
/-- what the law's def is asked -/
def spLaw (c : C) (n : Nat) : Sp := fun vs H Q E => ∃ (a : Addr) (ns : List Int), vs = [.ref a] ∧ ns.length ≤ n ∧ (∀ z ∈ ns, Builtin.Int.intBits z ≤ 1048576) ∧ SqL c.K H a (ns.map V.int) ∧ LamX.Tabs c.T H ∧ Q = (fun v _ => v = .bl true) ∧ E = fun _ _ _ => False
theorem ints_rz {c : C} {ρ : List Addr} {H : Hp} : ∀ ns : List Int, RZs c ρ H (ns.map .int) (ns.map V.int)
  | [] => .nil
  | i :: r => .cons rz_int (ints_rz r)
theorem law_run {c : C} {d n : Nat} {f : Addr} {g : List Z → GH → R Z} (hdy : c.dy = {}) (F : FnR P w K mg base (L2.CX P w) d f (spR (c.at_ c.dy) g)) (plain : ∀ ns : List Int, ns.length ≤ n → (∀ z ∈ ns, Builtin.Int.intBits z ≤ 1048576) → ∃ G, g [.rol (ns.map .int)] [] = .ok (.bl true) G)
    {A : Around} {outer : List Env} {s : Shared} {H : Hp} {a : Addr} {ns : List Int} (hr : Room d A) (e0 : Env0 P w K mg base A outer s H) (hl : ns.length ≤ n) (hbits : ∀ z ∈ ns, Builtin.Int.intBits z ≤ 1048576) (hS : SqL c.K H a (ns.map V.int)) (hT : LamX.Tabs c.T H) :
    codeAny (model P w) A (.call (.ref f) ⟨[.ref a], []⟩) (CR (L2.CX P w) outer P w H s (fun v _ => v = .bl true) fun _ _ _ => False) s := by
  obtain ⟨G, hG⟩ := plain ns hl hbits
  -- from a heap in which the list is read
  have core : ∀ H2 : Hp, Env0 P w K mg base A outer s H2 → RoL c H2 a (ns.map V.int) → LamX.Tabs c.T H2 → codeAny (model P w) A (.call (.ref f) ⟨[.ref a], []⟩) (CR (L2.CX P w) outer P w H2 s (fun v _ => v = .bl true) fun _ _ _ => False) s := fun H2 e2 ro t2 => by
    refine F A outer s H2 [.ref a] [.ref a] _ _ hr e2 (.cons rfl .nil) ⟨[], [], [.rol (ns.map .int)], ⟨List.nodup_nil, rfl, (fun m b o h => by simp at h), t2, (fun m hm => by
      have hm' : c.dy.xp = some m := hm
      rw [hdy] at hm'; exact nomatch hm'), ?_⟩, ?_, ?_⟩
    · show c.dy.inv [] H2
      rw [hdy]; trivial
    · refine .cons ?_ .nil
      unfold RZ
      exact ⟨a, _, rfl, ro, ints_rz ns⟩
    · rw [hG]
      exact fun ρ' H' v e R rz => un_bl rz
  rcases hS with (hS | ⟨o, hS⟩) | hS
  · obtain ⟨o, e2⟩ := env0_frz e0 hS
    refine codeAny_mono (core _ e2 (.inl ⟨o, upd_same⟩) (tabs_put hT hS (fun _ z => nomatch z) fun _ _ z => by unfold LamX.CodeO at z; cases z)) fun r s' h => ?_
    cases r with
    | error e =>
      obtain ⟨_, _, _, _, _, _, _, _, _, _, _, _, z⟩ := h
      exact z.elim
    | ok fl =>
      cases fl with
      | ret u =>
        obtain ⟨v, H', h1, h2, h3, h4, h5, h6⟩ := h
        exact ⟨v, H', h1, h2, un_frz hS h3, h4, h5, h6⟩
      | next => exact h
      | brk => exact h
      | cont => exact h
  · exact core H e0 (.inl ⟨o, hS⟩) hT
  · exact core H e0 (.inr hS) hT
end
/-- the law's promise, at the head's heap -/
theorem lawAt {l : PySem.W.OpenLaw} {t : TX} {w : World} {K : PySem.W.Frag} {mg : Str → Option Value} {h : Heap} {fa : Addr} {fas : List He.Fa} {k d : Nat} {f : Fd} (KX : K.In h) (G : h.Ns mainGlobals mg) (c : He.SaysX fas t.fn t.tabs t.tf (exB t) w h K) (hfa : mg "law" = some (.ref fa))
    (hd : ∀ f ∈ t.fs, f.d.dfl.length = 0 ∧ f.d.kwd.length = 0) (hB : ∀ f ∈ t.fs, fdB t.T f = true) (hb : ∀ f ∈ t.fs, Bd f) (hi : ∀ q ∈ t.ini, BdI q) (hk : t.fs[k]? = some f) (hat : f.d.at_ = (("law" : Str), none)) (hglo : (He.Fa.glo "law") ∈ fas) (hr : Room (d + 3) callerA)
    (plain : ∀ ns : List Int, ns.length ≤ 63 → (∀ z ∈ ns, Builtin.Int.intBits z ≤ 1048576) → ∃ G, (callD t.T t.sub t.fs (d + 3)).cf k [.rol (ns.map .int)] [] = .ok (.bl true) G) : LawAtG l w K 63 mg fa h := by
  have efa : (t.c K).fa k = fa := by
    show He.fAd K (t.at_ k) = fa
    unfold TX.at_
    rw [hk]
    show He.fAd K f.d.at_ = fa
    rw [hat]
    have := hfa.symm.trans (He.glo_ok KX G (c.t.d.facts hglo))
    cases this
    rfl
  refine ⟨t.tf.map (He.cT K), fun p hp => ?_, fun p hp => ?_, fun p hp => ?_, fun s H base a ns hl hbits hH hS Kb Gb hT e0 => ?_⟩
  · obtain ⟨q, hq, rfl⟩ := List.mem_map.mp hp
    exact c.empty q hq
  · obtain ⟨q, hq, rfl⟩ := List.mem_map.mp hp
    exact c.out q hq
  · obtain ⟨q, hq, rfl⟩ := List.mem_map.mp hp
    exact PySem.W.codeHd_of_K KX (c.hd q hq)
  · have q := (callD_ok (tx_of (P := l.prog) (w := w) Kb Gb c hT hd hi) hB hb (d + 3)).1 k (t.c K).dy
    rw [efa] at q
    refine law_run (n := 63) rfl q plain hr e0 hl hbits hS fun p hp => ?_
    obtain ⟨g, hg, rfl⟩ := List.mem_map.mp hp
    exact LamX.TabS.nil (hH _ (List.mem_map.mpr ⟨g.d.at_, List.mem_map.mpr ⟨g, hg, rfl⟩, rfl⟩))
end Zy
end
section
set_option Elab.async false
set_option linter.all false
set_option maxRecDepth 100000
set_option maxHeartbeats 4000000
set_option autoImplicit false
/-! rewriting meanings -/
namespace Zy
open PySem L2
section
variable {l : L} {G : GH} {a b c : DE} {ta tb : DT} {as bs : DA}
@[simp] theorem dC_ap {z : Z} : dC z l G = .ok z G := rfl
@[simp] theorem dBin_ap {op : Operator} : dBin op a b l G = (a l G).bind fun x G1 => (b l G1).bind fun y G2 => zBin op x y G2 := rfl
@[simp] theorem dCmp_ap {op : CmpOp} : dCmp op a b l G = (a l G).bind fun x G1 => (b l G1).bind fun y G2 => zCmp op x y G2 := rfl
@[simp] theorem dChn_ap {o1 o2 : CmpOp} : dChn o1 o2 a b c l G = (a l G).bind fun x G1 => (b l G1).bind fun y G2 => (zCmp o1 x y G2).bind fun r G3 => match r with
  | .bl true => (c l G3).bind fun z G4 => zCmp o2 y z G4
  | .bl false => .ok (.bl false) G3
  | _ => .bad := rfl
@[simp] theorem dNeg_ap : dNeg a l G = (a l G).bind zNeg := rfl
@[simp] theorem dNot_ap : dNot a l G = (a l G).bind fun x G1 => truD x G1 fun b => .ok (.bl (!b)) G1 := rfl
@[simp] theorem dAnd_ap : dAnd a b l G = (a l G).bind fun x G1 => truD x G1 fun t => if t then b l G1 else .ok x G1 := rfl
@[simp] theorem dOr_ap : dOr a b l G = (a l G).bind fun x G1 => truD x G1 fun t => if t then .ok x G1 else b l G1 := rfl
@[simp] theorem dTru_ap : dTru a l G = (a l G).bind fun x G1 => truD x G1 fun b => .ok b G1 := rfl
@[simp] theorem uAnd_ap : uAnd ta tb l G = (ta l G).bind fun t G1 => if t then tb l G1 else .ok false G1 := rfl
@[simp] theorem uOr_ap : uOr ta tb l G = (ta l G).bind fun t G1 => if t then .ok true G1 else tb l G1 := rfl
@[simp] theorem uNot_ap : uNot ta l G = (ta l G).bind fun t G1 => .ok (!t) G1 := rfl
@[simp] theorem uB_ap : uB a l G = (a l G).bind fun x G1 => match x with
  | .bl b => .ok b G1
  | _ => .bad := rfl
@[simp] theorem dIf_ap : dIf ta a b l G = (ta l G).bind fun k G1 => if k then a l G1 else b l G1 := rfl
@[simp] theorem dNil_ap : dNil l G = .ok [] G := rfl
@[simp] theorem dCons_ap : dCons a as l G = (a l G).bind fun x G1 => (as l G1).bind fun xs G2 => .ok (x :: xs) G2 := rfl
@[simp] theorem dTup_ap : dTup as l G = (as l G).bind fun xs G1 => if xs.length ≤ sizeLine then .ok (.tup xs) G1 else .bad := rfl
@[simp] theorem dLst_ap : dLst as l G = (as l G).bind fun xs G1 => if xs.length ≤ sizeLine then newO (.lst xs) G1 else .bad := rfl
@[simp] theorem dCall_ap {cf : CF} {k : Nat} : dCall cf k as l G = (as l G).bind fun xs G1 => cf k xs G1 := rfl
@[simp] theorem dFn_ap {f : List Z → GH → R Z} : dFn f as l G = (as l G).bind f := rfl
@[simp] theorem dIx_ap : dIx a b l G = (a l G).bind fun x G1 => (b l G1).bind fun y G2 => zIx x y G2 := rfl
@[simp] theorem dNoPart_ap : dNoPart l G = .ok none G := rfl
@[simp] theorem dPart_ap : dPart a l G = (a l G).bind fun x G1 => match x with
  | .int i => .ok (some i) G1
  | _ => .bad := rfl
@[simp] theorem dSlc_ap {lo hi : L → GH → R (Option Int)} : dSlc a lo hi l G = (a l G).bind fun x G1 => (lo l G1).bind fun i G2 => (hi l G2).bind fun j G3 => zSlc x i j G3 := rfl
@[simp] theorem dMth_ap {m : MF} {ts : List String} : dMth m ts a as l G = (a l G).bind fun x G1 => match recvT G1 x with
  | some T => if ts.contains T then (as l G1).bind fun xs G2 => m T x xs G2 else .bad
  | none => .bad := rfl
@[simp] theorem dWix_ap {es : List (List Nat × Z)} : dWix es a l G = (a l G).bind fun x G1 => match x with
  | .str y => match es.lookup y with
    | some z => .ok z G1
    | none => .bad
  | _ => .bad := rfl
@[simp] theorem dNewD_ap : dNewD l G = newO (.dK [] []) G := rfl
@[simp] theorem dIter_ap : dIter a l G = (a l G).bind fun x G1 => match toItr G1 x with
  | some it => .ok it G1
  | none => .bad := rfl
@[simp] theorem dRng1_ap : dRng1 as l G = (as l G).bind fun xs G1 => match xs with
  | [.int j] => if okR j then .ok (.pure (rngZ 0 j)) G1 else .bad
  | _ => .bad := rfl
@[simp] theorem dRng2_ap : dRng2 as l G = (as l G).bind fun xs G1 => match xs with
  | [.int i, .int j] => if okR i && okR j then .ok (.pure (rngZ i j)) G1 else .bad
  | _ => .bad := rfl
@[simp] theorem dYes_ap : dYes l G = .ok true G := rfl
@[simp] theorem dComp_ap {di : DI} {p : Pat} {t : DT} {e : DE} {own : List Nat} : dComp di p t e own l G = (di l G).bind fun it G1 => lcGo it p t e G1.length (wipeZ l own) it.len 0 (G1 ++ [.lst []]) := rfl
-- slots
theorem dVar_of {i : Nat} {z : Z} (h : l[i]? = some (some z)) (hz : z ≠ .ex) : dVar i l G = .ok z G := by
  unfold dVar
  split
  · rename_i e; rw [h] at e; cases e; exact absurd rfl hz
  · rename_i e; rw [h] at e; cases e; rfl
  · rename_i h1 h2; exact absurd h (h2 z)
@[simp] theorem dVar_int {i : Nat} {x : Int} {l0 : L} (h : l0[i]? = some (some (.int x))) : dVar i l0 G = .ok (.int x) G := dVar_of h (fun q => nomatch q)
@[simp] theorem newO_ap {z : ZO} : newO z G = .ok (.ref G.length) (G ++ [z]) := rfl
@[simp] theorem truD_bl {α : Type} {x : Bool} {f : Bool → R α} : truD (.bl x) G f = f x := rfl
@[simp] theorem truD_int {α : Type} {x : Int} {f : Bool → R α} : truD (.int x) G f = f (x != 0) := rfl
@[simp] theorem truD_non {α : Type} {f : Bool → R α} : truD .non G f = f false := rfl
@[simp] theorem truD_str {α : Type} {x : List Nat} {f : Bool → R α} : truD (.str x) G f = f (!x.isEmpty) := rfl
@[simp] theorem truD_tup {α : Type} {x : List Z} {f : Bool → R α} : truD (.tup x) G f = f (!x.isEmpty) := rfl
-- statements
variable {s1 s2 : DS} {g : DG}
@[simp] theorem dSeq_ap : dSeq s1 s2 l G = (s1 l G).seq s2 := rfl
@[simp] theorem seq_nx {f : DS} : (S.nx l G).seq f = f l G := rfl
@[simp] theorem seq_rt {f : DS} {z : Z} : (S.rt z G).seq f = .rt z G := rfl
@[simp] theorem seq_bk {f : DS} : (S.bk l G).seq f = .bk l G := rfl
@[simp] theorem seq_ct {f : DS} : (S.ct l G).seq f = .ct l G := rfl
@[simp] theorem seq_exc {f : DS} {x : XR} : (S.exc x l G).seq f = .exc x l G := rfl
@[simp] theorem seq_bad {f : DS} : S.bad.seq f = .bad := rfl
@[simp] theorem tgt_nx {f : DS} : (S.nx l G).tgt f = f l G := rfl
@[simp] theorem tgt_exc {f : DS} {x : XR} : (S.exc x l G).tgt f = .exc x l G := rfl
@[simp] theorem dRet_ap : dRet a l G = (a l G).st l fun z G1 => .rt z G1 := rfl
@[simp] theorem dRetN_ap : dRetN l G = .rt .non G := rfl
@[simp] theorem dExp_ap : dExp a l G = (a l G).st l fun _ G1 => .nx l G1 := rfl
@[simp] theorem dAsg_ap : dAsg g a l G = (a l G).st l fun z G1 => (g z l G1).tgt .nx := rfl
@[simp] theorem dIfS_ap : dIfS ta s1 s2 l G = (ta l G).st l fun k G1 => if k then s1 l G1 else s2 l G1 := rfl
@[simp] theorem dNop_ap : dNop l G = .nx l G := rfl
@[simp] theorem dBrk_ap : dBrk l G = .bk l G := rfl
@[simp] theorem dCnt_ap : dCnt l G = .ct l G := rfl
@[simp] theorem dPar_ap {i j : Nat} : dPar i j as l G = (as l G).st l fun xs G1 => match xs with
  | [x, y] => .nx ((l.set i (some x)).set j (some y)) G1
  | _ => .bad := rfl
@[simp] theorem dFor_ap {di : DI} {b : DS} : dFor di g b l G = (di l G).st l fun it G1 => forLoop it g b it.len 0 l G1 := rfl
@[simp] theorem dRaise_ap {k : Nat} : dRaise k l G = .exc ⟨.own k, none⟩ l G := rfl
@[simp] theorem dTry_ap {sub : XC → XC → Option Bool} {b : DS} {hs : List HZ} : dTry sub b hs l G = match b l G with
  | .exc x l G => dHs sub x l G hs
  | r => r := rfl
@[simp] theorem dgName_ap {i : Nat} {z : Z} : dgName i z l G = .nx (l.set i (some z)) G := rfl
@[simp] theorem dgTup_ap {n : Nat} {gs : DGs} {z : Z} : dgTup n gs z l G = match its G z with
  | some xs => if xs.length = n then gs xs l G else .bad
  | none => .bad := rfl
@[simp] theorem dgCons_ap {gs : DGs} {z : Z} {zs : List Z} : dgCons g gs (z :: zs) l G = (g z l G).tgt (gs zs) := rfl
@[simp] theorem dgNil_ap : dgNil [] l G = .nx l G := rfl
@[simp] theorem dgSub_ap {z : Z} : dgSub a b z l G = (a l G).st l fun x G1 => (b l G1).st l fun y G2 => match x, y with
  | .ref n, .int k => match lstAt G2 n with
    | some xs => match ixN xs.length k with
      | some j => .nx l (G2.set n (.lst (xs.set j z)))
      | none => .bad
    | none => .bad
  | _, _ => .bad := rfl
@[simp] theorem fin_rt {z : Z} : (S.rt z G).fin = .ok z G := rfl
@[simp] theorem fin_nx : (S.nx l G).fin = .ok .non G := rfl
@[simp] theorem fin_exc {x : XR} : (S.exc x l G).fin = .exc x G := rfl
@[simp] theorem on1_ap {f : Z → GH → R Z} {x : Z} : on1 f [x] G = f x G := rfl
@[simp] theorem on2_ap {f : Z → Z → GH → R Z} {x y : Z} : on2 f [x, y] G = f x y G := rfl
@[simp] theorem cmp_lt {i j : Int} : zCmp .Lt (.int i) (.int j) G = .ok (.bl (decide (i < j))) G := rfl
@[simp] theorem cmp_le {i j : Int} : zCmp .LtE (.int i) (.int j) G = .ok (.bl (decide (i ≤ j))) G := rfl
@[simp] theorem cmp_gt {i j : Int} : zCmp .Gt (.int i) (.int j) G = .ok (.bl (decide (j < i))) G := rfl
@[simp] theorem cmp_ge {i j : Int} : zCmp .GtE (.int i) (.int j) G = .ok (.bl (decide (j ≤ i))) G := rfl
@[simp] theorem cmp_eqi {i j : Int} : zCmp .Eq (.int i) (.int j) G = .ok (.bl (i == j)) G := rfl
@[simp] theorem cmp_nei {i j : Int} : zCmp .NotEq (.int i) (.int j) G = .ok (.bl (!(i == j))) G := rfl
@[simp] theorem cmp_eqs {i j : List Nat} : zCmp .Eq (.str i) (.str j) G = .ok (.bl (i == j)) G := rfl
@[simp] theorem cmp_nes {i j : List Nat} : zCmp .NotEq (.str i) (.str j) G = .ok (.bl (!(i == j))) G := rfl
@[simp] theorem bin_add {i j : Int} : zBin .Add (.int i) (.int j) G = .ok (.int (i + j)) G := rfl
@[simp] theorem bin_sub {i j : Int} : zBin .Sub (.int i) (.int j) G = .ok (.int (i - j)) G := rfl
theorem bin_mod {i j : Int} (h : j ≠ 0) : zBin .Mod (.int i) (.int j) G = .ok (.int (i.fmod j)) G := if_pos h
theorem bin_mul {i j : Int} (h : mulOk i j = true) : zBin .Mult (.int i) (.int j) G = .ok (.int (i * j)) G := if_pos h
theorem bin_div {i j : Int} (h : j ≠ 0) (h2 : j.natAbs < 1073741824) : zBin .FloorDiv (.int i) (.int j) G = .ok (.int (i.fdiv j)) G := if_pos (by simp [h, h2])
theorem mulOk_l {i j : Int} (h : i.natAbs < 2 ^ 64) : mulOk i j = true := by unfold mulOk; simp [h]
theorem mulOk_r {i j : Int} (h : j.natAbs < 2 ^ 64) : mulOk i j = true := by unfold mulOk; simp [h]
/-! ### walks over items that stand -/
theorem for_pure {g : DG} {body : DS} (xs : List Z) (P : Nat → L → GH → Prop) {l : L} {G : GH} (h0 : P 0 l G)
    (step : ∀ (i : Nat) z l G, xs[i]? = some z → P i l G → ∃ l1 G1 l2 G2, g z l G = .nx l1 G1 ∧ (body l1 G1 = .nx l2 G2 ∨ body l1 G1 = .ct l2 G2) ∧ P (i + 1) l2 G2) :
    ∃ l' G', forLoop (.pure xs) g body xs.length 0 l G = .nx l' G' ∧ P xs.length l' G' := by
  have key : ∀ (k i : Nat) (l : L) (G : GH), i + k = xs.length → P i l G → ∃ l' G', forLoop (.pure xs) g body k i l G = .nx l' G' ∧ P xs.length l' G' := by
    intro k
    induction k with
    | zero =>
      intro i l G hi hp
      refine ⟨l, G, ?_, by have : i = xs.length := by omega
                           rw [← this]; exact hp⟩
      unfold forLoop
      have : itNext (.pure xs) G i = some none := by show some xs[i]? = _; rw [List.getElem?_eq_none (by omega)]
      rw [this]
    | succ k ih =>
      intro i l G hi hp
      have hlt : i < xs.length := by omega
      have hz : xs[i]? = some xs[i] := List.getElem?_eq_getElem hlt
      obtain ⟨l1, G1, l2, G2, h1, h2, h3⟩ := step i _ l G hz hp
      obtain ⟨l', G', h4, h5⟩ := ih (i + 1) l2 G2 (by omega) h3
      refine ⟨l', G', ?_, h5⟩
      unfold forLoop
      have : itNext (.pure xs) G i = some (some xs[i]) := by show some xs[i]? = _; rw [hz]
      rw [this]
      simp only [h1]
      rcases h2 with h2 | h2 <;> rw [h2] <;> exact h4
  exact key xs.length 0 l G (by omega) h0
/-- a comprehension over items that stand, one name, no test -/
theorem lc_go {xs : List Z} {i : Nat} {e : DE} {l : L} {n : Nat} {G0 : GH} (P : Nat → List Z → GH → Prop)
    (step : ∀ (k : Nat) z acc G, xs[k]? = some z → P k acc G → lstAt G n = some acc → ∃ y G3, e (l.set i (some z)) G = .ok y G3 ∧ lstAt G3 n = some acc ∧ P (k + 1) (acc ++ [y]) (G3.set n (.lst (acc ++ [y]))))
    (hs : xs.length ≤ sizeLine) (h0 : P 0 [] G0) (hG : lstAt G0 n = some []) :
    ∃ acc G', lcGo (.pure xs) (.nm i) dYes e n l xs.length 0 G0 = .ok (.ref n) G' ∧ lstAt G' n = some acc ∧ acc.length = xs.length ∧ P xs.length acc G' := by
  have key : ∀ (k j : Nat) (acc : List Z) (G : GH), j + k = xs.length → acc.length = j → P j acc G → lstAt G n = some acc → ∃ acc' G', lcGo (.pure xs) (.nm i) dYes e n l k j G = .ok (.ref n) G' ∧ lstAt G' n = some acc' ∧ acc'.length = xs.length ∧ P xs.length acc' G' := by
    intro k
    induction k with
    | zero =>
      intro j acc G hj ha hp hl
      have hjx : j = xs.length := by omega
      refine ⟨acc, G, ?_, hl, by omega, by rw [← hjx]; exact hp⟩
      unfold lcGo
      have : itNext (.pure xs) G j = some none := by show some xs[j]? = _; rw [List.getElem?_eq_none (by omega)]
      rw [this]
    | succ k ih =>
      intro j acc G hj ha hp hl
      have hlt : j < xs.length := by omega
      have hz : xs[j]? = some xs[j] := List.getElem?_eq_getElem hlt
      obtain ⟨y, G3, h1, h2, h3⟩ := step j _ acc G hz hp hl
      obtain ⟨acc', G', h4, h5, h6, h7⟩ := ih (j + 1) (acc ++ [y]) _ (by omega) (by simp [ha]) h3 (by
        have q := lstAt_eq.mp h2
        refine lstAt_eq.mpr ?_
        rw [List.getElem?_set_self (List.getElem?_eq_some_iff.mp q).1])
      refine ⟨acc', G', ?_, h5, h6, h7⟩
      unfold lcGo
      have : itNext (.pure xs) G j = some (some xs[j]) := by show some xs[j]? = _; rw [hz]
      rw [this]
      simp only [patD, dYes_ap, h1, h2]
      rw [if_pos (by omega)]
      exact h4
  exact key xs.length 0 [] G0 (by omega) rfl h0 hG
theorem lstAt_new {G : GH} {xs : List Z} : lstAt (G ++ [.lst xs]) G.length = some xs := lstAt_eq.mpr (by simp)
theorem lstAt_app {G E : GH} {n : Nat} {xs : List Z} (h : lstAt G n = some xs) : lstAt (G ++ E) n = some xs := by
  have q := lstAt_eq.mp h
  exact lstAt_eq.mpr (by rw [List.getElem?_append_left (List.getElem?_eq_some_iff.mp q).1]; exact q)
theorem set_new {G : GH} {x y : ZO} : (G ++ [x]).set G.length y = G ++ [y] := by
  rw [List.set_append_right _ _ (Nat.le_refl _)]; simp
theorem set_app {G E : GH} {n : Nat} {y : ZO} (h : G.length ≤ n) : (G ++ E).set n y = G ++ E.set (n - G.length) y := List.set_append_right _ _ h
/-- a walk over a list of the heap that stands -/
theorem for_live {g : DG} {body : DS} {n : Nat} (xs : List Z) (P : Nat → L → GH → Prop) {l : L} {G : GH} (h0 : P 0 l G) (hP : ∀ k l G, P k l G → lstAt G n = some xs)
    (step : ∀ (i : Nat) z l G, xs[i]? = some z → P i l G → ∃ l1 G1 l2 G2, g z l G = .nx l1 G1 ∧ (body l1 G1 = .nx l2 G2 ∨ body l1 G1 = .ct l2 G2) ∧ P (i + 1) l2 G2) :
    ∃ l' G', forLoop (.live n xs.length) g body xs.length 0 l G = .nx l' G' ∧ P xs.length l' G' := by
  have key : ∀ (k i : Nat) (l : L) (G : GH), i + k = xs.length → P i l G → ∃ l' G', forLoop (.live n xs.length) g body k i l G = .nx l' G' ∧ P xs.length l' G' := by
    intro k
    induction k with
    | zero =>
      intro i l G hi hp
      refine ⟨l, G, ?_, by have : i = xs.length := by omega
                           rw [← this]; exact hp⟩
      unfold forLoop
      have : itNext (.live n xs.length) G i = some none := by
        unfold itNext
        simp only [hP _ _ _ hp, if_true]
        rw [List.getElem?_eq_none (by omega)]
      rw [this]
    | succ k ih =>
      intro i l G hi hp
      have hlt : i < xs.length := by omega
      have hz : xs[i]? = some xs[i] := List.getElem?_eq_getElem hlt
      obtain ⟨l1, G1, l2, G2, h1, h2, h3⟩ := step i _ l G hz hp
      obtain ⟨l', G', h4, h5⟩ := ih (i + 1) l2 G2 (by omega) h3
      refine ⟨l', G', ?_, h5⟩
      unfold forLoop
      have : itNext (.live n xs.length) G i = some (some xs[i]) := by
        unfold itNext
        simp only [hP _ _ _ hp, if_true, hz]
      rw [this]
      simp only [h1]
      rcases h2 with h2 | h2 <;> rw [h2] <;> exact h4
  exact key xs.length 0 l G (by omega) h0
theorem toItr_ref {n : Nat} {xs : List Z} (h : lstAt G n = some xs) : toItr G (.ref n) = some (.live n xs.length) := by
  show (lstAt G n).map _ = _
  rw [h]; rfl
theorem its_ref {n : Nat} {xs : List Z} (h : lstAt G n = some xs) : its G (.ref n) = some xs := h
theorem len_ref {n : Nat} {xs : List Z} (h : lstAt G n = some xs) : zLen (.ref n) G = .ok (.int xs.length) G := by
  show (match its G (.ref n) with | some xs => (R.ok (Z.int (xs.length : Int)) G : R Z) | none => .bad) = _
  rw [its_ref h]
theorem ix_ref {n : Nat} {xs : List Z} {i : Int} {z : Z} (h : lstAt G n = some xs) (h2 : atI xs i = some z) : zIx (.ref n) (.int i) G = .ok z G := by
  show (match (its G (.ref n)).bind fun xs => atI xs i with | some z => R.ok z G | none => .bad) = _
  rw [its_ref h, Option.bind_some, h2]
theorem slc_ref {n : Nat} {xs : List Z} {lo hi : Option Int} (h : lstAt G n = some xs) : zSlc (.ref n) lo hi G = .ok (.ref G.length) (G ++ [.lst (cutZ xs lo hi)]) := by
  show (match rdl G (.ref n) with | some xs => newO (.lst (cutZ xs lo hi)) G | none => .bad) = _
  rw [show rdl G (.ref n) = some xs from h]; rfl
theorem recv_ref {n : Nat} {xs : List Z} (h : lstAt G n = some xs) : recvT G (.ref n) = some "list" := by
  show (lstAt G n).map _ = _
  rw [h]; rfl
theorem app_ref {n : Nat} {xs : List Z} {z : Z} (h : lstAt G n = some xs) (hs : xs.length < sizeLine) : zAppend "list" (.ref n) [z] G = .ok .non (G.set n (.lst (xs ++ [z]))) := by
  unfold zAppend
  simp only [h, hs, if_true]
  rfl
theorem eq_refs {a b : Nat} {xs ys : List Z} {r : Bool} (ha : lstAt G a = some xs) (hb : lstAt G b = some ys) (h : zall (zeq 39 G) xs ys = some r) : zCmp .Eq (.ref a) (.ref b) G = .ok (.bl r) G := by
  have : zeq 40 G (.ref a) (.ref b) = some r := by
    show (match kd G (.ref a), kd G (.ref b) with | some x, some y => keq (zeq 39 G) x y | _, _ => none) = _
    have e1 : kd G (.ref a) = some (.lst xs) := by show (lstAt G a).map _ = _; rw [ha]; rfl
    have e2 : kd G (.ref b) = some (.lst ys) := by show (lstAt G b).map _ = _; rw [hb]; rfl
    rw [e1, e2]; exact h
  show ofB (zeq 40 G (.ref a) (.ref b)) G = _
  rw [this]; rfl
theorem ne_refs {a b : Nat} {xs ys : List Z} {r : Bool} (ha : lstAt G a = some xs) (hb : lstAt G b = some ys) (h : zall (zeq 39 G) xs ys = some r) : zCmp .NotEq (.ref a) (.ref b) G = .ok (.bl (!r)) G := by
  have : zeq 40 G (.ref a) (.ref b) = some r := by
    show (match kd G (.ref a), kd G (.ref b) with | some x, some y => keq (zeq 39 G) x y | _, _ => none) = _
    have e1 : kd G (.ref a) = some (.lst xs) := by show (lstAt G a).map _ = _; rw [ha]; rfl
    have e2 : kd G (.ref b) = some (.lst ys) := by show (lstAt G b).map _ = _; rw [hb]; rfl
    rw [e1, e2]; exact h
  show ofB ((zeq 40 G (.ref a) (.ref b)).map (!·)) G = _
  rw [this]; rfl
end
end Zy
end
section
set_option Elab.async false
set_option linter.all false
set_option maxRecDepth 100000
set_option maxHeartbeats 4000000
set_option autoImplicit false
/-! the draws that every law makes -/
namespace Zy
open PySem L2
def streamT : DS := (dSeq (dAsg (dgName 3) (dBin .Mod (dFn (on1 zAbs) (dCons (dVar 2) dNil)) (dBin .Pow (dBin .Pow (dC (.int (10))) (dC (.int (60)))) (dC (.int (12)))))) (dSeq (dAsg (dgName 4) (dBin .Mod (dBin .Add (dBin .Add (dBin .Add (dBin .Mult (dBin .Mod (dVar 3) (dC (.int (2147483629)))) (dC (.int (48271)))) (dBin .Mult (dC (.int (977))) (dVar 1))) (dBin .Mult (dC (.int (2))) (dFn (tyZ "int") (dCons (dCmp .Lt (dVar 2) (dC (.int (0)))) dNil)))) (dC (.int (11)))) (dC (.int (2147483647))))) (dSeq (dRet (dLst (dCons (dFn (on2 zMax2) (dCons (dC (.int (0))) (dCons (dBin .Sub (dVar 3) (dBin .Pow (dC (.int (10))) (dC (.int (18))))) dNil))) (dCons (dVar 4) (dCons (dC (.int (0))) dNil))))) dNop)))
/-- _law_stream -/
def streamB : DS := (dSeq (dAsg (dgName 2) (dBin .Add (dBin .Mult (dC (.int (7))) (dVar 1)) (dC (.int (3))))) (dSeq (dIfS (uB (dCmp .Lt (dVar 1) (dFn (on1 zLen) (dCons (dVar 0) dNil)))) (dSeq (dAsg (dgName 2) (dIx (dVar 0) (dVar 1))) dNop) dNop) streamT))
/-- _law_draw -/
def drawB : DS := (dSeq (dIfS (uB (dCmp .Gt (dIx (dVar 0) (dC (.int (0)))) (dC (.int (0))))) (dSeq (dAsg (dgName 2) (dBin .Mod (dIx (dVar 0) (dC (.int (0)))) (dVar 1))) (dSeq (dAsg (dgSub (dVar 0) (dC (.int (0)))) (dBin .FloorDiv (dIx (dVar 0) (dC (.int (0)))) (dVar 1))) (dSeq (dRet (dVar 2)) dNop))) dNop) (dSeq (dAsg (dgSub (dVar 0) (dC (.int (2)))) (dBin .Add (dIx (dVar 0) (dC (.int (2)))) (dC (.int (1))))) (dSeq (dAsg (dgName 3) (dBin .Mod (dBin .Add (dIx (dVar 0) (dC (.int (1)))) (dBin .Mult (dC (.int (1000003))) (dIx (dVar 0) (dC (.int (2)))))) (dC (.int (2305843009213693951))))) (dSeq (dAsg (dgName 4) (dBin .Mod (dBin .Add (dBin .Mult (dBin .Mod (dBin .Mult (dVar 3) (dVar 3)) (dC (.int (2305843009213693921)))) (dVar 3)) (dBin .Mult (dC (.int (8191))) (dIx (dVar 0) (dC (.int (2)))))) (dC (.int (2305843009213693907))))) (dSeq (dRet (dBin .Mod (dBin .FloorDiv (dVar 4) (dC (.int (4096)))) (dVar 1))) dNop)))))
theorem lstAt_set {G : GH} {n : Nat} {xs ys : List Z} (h : lstAt G n = some xs) : lstAt (G.set n (.lst ys)) n = some ys := by
  have h1 := lstAt_eq.mp h
  refine lstAt_eq.mpr ?_
  rw [List.getElem?_set_self (List.getElem?_eq_some_iff.mp h1).1]
theorem fmod_pos (i : Int) {j : Int} (h : 0 < j) : 0 ≤ i.fmod j ∧ i.fmod j < j := ⟨Int.fmod_nonneg_of_pos i h, Int.fmod_lt_of_pos i h⟩
@[simp] theorem dVar_ref {i : Nat} {x : Nat} {l0 : L} {G : GH} (h : l0[i]? = some (some (.ref x))) : dVar i l0 G = .ok (.ref x) G := dVar_of h (fun q => nomatch q)
@[simp] theorem dVar_str {i : Nat} {x : List Nat} {l0 : L} {G : GH} (h : l0[i]? = some (some (.str x))) : dVar i l0 G = .ok (.str x) G := dVar_of h (fun q => nomatch q)
@[simp] theorem dVar_tup {i : Nat} {x : List Z} {l0 : L} {G : GH} (h : l0[i]? = some (some (.tup x))) : dVar i l0 G = .ok (.tup x) G := dVar_of h (fun q => nomatch q)
@[simp] theorem dVar_rol {i : Nat} {x : List Z} {l0 : L} {G : GH} (h : l0[i]? = some (some (.rol x))) : dVar i l0 G = .ok (.rol x) G := dVar_of h (fun q => nomatch q)
@[simp] theorem dVar_bl {i : Nat} {x : Bool} {l0 : L} {G : GH} (h : l0[i]? = some (some (.bl x))) : dVar i l0 G = .ok (.bl x) G := dVar_of h (fun q => nomatch q)
@[simp] theorem dVar_non {i : Nat} {l0 : L} {G : GH} (h : l0[i]? = some (some .non)) : dVar i l0 G = .ok .non G := dVar_of h (fun q => nomatch q)
theorem ix3_0 {G : GH} {n : Nat} {x y z : Z} (h : lstAt G n = some [x, y, z]) : zIx (.ref n) (.int 0) G = .ok x G := by
  show (match (lstAt G n).bind fun xs => atI xs 0 with | some z => R.ok z G | none => .bad) = _
  rw [h]; rfl
theorem ix3_1 {G : GH} {n : Nat} {x y z : Z} (h : lstAt G n = some [x, y, z]) : zIx (.ref n) (.int 1) G = .ok y G := by
  show (match (lstAt G n).bind fun xs => atI xs 1 with | some z => R.ok z G | none => .bad) = _
  rw [h]; rfl
theorem ix3_2 {G : GH} {n : Nat} {x y z : Z} (h : lstAt G n = some [x, y, z]) : zIx (.ref n) (.int 2) G = .ok z G := by
  show (match (lstAt G n).bind fun xs => atI xs 2 with | some z => R.ok z G | none => .bad) = _
  rw [h]; rfl
theorem draw_ok {G : GH} {n : Nat} {a b c tot : Int} (h : lstAt G n = some [.int a, .int b, .int c]) (ht : 0 < tot) (hb : tot < 1073741824) :
    ∃ d a' c', (drawB (stL 5 [.ref n, .int tot]) G).fin = .ok (.int d) (G.set n (.lst [.int a', .int b, .int c'])) ∧ 0 ≤ d ∧ d < tot := by
  have hn : n < G.length := (List.getElem?_eq_some_iff.mp (lstAt_eq.mp h)).1
  have ht0 : tot ≠ 0 := by omega
  have htn : tot.natAbs < 1073741824 := by omega
  have i0 := ix3_0 h
  have i1 := ix3_1 h
  have i2 := ix3_2 h
  unfold drawB stL
  by_cases ha : 0 < a
  · refine ⟨a.fmod tot, a.fdiv tot, c, ?_, fmod_pos a ht⟩
    simp [i0, ha, bin_mod ht0, bin_div ht0 htn, h, ixN]
  · have h2 : lstAt (G.set n (.lst [.int a, .int b, .int (c + 1)])) n = some [.int a, .int b, .int (c + 1)] := lstAt_set h
    have j1 := ix3_1 h2
    have j2 := ix3_2 h2
    have m1 : mulOk 1000003 (c + 1) = true := mulOk_l (by decide)
    have m3 : mulOk 8191 (c + 1) = true := mulOk_l (by decide)
    have b1 := fmod_pos (b + 1000003 * (c + 1)) (j := 2305843009213693951) (by decide)
    have m2 : mulOk ((b + 1000003 * (c + 1)).fmod 2305843009213693951) ((b + 1000003 * (c + 1)).fmod 2305843009213693951) = true := mulOk_l (by omega)
    have b2 := fmod_pos ((b + 1000003 * (c + 1)).fmod 2305843009213693951 * (b + 1000003 * (c + 1)).fmod 2305843009213693951) (j := 2305843009213693921) (by decide)
    have m4 : ∀ x, mulOk (((b + 1000003 * (c + 1)).fmod 2305843009213693951 * (b + 1000003 * (c + 1)).fmod 2305843009213693951).fmod 2305843009213693921) x = true := fun x => mulOk_l (by omega)
    refine ⟨(((((b + 1000003 * (c + 1)).fmod 2305843009213693951 * (b + 1000003 * (c + 1)).fmod 2305843009213693951).fmod 2305843009213693921 * (b + 1000003 * (c + 1)).fmod 2305843009213693951 + 8191 * (c + 1)).fmod 2305843009213693907).fdiv 4096).fmod tot, a, c + 1, ?_, fmod_pos _ ht⟩
    simp [i0, ha, i2, h, ixN, j1, j2, bin_mul m1, bin_mul m2, bin_mul m3, bin_mul (m4 _), bin_mod ht0, bin_mod (show (2305843009213693951 : Int) ≠ 0 by decide), bin_mod (show (2305843009213693921 : Int) ≠ 0 by decide), bin_mod (show (2305843009213693907 : Int) ≠ 0 by decide), bin_div (show (4096 : Int) ≠ 0 by decide) (show (4096 : Int).natAbs < 1073741824 by decide)]
theorem pow_ap {i j : Int} {G : GH} (h : (decide (0 ≤ j) && decide ((Builtin.Int.intBits i : Int) * j ≤ 2 ^ 27)) = true) : zBin .Pow (.int i) (.int j) G = .ok (.int (i ^ j.toNat)) G := if_pos h
def bigN : Int := (10 ^ 60) ^ 12
def tenN : Int := 10 ^ 60
theorem pow_tens {G : GH} : zBin .Pow (.int 10) (.int 60) G = .ok (.int tenN) G := pow_ap (by decide +kernel)
theorem pow_tens2 {G : GH} : zBin .Pow (.int tenN) (.int 12) G = .ok (.int bigN) G := pow_ap (by decide +kernel)
theorem pow_18 {G : GH} : zBin .Pow (.int 10) (.int 18) G = .ok (.int 1000000000000000000) G := pow_ap (by decide +kernel)
theorem len_rol {xs : List Z} {G : GH} : zLen (.rol xs) G = .ok (.int xs.length) G := rfl
theorem ix_rol {ns : List Int} {i : Nat} {G : GH} (h : i < ns.length) : ∃ x, zIx (.rol (ns.map .int)) (.int i) G = .ok (.int x) G := by
  refine ⟨ns[i], ?_⟩
  show (match (some (ns.map Z.int)).bind fun xs => atI xs i with | some z => R.ok z G | none => .bad) = _
  have : atI (ns.map Z.int) (i : Int) = some (.int ns[i]) := by
    unfold atI ixN
    simp [h]
  rw [Option.bind_some, this]
theorem int_bl {x : Bool} {G : GH} : tyZ "int" [.bl x] G = .ok (.int (b2z x)) G := rfl
theorem abs_ap {x : Int} {G : GH} : zAbs (.int x) G = .ok (.int x.natAbs) G := rfl
theorem max_ap {x y : Int} {G : GH} : zMax2 (.int x) (.int y) G = .ok (.int (if y > x then y else x)) G := rfl
theorem streamT_ok {G : GH} {v : Z} {at_ cell : Int} : ∃ a b, (streamT [some v, some (.int at_), some (.int cell), none, none] G).fin = .ok (.ref G.length) (G ++ [.lst [.int a, .int b, .int 0]]) := by
  have m3 : mulOk 977 at_ = true := mulOk_l (by decide)
  have m4 : ∀ x, mulOk 2 x = true := fun x => mulOk_l (by decide)
  have m5 : ∀ x, mulOk x 48271 = true := fun x => mulOk_r (by decide)
  have nz : bigN ≠ 0 := by decide +kernel
  have nn : 3 ≤ sizeLine := by rw [sizeLine_eq]; omega
  generalize hgr : (cell.natAbs : Int).fmod bigN = great
  refine ⟨if great - 1000000000000000000 > 0 then great - 1000000000000000000 else 0, (great.fmod 2147483629 * 48271 + 977 * at_ + 2 * b2z (decide (cell < 0)) + 11).fmod 2147483647, ?_⟩
  unfold streamT
  simp only [dSeq_ap, dAsg_ap, dBin_ap, dFn_ap, dCons_ap, dNil_ap, R.bind_ok, dC_ap, pow_tens, pow_tens2, pow_18]
  simp [abs_ap, bin_mod nz, hgr, bin_mod (show (2147483629 : Int) ≠ 0 by decide), bin_mod (show (2147483647 : Int) ≠ 0 by decide), bin_mul m3, bin_mul (m4 _), bin_mul (m5 _), int_bl, max_ap, nn, pow_18]
/-! ### what a part of a law leaves: all old objects but the stream -/
def StrAt (G : GH) (s : Nat) : Prop := ∃ a b c, lstAt G s = some [.int a, .int b, .int c]
structure Keep (s : Nat) (G G' : GH) : Prop where
  len : G.length ≤ G'.length
  old : ∀ m, m < G.length → m ≠ s → G'[m]? = G[m]?
  str : StrAt G s → StrAt G' s
theorem Keep.refl {s : Nat} {G : GH} : Keep s G G := ⟨Nat.le_refl _, fun _ _ _ => rfl, fun h => h⟩
theorem Keep.trans {s : Nat} {G G1 G2 : GH} (a : Keep s G G1) (b : Keep s G1 G2) : Keep s G G2 := ⟨Nat.le_trans a.len b.len, fun m h1 h2 => (b.old m (Nat.lt_of_lt_of_le h1 a.len) h2).trans (a.old m h1 h2), fun h => b.str (a.str h)⟩
theorem StrAt.lt {G : GH} {s : Nat} (h : StrAt G s) : s < G.length := by
  obtain ⟨a, b, c, h⟩ := h
  exact (List.getElem?_eq_some_iff.mp (lstAt_eq.mp h)).1
theorem StrAt.app {G E : GH} {s : Nat} (h : StrAt G s) : StrAt (G ++ E) s := by
  obtain ⟨a, b, c, h⟩ := h
  exact ⟨a, b, c, lstAt_app h⟩
theorem Keep.app {s : Nat} {G E : GH} : Keep s G (G ++ E) := ⟨by simp, fun m h1 _ => List.getElem?_append_left h1, fun h => h.app⟩
theorem Keep.set {s : Nat} {G G1 : GH} {m : Nat} {y : ZO} (k : Keep s G G1) (h : G.length ≤ m) : Keep s G (G1.set m y) := by
  refine ⟨by simpa using k.len, fun j h1 h2 => ?_, fun hs => ?_⟩
  · rw [List.getElem?_set_ne (by omega)]; exact k.old j h1 h2
  · obtain ⟨a, b, c, q⟩ := k.str hs
    have := hs.lt
    refine ⟨a, b, c, lstAt_eq.mpr ?_⟩
    rw [List.getElem?_set_ne (by omega)]; exact lstAt_eq.mp q
theorem Keep.lst {s : Nat} {G G' : GH} (k : Keep s G G') {m : Nat} {xs : List Z} (h : lstAt G m = some xs) (hm : m ≠ s) : lstAt G' m = some xs := by
  have q := lstAt_eq.mp h
  refine lstAt_eq.mpr ?_
  rw [k.old m (List.getElem?_eq_some_iff.mp q).1 hm]; exact q
theorem draw_keep {G : GH} {n : Nat} {tot : Int} (h : StrAt G n) (ht : 0 < tot) (hb : tot < 1073741824) : ∃ d G', (drawB (stL 5 [.ref n, .int tot]) G).fin = .ok (.int d) G' ∧ Keep n G G' ∧ 0 ≤ d ∧ d < tot := by
  obtain ⟨a, b, c, h⟩ := h
  obtain ⟨d, a', c', h1, h2, h3⟩ := draw_ok h ht hb
  refine ⟨d, _, h1, ⟨by simp, fun m _ hm => List.getElem?_set_ne (Ne.symm hm), fun _ => ⟨a', b, c', lstAt_set h⟩⟩, h2, h3⟩
/-- _law_stream -/
theorem stream_ok {G : GH} {ns : List Int} {at_ : Nat} : ∃ a b, (streamB (stL 5 [.rol (ns.map .int), .int at_]) G).fin = .ok (.ref G.length) (G ++ [.lst [.int a, .int b, .int 0]]) := by
  have m0 : mulOk 7 at_ = true := mulOk_l (by decide)
  unfold streamB stL
  by_cases hl : at_ < ns.length
  · obtain ⟨x, hx⟩ := ix_rol (G := G) hl
    obtain ⟨a, b, h⟩ := streamT_ok (G := G) (v := .rol (ns.map .int)) (at_ := at_) (cell := x)
    refine ⟨a, b, ?_⟩
    rw [← h]
    simp [bin_mul m0, len_rol, hl, hx]
  · obtain ⟨a, b, h⟩ := streamT_ok (G := G) (v := .rol (ns.map .int)) (at_ := at_) (cell := 7 * at_ + 3)
    refine ⟨a, b, ?_⟩
    rw [← h]
    simp [bin_mul m0, len_rol, hl]
end Zy
end
section
set_option Elab.async false
set_option linter.all false
set_option maxRecDepth 100000
set_option maxHeartbeats 4000000
namespace K
open PySem PySem.Spec PyProof.Rows L2 Zy
/-! ### the text of law_k19_products_of_tables by tables (printed by zgen.py) -/
def top (i : Nat) : Stmt := PySem.Challenge.pw_openlimit_k19_products_of_tables.main.body.getD i (.Pass ⟨0, 0, 0, 0⟩)
def b_0 : Zy.St := .cons (.ret (.and (.bfn 0 (.acons (.var 0) (.acons (.glb 2) .anil))) (.and (.not (.bfn 0 (.acons (.var 0) (.acons (.glb 1) .anil)))) (.one (.chn .LtE .LtE (.var 1) (.var 0) (.var 2)))))) .nil
/-- is_integer -/
def f_0 : Fd := { d := ⟨("is_integer", none), "is_integer", "is_integer", defArgs (top 7), defBody (top 7), defScope (top 7), [], []⟩, N := ["value", "low", "high"], np := 3, body := b_0 }
def b_1 : Zy.St := .cons (.ret (.ife (.cmp .LtE (.wix 3 (.var 0)) (.wix 3 (.var 1))) (.var 0) (.var 1))) .nil
/-- better -/
def f_1 : Fd := { d := ⟨("better", none), "better", "better", defArgs (top 15), defBody (top 15), defScope (top 15), [], []⟩, N := ["one", "other"], np := 2, body := b_1 }
def b_2 : Zy.St := .cons (.ret (.ife (.cmp .GtE (.wix 4 (.var 0)) (.wix 4 (.var 1))) (.var 0) (.var 1))) .nil
/-- joined -/
def f_2 : Fd := { d := ⟨("joined", none), "joined", "joined", defArgs (top 16), defBody (top 16), defScope (top 16), [], []⟩, N := ["one", "other"], np := 2, body := b_2 }
def b_3 : Zy.St := .cons (.ret (.and (.bfn 0 (.acons (.var 0) (.acons (.glb 6) .anil))) (.one (.cmp .In (.var 0) (.glb 5))))) .nil
/-- is_grade -/
def f_3 : Fd := { d := ⟨("is_grade", none), "is_grade", "is_grade", defArgs (top 17), defBody (top 17), defScope (top 17), [], []⟩, N := ["value"], np := 1, body := b_3 }
def b_4 : Zy.St := .cons (.ife (.or (.not (.bfn 0 (.acons (.var 1) (.acons (.glb 10) .anil)))) (.one (.cmp .NotEq (.bfn 9 (.acons (.var 1) .anil)) (.var 0)))) (.cons (.ret (.cst (.bl false))) .nil) .nil) (.cons (.for_ (.var 1) (.nm 2) (.cons (.ife (.or (.not (.bfn 0 (.acons (.var 2) (.acons (.glb 10) .anil)))) (.or (.cmp .NotEq (.bfn 9 (.acons (.var 2) .anil)) (.var 0)) (.one (.not (.bfn 7 (.acons (.cpr (.var 2) (.nm 3) .yes (.call 8 (.acons (.var 3) .anil)) [3]) .anil)))))) (.cons (.ret (.cst (.bl false))) .nil) .nil) .nil)) (.cons (.ret (.cst (.bl true))) .nil))
/-- is_table_in -/
def f_4 : Fd := { d := ⟨("is_table_in", none), "is_table_in", "is_table_in", defArgs (top 18), defBody (top 18), defScope (top 18), [], []⟩, N := ["size", "value", "row", "grade"], np := 2, body := b_4 }
def b_5 : Zy.St := .cons (.ife (.not (.call 12 (.acons (.var 0) (.acons (.cst (.int (1))) (.acons (.glb 13) .anil))))) (.cons (.raiseF 14 (.var 0)) .nil) .nil) (.cons (.ret (.call 11 (.acons (.var 0) (.acons (.var 1) .anil)))) .nil)
/-- is_table -/
def f_5 : Fd := { d := ⟨("is_table", none), "is_table", "is_table", defArgs (top 19), defBody (top 19), defScope (top 19), [], []⟩, N := ["size", "value"], np := 2, body := b_5 }
def b_6 : Zy.St := .cons (.ife (.not (.call 11 (.acons (.var 0) (.acons (.var 1) .anil)))) (.cons (.raise_ 15) .nil) .nil) .nil
/-- require_table -/
def f_6 : Fd := { d := ⟨("require_table", none), "require_table", "require_table", defArgs (top 20), defBody (top 20), defScope (top 20), [], []⟩, N := ["size", "value"], np := 2, body := b_6 }
def b_7 : Zy.St := .cons (.ife (.or (.not (.bfn 0 (.acons (.var 0) (.acons (.glb 10) .anil)))) (.one (.not (.chn .LtE .LtE (.cst (.int (1))) (.bfn 9 (.acons (.var 0) .anil)) (.glb 13))))) (.cons (.raise_ 15) .nil) .nil) (.cons (.exp (.call 16 (.acons (.bfn 9 (.acons (.var 0) .anil)) (.acons (.var 0) .anil)))) .nil)
/-- require_any_table -/
def f_7 : Fd := { d := ⟨("require_any_table", none), "require_any_table", "require_any_table", defArgs (top 21), defBody (top 21), defScope (top 21), [], []⟩, N := ["value"], np := 1, body := b_7 }
def b_8 : Zy.St := .cons (.asg (.nm 2) (.lst .anil)) (.cons (.for_ (.var 0) (.nm 3) (.cons (.asgC 4 (.cpr (.enm 21 (.acons (.var 3) .anil)) (.tp (.cons (.nm 5) (.cons (.nm 6) .nil))) (.cmp .NotEq (.var 6) (.glb 20)) (.tup (.acons (.var 5) (.acons (.var 6) .anil))) [5, 6])) (.cons (.asg (.nm 7) (.lst .anil)) (.cons (.for_ (.rng1 17 (.acons (.bfn 9 (.acons (.var 3) .anil)) .anil)) (.nm 8) (.cons (.asg (.nm 9) (.glb 20)) (.cons (.for_ (.var 4) (.tp (.gcons (.nm 5) (.gcons (.nm 6) .gnil))) (.cons (.asg (.nm 9) (.call 18 (.acons (.var 9) (.acons (.call 19 (.acons (.var 6) (.acons (.ix (.ix (.var 1) (.var 5)) (.var 8)) .anil))) .anil)))) .nil)) (.cons (.exp (.mth .append (.var 7) (.acons (.var 9) .anil))) .nil)))) (.cons (.exp (.mth .append (.var 2) (.acons (.bfn 10 (.acons (.var 7) .anil)) .anil))) .nil))))) (.cons (.ret (.bfn 10 (.acons (.var 2) .anil))) .nil))
/-- times -/
def f_8 : Fd := { d := ⟨("times", none), "times", "times", defArgs (top 22), defBody (top 22), defScope (top 22), [], []⟩, N := ["one", "other", "rows", "row", "known", "k", "grade", "entries", "j", "found"], np := 2, body := b_8 }
def b_9 : Zy.St := .cons (.exp (.call 23 (.acons (.var 0) .anil))) (.cons (.asg (.nm 2) (.var 0)) (.cons (.for_ (.var 1) (.nm 3) (.cons (.exp (.call 16 (.acons (.bfn 9 (.acons (.var 0) .anil)) (.acons (.var 3) .anil)))) (.cons (.asg (.nm 2) (.call 22 (.acons (.var 2) (.acons (.var 3) .anil)))) .nil))) (.cons (.ret (.var 2)) .nil)))
/-- product -/
def f_9 : Fd := { d := ⟨("product", none), "product", "product", defArgs (top 23), defBody (top 23), defScope (top 23), [], []⟩, N := ["table", "tables", "found", "other"], np := 1, star := true, body := b_9 }
def b_10 : Zy.St := .cons (.ret (.cmp .Eq (.call 22 (.acons (.var 0) (.acons (.var 0) .anil))) (.var 0))) .nil
/-- is_idempotent_in -/
def f_10 : Fd := { d := ⟨("is_idempotent_in", none), "is_idempotent_in", "is_idempotent_in", defArgs (top 24), defBody (top 24), defScope (top 24), [], []⟩, N := ["table"], np := 1, body := b_10 }
def b_11 : Zy.St := .cons (.exp (.call 23 (.acons (.var 0) .anil))) (.cons (.ret (.call 24 (.acons (.var 0) .anil))) .nil)
/-- is_idempotent -/
def f_11 : Fd := { d := ⟨("is_idempotent", none), "is_idempotent", "is_idempotent", defArgs (top 25), defBody (top 25), defScope (top 25), [], []⟩, N := ["table"], np := 1, body := b_11 }
def b_12 : Zy.St := .cons (.asg (.nm 1) (.bfn 9 (.acons (.var 0) .anil))) (.cons (.asg (.nm 2) (.lst .anil)) (.cons (.for_ (.enm 21 (.acons (.var 0) .anil)) (.tp (.gcons (.nm 3) (.gcons (.nm 4) .gnil))) (.cons (.asg (.nm 5) (.ife (.cmp .Eq (.ix (.var 4) (.var 3)) (.glb 25)) (.glb 26) (.ix (.var 4) (.var 3)))) (.cons (.exp (.mth .append (.var 2) (.acons (.bfn 10 (.acons (.cpr (.rng1 17 (.acons (.var 1) .anil)) (.nm 6) .yes (.ife (.cmp .Eq (.var 6) (.var 3)) (.var 5) (.glb 20)) [6]) .anil)) .anil))) .nil))) (.cons (.ret (.call 22 (.acons (.call 22 (.acons (.var 0) (.acons (.bfn 10 (.acons (.var 2) .anil)) .anil))) (.acons (.var 0) .anil)))) .nil)))
/-- pumped_in -/
def f_12 : Fd := { d := ⟨("pumped_in", none), "pumped_in", "pumped_in", defArgs (top 26), defBody (top 26), defScope (top 26), [], []⟩, N := ["table", "size", "middle", "k", "row", "grade", "j"], np := 1, body := b_12 }
def b_13 : Zy.St := .cons (.exp (.call 23 (.acons (.var 0) .anil))) (.cons (.ife (.not (.call 24 (.acons (.var 0) .anil))) (.cons (.raise_ 28) .nil) .nil) (.cons (.ret (.call 27 (.acons (.var 0) .anil))) .nil))
/-- pumped -/
def f_13 : Fd := { d := ⟨("pumped", none), "pumped", "pumped", defArgs (top 27), defBody (top 27), defScope (top 27), [], []⟩, N := ["table"], np := 1, body := b_13 }
def b_14 : Zy.St := .cons (.asg (.nm 2) (.bin .Add (.bin .Mult (.cst (.int (7))) (.var 1)) (.cst (.int (3))))) (.cons (.ife (.cmp .Lt (.var 1) (.bfn 9 (.acons (.var 0) .anil))) (.cons (.asg (.nm 2) (.ix (.var 0) (.var 1))) .nil) .nil) (.cons (.asg (.nm 3) (.bin .Mod (.bfn 30 (.acons (.var 2) .anil)) (.bin .Pow (.bin .Pow (.cst (.int (10))) (.cst (.int (60)))) (.cst (.int (12)))))) (.cons (.asg (.nm 4) (.bin .Mod (.bin .Add (.bin .Add (.bin .Add (.bin .Mult (.bin .Mod (.var 3) (.cst (.int (2147483629)))) (.cst (.int (48271)))) (.bin .Mult (.cst (.int (977))) (.var 1))) (.bin .Mult (.cst (.int (2))) (.bfn 2 (.acons (.cmp .Lt (.var 2) (.cst (.int (0)))) .anil)))) (.cst (.int (11)))) (.cst (.int (2147483647))))) (.cons (.ret (.lst (.acons (.bfn 29 (.acons (.cst (.int (0))) (.acons (.bin .Sub (.var 3) (.bin .Pow (.cst (.int (10))) (.cst (.int (18))))) .anil))) (.acons (.var 4) (.acons (.cst (.int (0))) .anil))))) .nil))))
/-- _law_stream -/
def f_14 : Fd := { d := ⟨("_law_stream", none), "_law_stream", "_law_stream", defArgs (top 29), defBody (top 29), defScope (top 29), [], []⟩, N := ["script", "at", "cell", "great", "mixed"], np := 2, body := b_14 }
def b_15 : Zy.St := .cons (.ife (.cmp .Gt (.ix (.var 0) (.cst (.int (0)))) (.cst (.int (0)))) (.cons (.asg (.nm 2) (.bin .Mod (.ix (.var 0) (.cst (.int (0)))) (.var 1))) (.cons (.asg (.sub (.var 0) (.cst (.int (0)))) (.bin .FloorDiv (.ix (.var 0) (.cst (.int (0)))) (.var 1))) (.cons (.ret (.var 2)) .nil))) .nil) (.cons (.asg (.sub (.var 0) (.cst (.int (2)))) (.bin .Add (.ix (.var 0) (.cst (.int (2)))) (.cst (.int (1))))) (.cons (.asg (.nm 3) (.bin .Mod (.bin .Add (.ix (.var 0) (.cst (.int (1)))) (.bin .Mult (.cst (.int (1000003))) (.ix (.var 0) (.cst (.int (2)))))) (.cst (.int (2305843009213693951))))) (.cons (.asg (.nm 4) (.bin .Mod (.bin .Add (.bin .Mult (.bin .Mod (.bin .Mult (.var 3) (.var 3)) (.cst (.int (2305843009213693921)))) (.var 3)) (.bin .Mult (.cst (.int (8191))) (.ix (.var 0) (.cst (.int (2)))))) (.cst (.int (2305843009213693907))))) (.cons (.ret (.bin .Mod (.bin .FloorDiv (.var 4) (.cst (.int (4096)))) (.var 1))) .nil))))
/-- _law_draw -/
def f_15 : Fd := { d := ⟨("_law_draw", none), "_law_draw", "_law_draw", defArgs (top 30), defBody (top 30), defScope (top 30), [], []⟩, N := ["stream", "total", "found", "one", "two"], np := 2, body := b_15 }
def b_16 : Zy.St := .cons (.asg (.nm 2) (.lst (.acons (.cst (.str [114, 101, 115, 116, 97, 114, 116])) (.acons (.cst (.str [102, 114, 101, 101])) (.acons (.cst (.str [112, 97, 105, 100])) (.acons (.cst (.str [100, 101, 97, 114])) (.acons (.cst (.str [110, 111, 110, 101])) .anil))))))) (.cons (.ret (.ix (.var 2) (.bfn 31 (.acons (.mth .index (.var 2) (.acons (.var 0) .anil)) (.acons (.mth .index (.var 2) (.acons (.var 1) .anil)) .anil))))) .nil)
/-- _law_better -/
def f_16 : Fd := { d := ⟨("_law_better", none), "_law_better", "_law_better", defArgs (top 31), defBody (top 31), defScope (top 31), [], []⟩, N := ["one", "other", "order"], np := 2, body := b_16 }
def b_17 : Zy.St := .cons (.asg (.nm 2) (.lst (.acons (.cst (.str [102, 114, 101, 101])) (.acons (.cst (.str [112, 97, 105, 100])) (.acons (.cst (.str [114, 101, 115, 116, 97, 114, 116])) (.acons (.cst (.str [100, 101, 97, 114])) (.acons (.cst (.str [110, 111, 110, 101])) .anil))))))) (.cons (.ret (.ix (.var 2) (.bfn 29 (.acons (.mth .index (.var 2) (.acons (.var 0) .anil)) (.acons (.mth .index (.var 2) (.acons (.var 1) .anil)) .anil))))) .nil)
/-- _law_joined -/
def f_17 : Fd := { d := ⟨("_law_joined", none), "_law_joined", "_law_joined", defArgs (top 32), defBody (top 32), defScope (top 32), [], []⟩, N := ["one", "other", "order"], np := 2, body := b_17 }
def b_18 : Zy.St := .cons (.asg (.nm 2) (.lst .anil)) (.cons (.for_ (.var 0) (.nm 3) (.cons (.asg (.nm 4) (.lst .anil)) (.cons (.for_ (.rng1 17 (.acons (.bfn 9 (.acons (.var 3) .anil)) .anil)) (.nm 5) (.cons (.asg (.nm 6) (.cst (.str [110, 111, 110, 101]))) (.cons (.for_ (.enm 21 (.acons (.var 3) .anil)) (.tp (.gcons (.nm 7) (.gcons (.nm 8) .gnil))) (.cons (.ife (.cmp .NotEq (.var 8) (.cst (.str [110, 111, 110, 101]))) (.cons (.asg (.nm 6) (.call 32 (.acons (.var 6) (.acons (.call 33 (.acons (.var 8) (.acons (.ix (.ix (.var 1) (.var 7)) (.var 5)) .anil))) .anil)))) .nil) .nil) .nil)) (.cons (.exp (.mth .append (.var 4) (.acons (.var 6) .anil))) .nil)))) (.cons (.exp (.mth .append (.var 2) (.acons (.bfn 10 (.acons (.var 4) .anil)) .anil))) .nil)))) (.cons (.ret (.bfn 10 (.acons (.var 2) .anil))) .nil))
/-- _law_times -/
def f_18 : Fd := { d := ⟨("_law_times", none), "_law_times", "_law_times", defArgs (top 33), defBody (top 33), defScope (top 33), [], []⟩, N := ["one", "other", "rows", "row", "entries", "j", "grade", "k", "part"], np := 2, body := b_18 }
def b_19 : Zy.St := .cons (.asg (.nm 1) (.lst (.acons (.cst (.non)) (.acons (.cst (.bl true)) (.acons (.neg (.cst (.int (1)))) (.acons (.cst (.int (0))) (.acons (.cst (.int (1))) (.acons (.cst (.str [])) (.acons (.cst (.str [97])) (.acons (.cst (.str [97, 98])) (.acons (.tup .anil) (.acons (.lst .anil) (.acons (.dnew) (.acons (.tup (.acons (.cst (.int (0))) .anil)) (.acons (.tup (.acons (.cst (.str [97])) .anil)) (.acons (.bin .Pow (.cst (.int (10))) (.cst (.int (39)))) .anil)))))))))))))))) (.cons (.asg (.nm 1) (.bin .Add (.var 1) (.lst (.acons (.cst (.str [110, 101, 118, 101, 114])) (.acons (.tup (.acons (.cst (.non)) .anil)) (.acons (.tup (.acons (.tup .anil) .anil)) (.acons (.lst (.acons (.tup .anil) .anil)) (.acons (.dmk (.dcons (.cst (.int (0))) (.cst (.int (1))) .dnil)) .anil)))))))) (.cons (.ret (.ix (.var 1) (.call 34 (.acons (.var 0) (.acons (.bfn 9 (.acons (.var 1) .anil)) .anil))))) .nil))
/-- _law_other -/
def f_19 : Fd := { d := ⟨("_law_other", none), "_law_other", "_law_other", defArgs (top 34), defBody (top 34), defScope (top 34), [], []⟩, N := ["stream", "some"], np := 1, body := b_19 }
def b_20 : Zy.St := .cons (.ife (.and (.bfn 0 (.acons (.var 1) (.acons (.glb 10) .anil))) (.and (.cmp .NotEq (.var 1) (.tup .anil)) (.one (.cmp .Gt (.call 34 (.acons (.var 0) (.acons (.cst (.int (4))) .anil))) (.cst (.int (0))))))) (.cons (.asg (.nm 2) (.call 34 (.acons (.var 0) (.acons (.bfn 9 (.acons (.var 1) .anil)) .anil)))) (.cons (.asg (.nm 3) (.call 34 (.acons (.var 0) (.acons (.cst (.int (6))) .anil)))) (.cons (.ife (.cmp .Eq (.var 3) (.cst (.int (0)))) (.cons (.ret (.bin .Add (.slc (.var 1) .none_ (.var 2)) (.slc (.var 1) (.bin .Add (.var 2) (.cst (.int (1)))) .none_))) .nil) .nil) (.cons (.ife (.cmp .Eq (.var 3) (.cst (.int (1)))) (.cons (.ret (.bin .Add (.bin .Add (.slc (.var 1) .none_ (.var 2)) (.slc (.var 1) (.var 2) (.bin .Add (.var 2) (.cst (.int (1)))))) (.slc (.var 1) (.var 2) .none_))) .nil) .nil) (.cons (.ret (.bin .Add (.bin .Add (.slc (.var 1) .none_ (.var 2)) (.tup (.acons (.call 36 (.acons (.var 0) (.acons (.ix (.var 1) (.var 2)) .anil))) .anil))) (.slc (.var 1) (.bin .Add (.var 2) (.cst (.int (1)))) .none_))) .nil))))) .nil) (.cons (.ife (.and (.bfn 0 (.acons (.var 1) (.acons (.glb 2) .anil))) (.and (.not (.bfn 0 (.acons (.var 1) (.acons (.glb 1) .anil)))) (.one (.cmp .Gt (.call 34 (.acons (.var 0) (.acons (.cst (.int (3))) .anil))) (.cst (.int (0))))))) (.cons (.ret (.bin .Add (.var 1) (.ix (.lst (.acons (.cst (.int (1))) (.acons (.neg (.cst (.int (1)))) (.acons (.cst (.int (2))) (.acons (.cst (.int (30))) .anil))))) (.call 34 (.acons (.var 0) (.acons (.cst (.int (4))) .anil)))))) .nil) .nil) (.cons (.ife (.and (.bfn 0 (.acons (.var 1) (.acons (.glb 6) .anil))) (.one (.cmp .Eq (.call 34 (.acons (.var 0) (.acons (.cst (.int (2))) .anil))) (.cst (.int (0)))))) (.cons (.ret (.ix (.lst (.acons (.cst (.str [97])) (.acons (.cst (.str [98])) (.acons (.cst (.str [98, 97])) (.acons (.cst (.str [122])) (.acons (.cst (.str [112, 97, 105, 100])) (.acons (.cst (.str [100, 101, 97, 114])) (.acons (.cst (.str [102, 114, 101, 101])) (.acons (.bin .Add (.var 1) (.cst (.str [97]))) .anil))))))))) (.call 34 (.acons (.var 0) (.acons (.cst (.int (8))) .anil))))) .nil) .nil) (.cons (.ret (.call 35 (.acons (.var 0) .anil))) .nil)))
/-- _law_changed -/
def f_20 : Fd := { d := ⟨("_law_changed", none), "_law_changed", "_law_changed", defArgs (top 35), defBody (top 35), defScope (top 35), [], []⟩, N := ["stream", "value", "at", "way"], np := 2, body := b_20 }
def b_21 : Zy.St := .cons (.asg (.nm 2) (.ix (.lst (.acons (.lst (.acons (.cst (.str [114, 101, 115, 116, 97, 114, 116])) (.acons (.cst (.str [102, 114, 101, 101])) (.acons (.cst (.str [112, 97, 105, 100])) (.acons (.cst (.str [100, 101, 97, 114])) (.acons (.cst (.str [110, 111, 110, 101])) .anil)))))) (.acons (.lst (.acons (.cst (.str [110, 111, 110, 101])) (.acons (.cst (.str [110, 111, 110, 101])) (.acons (.cst (.str [110, 111, 110, 101])) (.acons (.cst (.str [102, 114, 101, 101])) (.acons (.cst (.str [112, 97, 105, 100])) .anil)))))) (.acons (.lst (.acons (.cst (.str [112, 97, 105, 100])) (.acons (.cst (.str [112, 97, 105, 100])) (.acons (.cst (.str [102, 114, 101, 101])) (.acons (.cst (.str [110, 111, 110, 101])) (.acons (.cst (.str [114, 101, 115, 116, 97, 114, 116])) .anil)))))) .anil)))) (.call 34 (.acons (.var 0) (.acons (.cst (.int (3))) .anil))))) (.cons (.asg (.nm 3) (.lst .anil)) (.cons (.for_ (.rng1 17 (.acons (.var 1) .anil)) (.nm 4) (.cons (.asg (.nm 5) (.lst .anil)) (.cons (.for_ (.rng1 17 (.acons (.var 1) .anil)) (.nm 6) (.cons (.exp (.mth .append (.var 5) (.acons (.ix (.var 2) (.call 34 (.acons (.var 0) (.acons (.cst (.int (5))) .anil)))) .anil))) .nil)) (.cons (.exp (.mth .append (.var 3) (.acons (.bfn 10 (.acons (.var 5) .anil)) .anil))) .nil)))) (.cons (.ret (.bfn 10 (.acons (.var 3) .anil))) .nil)))
/-- _law_some_table -/
def f_21 : Fd := { d := ⟨("_law_some_table", none), "_law_some_table", "_law_some_table", defArgs (top 36), defBody (top 36), defScope (top 36), [], []⟩, N := ["stream", "size", "signs", "rows", "i", "row", "j"], np := 2, body := b_21 }
def b_22 : Zy.St := .cons (.asg (.nm 1) (.var 0)) (.cons (.for_ (.rng1 17 (.acons (.cst (.int (40))) .anil)) (.nm 2) (.cons (.ife (.cmp .Eq (.call 37 (.acons (.var 1) (.acons (.var 1) .anil))) (.var 1)) (.cons (.ret (.var 1)) .nil) .nil) (.cons (.asg (.nm 1) (.call 37 (.acons (.var 1) (.acons (.var 0) .anil)))) .nil))) (.cons (.ret (.cst (.non))) .nil))
/-- _law_steady -/
def f_22 : Fd := { d := ⟨("_law_steady", none), "_law_steady", "_law_steady", defArgs (top 37), defBody (top 37), defScope (top 37), [], []⟩, N := ["table", "found", "turn"], np := 1, body := b_22 }
def b_23 : Zy.St := .cons (.try_ (.cons (.exp (.act 0)) .nil) (.hcons 15 (some 1) (.cons (.ret (.ife (.isE 38) (.cst (.str [116, 97, 98, 108, 101])) (.cst (.str [111, 100, 100])))) .nil) (.hcons 14 (some 1) (.cons (.ret (.bin .Add (.cst (.str [110, 117, 109, 98, 101, 114, 32])) (.bfn 39 (.acons (.fld "value") .anil)))) .nil) .hnil))) (.cons (.ret (.cst (.str [114, 101, 116, 117, 114, 110, 101, 100]))) .nil)
/-- _law_error -/
def f_23 : Fd := { d := ⟨("_law_error", none), "_law_error", "_law_error", defArgs (top 38), defBody (top 38), defScope (top 38), [], []⟩, N := ["call", "e"], np := 1, act := true, body := b_23 }
def b_24 : Zy.St := .cons (.ife (.or (.not (.bfn 0 (.acons (.var 1) (.acons (.glb 10) .anil)))) (.one (.cmp .NotEq (.bfn 9 (.acons (.var 1) .anil)) (.var 0)))) (.cons (.ret (.cst (.bl false))) .nil) .nil) (.cons (.for_ (.var 1) (.nm 2) (.cons (.ife (.or (.not (.bfn 0 (.acons (.var 2) (.acons (.glb 10) .anil)))) (.one (.cmp .NotEq (.bfn 9 (.acons (.var 2) .anil)) (.var 0)))) (.cons (.ret (.cst (.bl false))) .nil) .nil) (.cons (.for_ (.var 2) (.nm 3) (.cons (.ife (.or (.not (.bfn 0 (.acons (.var 3) (.acons (.glb 6) .anil)))) (.one (.cmp .NotIn (.var 3) (.tup (.acons (.cst (.str [114, 101, 115, 116, 97, 114, 116])) (.acons (.cst (.str [102, 114, 101, 101])) (.acons (.cst (.str [112, 97, 105, 100])) (.acons (.cst (.str [100, 101, 97, 114])) (.acons (.cst (.str [110, 111, 110, 101])) .anil))))))))) (.cons (.ret (.cst (.bl false))) .nil) .nil) .nil)) .nil))) (.cons (.ret (.cst (.bl true))) .nil))
/-- _law_is_a_table -/
def f_24 : Fd := { d := ⟨("_law_is_a_table", none), "_law_is_a_table", "_law_is_a_table", defArgs (top 39), defBody (top 39), defScope (top 39), [], []⟩, N := ["size", "value", "row", "grade"], np := 2, body := b_24 }
def b_25 : Zy.St := .cons (.asgC 2 (.cpr (.rng1 17 (.acons (.cst (.int (5))) .anil)) (.nm 3) .yes (.call 43 (.acons (.var 0) (.acons (.var 1) .anil))) [3])) (.cons (.asg (.tp (.gcons (.nm 4) (.gcons (.nm 5) (.gcons (.nm 6) (.gcons (.nm 7) .gnil))))) (.tup (.acons (.bfn 39 (.acons (.var 2) .anil)) (.acons (.ix (.var 2) (.cst (.int (0)))) (.acons (.ix (.var 2) (.cst (.int (1)))) (.acons (.ix (.var 2) (.cst (.int (2)))) .anil)))))) (.cons (.par 8 9 (.acons (.call 37 (.acons (.call 37 (.acons (.var 5) (.acons (.var 6) .anil))) (.acons (.var 7) .anil))) (.acons (.call 37 (.acons (.var 5) (.acons (.var 6) .anil))) .anil))) (.cons (.ife (.or (.cmp .NotEq (.call 42 (.acons (.var 5) .anil)) (.var 5)) (.or (.cmp .NotEq (.call 42 (.acons (.var 5) (.acons (.var 6) .anil))) (.var 9)) (.one (.cmp .NotEq (.call 42 (.acons (.var 5) (.acons (.var 6) (.acons (.var 7) .anil)))) (.var 8))))) (.cons (.ret (.cst (.bl false))) .nil) .nil) (.cons (.ife (.or (.cmp .NotEq (.call 42 (.acons (.var 5) (.acons (.call 42 (.acons (.var 6) (.acons (.var 7) .anil))) .anil))) (.var 8)) (.one (.cmp .NotEq (.call 42 (.acons (.call 42 (.acons (.var 5) (.acons (.var 6) .anil))) (.acons (.var 7) .anil))) (.var 8)))) (.cons (.ret (.cst (.bl false))) .nil) .nil) (.cons (.asg (.nm 10) (.call 37 (.acons (.call 37 (.acons (.var 8) (.acons (.ix (.var 2) (.cst (.int (3)))) .anil))) (.acons (.ix (.var 2) (.cst (.int (4)))) .anil)))) (.cons (.ife (.or (.cmp .NotEq (.call 42 (.acons (.var 5) (.acons (.var 6) (.acons (.var 7) (.acons (.ix (.var 2) (.cst (.int (3)))) (.acons (.ix (.var 2) (.cst (.int (4)))) .anil)))))) (.var 10)) (.one (.cmp .NotEq (.bfn 39 (.acons (.var 2) .anil)) (.var 4)))) (.cons (.ret (.cst (.bl false))) .nil) .nil) (.cons (.asg (.nm 11) (.call 41 (.acons (.var 5) .anil))) (.cons (.for_ (.bin .Add (.bin .Add (.var 2) (.lst (.acons (.var 8) (.acons (.var 10) .anil)))) (.ife (.cmp .Is (.var 11) (.cst (.non))) (.lst .anil) (.lst (.acons (.var 11) .anil)))) (.nm 12) (.cons (.ife (.cmp .NotEq (.bfn 39 (.acons (.call 40 (.acons (.var 12) .anil)) .anil)) (.bfn 39 (.acons (.cmp .Eq (.call 37 (.acons (.var 12) (.acons (.var 12) .anil))) (.var 12)) .anil))) (.cons (.ret (.cst (.bl false))) .nil) .nil) .nil)) (.cons (.ret (.cst (.bl true))) .nil)))))))))
/-- _law_right -/
def f_25 : Fd := { d := ⟨("_law_right", none), "_law_right", "_law_right", defArgs (top 40), defBody (top 40), defScope (top 40), [], []⟩, N := ["stream", "size", "tables", "turn", "kept", "one", "two", "three", "due", "first", "last", "steady", "table"], np := 2, body := b_25 }
def b_26 : Zy.St := .cons (.asg (.nm 2) (.call 43 (.acons (.var 0) (.acons (.var 1) .anil)))) (.cons (.asg (.nm 3) (.lst (.acons (.var 2) (.acons (.slc (.var 2) .none_ (.neg (.cst (.int (1))))) (.acons (.bin .Add (.var 2) (.slc (.var 2) .none_ (.cst (.int (1))))) (.acons (.bfn 47 (.acons (.var 2) .anil)) (.acons (.bfn 10 (.acons (.cpr (.var 2) (.nm 4) .yes (.bfn 47 (.acons (.var 4) .anil)) [4]) .anil)) (.acons (.cst (.non)) (.acons (.tup .anil) (.acons (.cst (.str [116, 97, 98, 108, 101])) .anil)))))))))) (.cons (.asg (.nm 3) (.bin .Add (.bin .Add (.var 3) (.cpr (.rng1 17 (.acons (.cst (.int (6))) .anil)) (.nm 5) .yes (.call 36 (.acons (.var 0) (.acons (.var 2) .anil))) [5])) (.lst (.acons (.call 35 (.acons (.var 0) .anil)) (.acons (.ix (.var 2) (.cst (.int (0)))) (.acons (.tup (.acons (.var 2) .anil)) .anil)))))) (.cons (.for_ (.var 3) (.nm 6) (.cons (.for_ (.tup (.acons (.var 1) (.acons (.bin .Add (.var 1) (.cst (.int (1)))) (.acons (.cst (.int (1))) .anil)))) (.nm 7) (.cons (.ife (.cmp .NotEq (.bfn 39 (.acons (.call 45 (.acons (.var 7) (.acons (.var 6) .anil))) .anil)) (.bfn 39 (.acons (.call 46 (.acons (.var 7) (.acons (.var 6) .anil))) .anil))) (.cons (.ret (.cst (.bl false))) .nil) .nil) .nil)) (.cons (.asg (.nm 8) (.ife (.call 46 (.acons (.var 1) (.acons (.var 6) .anil))) (.cst (.str [114, 101, 116, 117, 114, 110, 101, 100])) (.cst (.str [116, 97, 98, 108, 101])))) (.cons (.asg (.nm 9) (.lst (.acons (.lam 44 (.call 42 (.acons (.var 2) (.acons (.var 6) .anil)))) .anil))) (.cons (.exp (.mth .append (.var 9) (.acons (.lam 44 (.call 42 (.acons (.var 2) (.acons (.var 2) (.acons (.var 6) .anil))))) .anil))) (.cons (.ife (.cmp .NotEq (.var 9) (.lst (.acons (.var 8) (.acons (.var 8) .anil)))) (.cons (.ret (.cst (.bl false))) .nil) .nil) (.cons (.asg (.nm 7) (.ife (.bfn 0 (.acons (.var 6) (.acons (.glb 10) .anil))) (.bfn 9 (.acons (.var 6) .anil)) (.cst (.int (0))))) (.cons (.asg (.nm 8) (.ife (.and (.chn .Lt .Lt (.cst (.int (0))) (.var 7) (.cst (.int (9)))) (.one (.call 46 (.acons (.var 7) (.acons (.var 6) .anil))))) (.cst (.str [114, 101, 116, 117, 114, 110, 101, 100])) (.cst (.str [116, 97, 98, 108, 101])))) (.cons (.asg (.nm 9) (.lst (.acons (.lam 44 (.call 42 (.acons (.var 6) .anil))) .anil))) (.cons (.exp (.mth .append (.var 9) (.acons (.lam 44 (.call 40 (.acons (.var 6) .anil))) .anil))) (.cons (.ife (.cmp .NotEq (.var 9) (.lst (.acons (.var 8) (.acons (.var 8) .anil)))) (.cons (.ret (.cst (.bl false))) .nil) .nil) .nil))))))))))) (.cons (.asg (.nm 10) (.ix (.lst (.acons (.cst (.int (0))) (.acons (.cst (.int (9))) (.acons (.neg (.cst (.int (1)))) (.acons (.cst (.non)) (.acons (.cst (.bl true)) (.acons (.cst (.str [50])) (.acons (.tup (.acons (.cst (.int (1))) .anil)) (.acons (.lst (.acons (.cst (.int (1))) .anil)) (.acons (.bin .Pow (.cst (.int (10))) (.cst (.int (39)))) .anil)))))))))) (.call 34 (.acons (.var 0) (.acons (.cst (.int (9))) .anil))))) (.cons (.ret (.cmp .Eq (.lam 44 (.call 45 (.acons (.var 10) (.acons (.var 2) .anil)))) (.bin .Add (.cst (.str [110, 117, 109, 98, 101, 114, 32])) (.bfn 39 (.acons (.var 10) .anil))))) .nil)))))
/-- _law_values_right -/
def f_26 : Fd := { d := ⟨("_law_values_right", none), "_law_values_right", "_law_values_right", defArgs (top 41), defBody (top 41), defScope (top 41), [], []⟩, N := ["stream", "size", "table", "values", "row", "turn", "value", "wide", "due", "found", "odd"], np := 2, lm := true, body := b_26 }
def b_27 : Zy.St := .cons (.asg (.nm 0) (.lst .anil)) (.cons (.for_ (.rng1 17 (.acons (.cst (.int (8))) .anil)) (.nm 1) (.cons (.exp (.mth .append (.var 0) (.acons (.bfn 10 (.acons (.cpr (.rng1 17 (.acons (.cst (.int (8))) .anil)) (.nm 2) .yes (.ife (.or (.cmp .NotEq (.var 1) (.cst (.int (7)))) (.one (.cmp .NotEq (.var 2) (.cst (.int (0)))))) (.ix (.lst (.acons (.cst (.str [110, 111, 110, 101])) (.acons (.cst (.str [102, 114, 101, 101])) .anil))) (.bfn 2 (.acons (.cmp .Eq (.var 2) (.bin .Mod (.bin .Add (.var 1) (.cst (.int (1)))) (.cst (.int (8))))) .anil))) (.cst (.str [112, 97, 105, 100]))) [2]) .anil)) .anil))) .nil)) (.cons (.asg (.tp (.gcons (.nm 3) (.gcons (.nm 4) .gnil))) (.tup (.acons (.bfn 10 (.acons (.var 0) .anil)) (.acons (.bfn 10 (.acons (.var 0) .anil)) .anil)))) (.cons (.for_ (.rng1 17 (.acons (.cst (.int (7))) .anil)) (.nm 5) (.cons (.asg (.nm 4) (.call 42 (.acons (.var 4) (.acons (.var 3) .anil)))) .nil)) (.cons (.asg (.nm 6) (.bfn 10 (.acons (.cpr (.rng1 17 (.acons (.cst (.int (8))) .anil)) (.nm 1) .yes (.bfn 10 (.acons (.cpr (.rng1 17 (.acons (.cst (.int (8))) .anil)) (.nm 2) .yes (.ix (.lst (.acons (.cst (.str [110, 111, 110, 101])) (.acons (.cst (.str [112, 97, 105, 100])) .anil))) (.bfn 2 (.acons (.cmp .Eq (.var 1) (.var 2)) .anil))) [2]) .anil)) [1]) .anil))) (.cons (.ife (.or (.cmp .NotEq (.var 4) (.var 6)) (.or (.not (.call 40 (.acons (.var 4) .anil))) (.or (.call 40 (.acons (.var 3) .anil)) (.one (.cmp .NotEq (.ix (.ix (.call 48 (.acons (.var 4) .anil)) (.cst (.int (3)))) (.cst (.int (3)))) (.cst (.str [100, 101, 97, 114]))))))) (.cons (.ret (.cst (.bl false))) .nil) .nil) (.cons (.asg (.nm 7) (.bfn 10 (.acons (.bin .Mult (.lst (.acons (.bin .Mult (.tup (.acons (.cst (.str [102, 114, 101, 101])) .anil)) (.cst (.int (9)))) .anil)) (.cst (.int (9)))) .anil))) (.cons (.asg (.nm 8) (.lst (.acons (.lam 44 (.call 42 (.acons (.var 7) .anil))) .anil))) (.cons (.exp (.mth .append (.var 8) (.acons (.lam 44 (.call 40 (.acons (.var 7) .anil))) .anil))) (.cons (.exp (.mth .append (.var 8) (.acons (.lam 44 (.call 42 (.acons (.tup (.acons (.tup (.acons (.cst (.str [102, 114, 101, 101])) .anil)) .anil)) (.acons (.var 4) .anil)))) .anil))) (.cons (.exp (.mth .append (.var 8) (.acons (.lam 44 (.call 48 (.acons (.var 7) .anil))) .anil))) (.cons (.ret (.and (.cmp .Eq (.var 8) (.bin .Mult (.lst (.acons (.cst (.str [116, 97, 98, 108, 101])) .anil)) (.cst (.int (4))))) (.and (.call 45 (.acons (.cst (.int (8))) (.acons (.var 3) .anil))) (.one (.not (.call 45 (.acons (.cst (.int (8))) (.acons (.var 7) .anil)))))))) .nil)))))))))))
/-- _law_written_right -/
def f_27 : Fd := { d := ⟨("_law_written_right", none), "_law_written_right", "_law_written_right", defArgs (top 42), defBody (top 42), defScope (top 42), [], []⟩, N := ["rows", "i", "j", "circle", "power", "turn", "due", "nine", "found"], np := 0, lm := true, body := b_27 }
def b_28 : Zy.St := .cons (.for_ (.rng1 17 (.acons (.bfn 29 (.acons (.cst (.int (1))) (.acons (.bfn 31 (.acons (.cst (.int (5))) (.acons (.bfn 9 (.acons (.var 0) .anil)) .anil))) .anil))) .anil)) (.nm 1) (.cons (.asg (.nm 2) (.call 52 (.acons (.var 0) (.acons (.var 1) .anil)))) (.cons (.for_ (.rng1 17 (.acons (.cst (.int (2))) .anil)) (.nm 3) (.cons (.asg (.nm 4) (.bin .Add (.cst (.int (1))) (.call 34 (.acons (.var 2) (.acons (.cst (.int (7))) .anil))))) (.cons (.ife (.or (.not (.call 51 (.acons (.var 2) (.acons (.var 4) .anil)))) (.one (.not (.call 50 (.acons (.var 2) (.acons (.var 4) .anil)))))) (.cons (.ret (.cst (.bl false))) .nil) .nil) .nil))) .nil))) (.cons (.ret (.call 49 .anil)) .nil)
/-- law -/
def f_28 : Fd := { d := ⟨("law", none), "law", "law", defArgs (top 43), defBody (top 43), defScope (top 43), [], []⟩, N := ["script", "at", "stream", "turn", "size"], np := 1, body := b_28 }
def m_3 : Stmt := inClass (top 4) 0
/-- InvalidNumber.__init__ -/
def i_3 : Ini := { k := 3, d := ⟨("InvalidNumber", some "__init__"), "__init__", "InvalidNumber.__init__", defArgs m_3, defBody m_3, defScope m_3, [], []⟩, N := ["self", "value"], f := "value" }
def tx : TX where
  T := { gl := ([("isinstance", .bf .isi), ("bool", .ty "bool"), ("int", .ty "int"), ("CHOICE_PLACES", .dct [([114, 101, 115, 116, 97, 114, 116], .int (0)), ([102, 114, 101, 101], .int (1)), ([112, 97, 105, 100], .int (2)), ([100, 101, 97, 114], .int (3)), ([110, 111, 110, 101], .int (4))]), ("SEQUENCE_PLACES", .dct [([102, 114, 101, 101], .int (0)), ([112, 97, 105, 100], .int (1)), ([114, 101, 115, 116, 97, 114, 116], .int (2)), ([100, 101, 97, 114], .int (3)), ([110, 111, 110, 101], .int (4))]), ("GRADES", .val (.tup [.str [114, 101, 115, 116, 97, 114, 116], .str [102, 114, 101, 101], .str [112, 97, 105, 100], .str [100, 101, 97, 114], .str [110, 111, 110, 101]])), ("str", .ty "str"), ("all", .bf .all), ("is_grade", .fn 3), ("len", .bf .len), ("tuple", .ty "tuple"), ("is_table_in", .fn 4), ("is_integer", .fn 0), ("MAX_STATES", .val (.int (8))), ("InvalidNumber", .exf 3 "value"), ("InvalidTable", .ex 1), ("require_table", .fn 6), ("range", .rng), ("better", .fn 1), ("joined", .fn 2)] : List (Str × GK)) ++ ([("NONE", .val (.str [110, 111, 110, 101])), ("enumerate", .rng), ("times", .fn 8), ("require_any_table", .fn 7), ("is_idempotent_in", .fn 10), ("PAID", .val (.str [112, 97, 105, 100])), ("DEAR", .val (.str [100, 101, 97, 114])), ("pumped_in", .fn 12), ("InvalidOperation", .ex 2), ("max", .bf .max), ("abs", .bf .abs), ("min", .bf .min), ("_law_better", .fn 16), ("_law_joined", .fn 17), ("_law_draw", .fn 15), ("_law_other", .fn 19), ("_law_changed", .fn 20), ("_law_times", .fn 18), ("LimitError", .ex 0), ("repr", .bf .repr)] : List (Str × GK)) ++ ([("is_idempotent", .fn 11), ("_law_steady", .fn 22), ("product", .fn 9), ("_law_some_table", .fn 21), ("_law_error", .lam 23), ("is_table", .fn 5), ("_law_is_a_table", .fn 24), ("list", .ty "list"), ("pumped", .fn 13), ("_law_written_right", .fn 27), ("_law_values_right", .fn 26), ("_law_right", .fn 25), ("_law_stream", .fn 14)] : List (Str × GK)) }
  fs := ([f_0, f_1, f_2, f_3, f_4, f_5, f_6, f_7, f_8, f_9, f_10, f_11, f_12, f_13, f_14, f_15, f_16, f_17, f_18, f_19, f_20, f_21, f_22, f_23, f_24, f_25, f_26, f_27, f_28] : List Fd)
  cl := [("LimitError", .val), ("InvalidTable", .val), ("InvalidOperation", .val), ("InvalidNumber", .idx)]
  subL := ([(.own 0, .own 0, true), (.own 0, .own 1, false), (.own 0, .own 2, false), (.own 0, .own 3, false), (.own 1, .own 0, true), (.own 1, .own 1, true), (.own 1, .own 2, false), (.own 1, .own 3, false), (.own 2, .own 0, true), (.own 2, .own 1, false), (.own 2, .own 2, true), (.own 2, .own 3, false), (.own 3, .own 0, false), (.own 3, .own 1, false), (.own 3, .own 2, false), (.own 3, .own 3, true)] : List (XC × XC × Bool))
  ds := [("CHOICE_PLACES", ["restart", "free", "paid", "dear", "none"]), ("SEQUENCE_PLACES", ["free", "paid", "restart", "dear", "none"])]
  ini := [i_3]
theorem bis : ∀ q ∈ tx.ini, BdI q := by
  intro q hq
  simp only [tx, List.mem_cons, List.not_mem_nil, or_false] at hq
  subst hq
  exact fun _ _ _ _ _ _ us hl => match us, hl with | [_, _], _ => rfl
theorem bd_0 : Bd f_0 := .plain 3 rfl rfl fun _ _ _ _ _ _ us hl => match us, hl with | [_, _, _], _ => rfl
theorem bd_1 : Bd f_1 := .plain 2 rfl rfl fun _ _ _ _ _ _ us hl => match us, hl with | [_, _], _ => rfl
theorem bd_2 : Bd f_2 := .plain 2 rfl rfl fun _ _ _ _ _ _ us hl => match us, hl with | [_, _], _ => rfl
theorem bd_3 : Bd f_3 := .plain 1 rfl rfl fun _ _ _ _ _ _ us hl => match us, hl with | [_], _ => rfl
theorem bd_4 : Bd f_4 := .plain 2 rfl rfl fun _ _ _ _ _ _ us hl => match us, hl with | [_, _], _ => rfl
theorem bd_5 : Bd f_5 := .plain 2 rfl rfl fun _ _ _ _ _ _ us hl => match us, hl with | [_, _], _ => rfl
theorem bd_6 : Bd f_6 := .plain 2 rfl rfl fun _ _ _ _ _ _ us hl => match us, hl with | [_, _], _ => rfl
theorem bd_7 : Bd f_7 := .plain 1 rfl rfl fun _ _ _ _ _ _ us hl => match us, hl with | [_], _ => rfl
theorem bd_8 : Bd f_8 := .plain 2 rfl rfl fun _ _ _ _ _ _ us hl => match us, hl with | [_, _], _ => rfl
theorem bd_9 : Bd f_9 := .star 1 rfl rfl fun _ _ _ _ _ _ us rest hl => match us, rest, hl with | [_], [], _ => rfl | [_], _ :: _, _ => rfl
theorem bd_10 : Bd f_10 := .plain 1 rfl rfl fun _ _ _ _ _ _ us hl => match us, hl with | [_], _ => rfl
theorem bd_11 : Bd f_11 := .plain 1 rfl rfl fun _ _ _ _ _ _ us hl => match us, hl with | [_], _ => rfl
theorem bd_12 : Bd f_12 := .plain 1 rfl rfl fun _ _ _ _ _ _ us hl => match us, hl with | [_], _ => rfl
theorem bd_13 : Bd f_13 := .plain 1 rfl rfl fun _ _ _ _ _ _ us hl => match us, hl with | [_], _ => rfl
theorem bd_14 : Bd f_14 := .plain 2 rfl rfl fun _ _ _ _ _ _ us hl => match us, hl with | [_, _], _ => rfl
theorem bd_15 : Bd f_15 := .plain 2 rfl rfl fun _ _ _ _ _ _ us hl => match us, hl with | [_, _], _ => rfl
theorem bd_16 : Bd f_16 := .plain 2 rfl rfl fun _ _ _ _ _ _ us hl => match us, hl with | [_, _], _ => rfl
theorem bd_17 : Bd f_17 := .plain 2 rfl rfl fun _ _ _ _ _ _ us hl => match us, hl with | [_, _], _ => rfl
theorem bd_18 : Bd f_18 := .plain 2 rfl rfl fun _ _ _ _ _ _ us hl => match us, hl with | [_, _], _ => rfl
theorem bd_19 : Bd f_19 := .plain 1 rfl rfl fun _ _ _ _ _ _ us hl => match us, hl with | [_], _ => rfl
theorem bd_20 : Bd f_20 := .plain 2 rfl rfl fun _ _ _ _ _ _ us hl => match us, hl with | [_, _], _ => rfl
theorem bd_21 : Bd f_21 := .plain 2 rfl rfl fun _ _ _ _ _ _ us hl => match us, hl with | [_, _], _ => rfl
theorem bd_22 : Bd f_22 := .plain 1 rfl rfl fun _ _ _ _ _ _ us hl => match us, hl with | [_], _ => rfl
theorem bd_23 : Bd f_23 := .plain 1 rfl rfl fun _ _ _ _ _ _ us hl => match us, hl with | [_], _ => rfl
theorem bd_24 : Bd f_24 := .plain 2 rfl rfl fun _ _ _ _ _ _ us hl => match us, hl with | [_, _], _ => rfl
theorem bd_25 : Bd f_25 := .plain 2 rfl rfl fun _ _ _ _ _ _ us hl => match us, hl with | [_, _], _ => rfl
theorem bd_26 : Bd f_26 := .plain 2 rfl rfl fun _ _ _ _ _ _ us hl => match us, hl with | [_, _], _ => rfl
theorem bd_27 : Bd f_27 := .plain 0 rfl rfl fun _ _ _ _ _ _ us hl => match us, hl with | [], _ => rfl
theorem bd_28 : Bd f_28 := .plain 1 rfl rfl fun _ _ _ _ _ _ us hl => match us, hl with | [_], _ => rfl
theorem ck_0 : fdB tx.T f_0 = true := by decide +kernel
theorem ck_1 : fdB tx.T f_1 = true := by decide +kernel
theorem ck_2 : fdB tx.T f_2 = true := by decide +kernel
theorem ck_3 : fdB tx.T f_3 = true := by decide +kernel
theorem ck_4 : fdB tx.T f_4 = true := by decide +kernel
theorem ck_5 : fdB tx.T f_5 = true := by decide +kernel
theorem ck_6 : fdB tx.T f_6 = true := by decide +kernel
theorem ck_7 : fdB tx.T f_7 = true := by decide +kernel
theorem ck_8 : fdB tx.T f_8 = true := by decide +kernel
theorem ck_9 : fdB tx.T f_9 = true := by decide +kernel
theorem ck_10 : fdB tx.T f_10 = true := by decide +kernel
theorem ck_11 : fdB tx.T f_11 = true := by decide +kernel
theorem ck_12 : fdB tx.T f_12 = true := by decide +kernel
theorem ck_13 : fdB tx.T f_13 = true := by decide +kernel
theorem ck_14 : fdB tx.T f_14 = true := by decide +kernel
theorem ck_15 : fdB tx.T f_15 = true := by decide +kernel
theorem ck_16 : fdB tx.T f_16 = true := by decide +kernel
theorem ck_17 : fdB tx.T f_17 = true := by decide +kernel
theorem ck_18 : fdB tx.T f_18 = true := by decide +kernel
theorem ck_19 : fdB tx.T f_19 = true := by decide +kernel
theorem ck_20 : fdB tx.T f_20 = true := by decide +kernel
theorem ck_21 : fdB tx.T f_21 = true := by decide +kernel
theorem ck_22 : fdB tx.T f_22 = true := by decide +kernel
theorem ck_23 : fdB tx.T f_23 = true := by decide +kernel
theorem ck_24 : fdB tx.T f_24 = true := by decide +kernel
theorem ck_25 : fdB tx.T f_25 = true := by decide +kernel
theorem ck_26 : fdB tx.T f_26 = true := by decide +kernel
theorem ck_27 : fdB tx.T f_27 = true := by decide +kernel
theorem ck_28 : fdB tx.T f_28 = true := by decide +kernel
theorem bds : ∀ f ∈ tx.fs, Bd f := by
  intro f hf
  simp only [tx, List.mem_cons, List.not_mem_nil, or_false] at hf
  rcases hf with rfl | rfl | rfl | rfl | rfl | rfl | rfl | rfl | rfl | rfl | rfl | rfl | rfl | rfl | rfl | rfl | rfl | rfl | rfl | rfl | rfl | rfl | rfl | rfl | rfl | rfl | rfl | rfl | rfl
  · exact bd_0
  · exact bd_1
  · exact bd_2
  · exact bd_3
  · exact bd_4
  · exact bd_5
  · exact bd_6
  · exact bd_7
  · exact bd_8
  · exact bd_9
  · exact bd_10
  · exact bd_11
  · exact bd_12
  · exact bd_13
  · exact bd_14
  · exact bd_15
  · exact bd_16
  · exact bd_17
  · exact bd_18
  · exact bd_19
  · exact bd_20
  · exact bd_21
  · exact bd_22
  · exact bd_23
  · exact bd_24
  · exact bd_25
  · exact bd_26
  · exact bd_27
  · exact bd_28
theorem cks : ∀ f ∈ tx.fs, fdB tx.T f = true := by
  intro f hf
  simp only [tx, List.mem_cons, List.not_mem_nil, or_false] at hf
  rcases hf with rfl | rfl | rfl | rfl | rfl | rfl | rfl | rfl | rfl | rfl | rfl | rfl | rfl | rfl | rfl | rfl | rfl | rfl | rfl | rfl | rfl | rfl | rfl | rfl | rfl | rfl | rfl | rfl | rfl
  · exact ck_0
  · exact ck_1
  · exact ck_2
  · exact ck_3
  · exact ck_4
  · exact ck_5
  · exact ck_6
  · exact ck_7
  · exact ck_8
  · exact ck_9
  · exact ck_10
  · exact ck_11
  · exact ck_12
  · exact ck_13
  · exact ck_14
  · exact ck_15
  · exact ck_16
  · exact ck_17
  · exact ck_18
  · exact ck_19
  · exact ck_20
  · exact ck_21
  · exact ck_22
  · exact ck_23
  · exact ck_24
  · exact ck_25
  · exact ck_26
  · exact ck_27
  · exact ck_28
/-- is_integer -/
def s_0 (r : Rt) : DS := (dSeq (dRet (dAnd (dFn (on2 zIsi) (dCons (dVar 0) (dCons (dC (.ty "int")) dNil))) (dAnd (dNot (dFn (on2 zIsi) (dCons (dVar 0) (dCons (dC (.ty "bool")) dNil)))) (dChn .LtE .LtE (dVar 1) (dVar 0) (dVar 2))))) dNop)
theorem sh_0 (r : Rt) : (evS tx.T none b_0 r).s = s_0 r := by kernel_rfl
/-- better -/
def s_1 (r : Rt) : DS := (dSeq (dRet (dIf (uB (dCmp .LtE (dWix [([114, 101, 115, 116, 97, 114, 116], .int (0)), ([102, 114, 101, 101], .int (1)), ([112, 97, 105, 100], .int (2)), ([100, 101, 97, 114], .int (3)), ([110, 111, 110, 101], .int (4))] (dVar 0)) (dWix [([114, 101, 115, 116, 97, 114, 116], .int (0)), ([102, 114, 101, 101], .int (1)), ([112, 97, 105, 100], .int (2)), ([100, 101, 97, 114], .int (3)), ([110, 111, 110, 101], .int (4))] (dVar 1)))) (dVar 0) (dVar 1))) dNop)
theorem sh_1 (r : Rt) : (evS tx.T none b_1 r).s = s_1 r := by kernel_rfl
/-- joined -/
def s_2 (r : Rt) : DS := (dSeq (dRet (dIf (uB (dCmp .GtE (dWix [([102, 114, 101, 101], .int (0)), ([112, 97, 105, 100], .int (1)), ([114, 101, 115, 116, 97, 114, 116], .int (2)), ([100, 101, 97, 114], .int (3)), ([110, 111, 110, 101], .int (4))] (dVar 0)) (dWix [([102, 114, 101, 101], .int (0)), ([112, 97, 105, 100], .int (1)), ([114, 101, 115, 116, 97, 114, 116], .int (2)), ([100, 101, 97, 114], .int (3)), ([110, 111, 110, 101], .int (4))] (dVar 1)))) (dVar 0) (dVar 1))) dNop)
theorem sh_2 (r : Rt) : (evS tx.T none b_2 r).s = s_2 r := by kernel_rfl
/-- is_grade -/
def s_3 (r : Rt) : DS := (dSeq (dRet (dAnd (dFn (on2 zIsi) (dCons (dVar 0) (dCons (dC (.ty "str")) dNil))) (dCmp .In (dVar 0) (dC (.tup [.str [114, 101, 115, 116, 97, 114, 116], .str [102, 114, 101, 101], .str [112, 97, 105, 100], .str [100, 101, 97, 114], .str [110, 111, 110, 101]]))))) dNop)
theorem sh_3 (r : Rt) : (evS tx.T none b_3 r).s = s_3 r := by kernel_rfl
/-- is_table_in -/
def s_4 (r : Rt) : DS := (dSeq (dIfS (uOr (uNot (dTru (dFn (on2 zIsi) (dCons (dVar 1) (dCons (dC (.ty "tuple")) dNil))))) (uB (dCmp .NotEq (dFn (on1 zLen) (dCons (dVar 1) dNil)) (dVar 0)))) (dSeq (dRet (dC (.bl false))) dNop) dNop) (dSeq (dFor (dIter (dVar 1)) (dgName 2) (dSeq (dIfS (uOr (uNot (dTru (dFn (on2 zIsi) (dCons (dVar 2) (dCons (dC (.ty "tuple")) dNil))))) (uOr (uB (dCmp .NotEq (dFn (on1 zLen) (dCons (dVar 2) dNil)) (dVar 0))) (uNot (dTru (dFn (on1 zAll) (dCons (dComp (dIter (dVar 2)) (.nm 3) dYes (dCall r.cf 3 (dCons (dVar 3) dNil)) [3]) dNil)))))) (dSeq (dRet (dC (.bl false))) dNop) dNop) dNop)) (dSeq (dRet (dC (.bl true))) dNop)))
theorem sh_4 (r : Rt) : (evS tx.T none b_4 r).s = s_4 r := by kernel_rfl
/-- is_table -/
def s_5 (r : Rt) : DS := (dSeq (dIfS (uNot (dTru (dCall r.cf 0 (dCons (dVar 0) (dCons (dC (.int (1))) (dCons (dC (.int (8))) dNil)))))) (dSeq (dRaiseF 3 "value" (dVar 0)) dNop) dNop) (dSeq (dRet (dCall r.cf 4 (dCons (dVar 0) (dCons (dVar 1) dNil)))) dNop))
theorem sh_5 (r : Rt) : (evS tx.T none b_5 r).s = s_5 r := by kernel_rfl
/-- require_table -/
def s_6 (r : Rt) : DS := (dSeq (dIfS (uNot (dTru (dCall r.cf 4 (dCons (dVar 0) (dCons (dVar 1) dNil))))) (dSeq (dRaise 1) dNop) dNop) dNop)
theorem sh_6 (r : Rt) : (evS tx.T none b_6 r).s = s_6 r := by kernel_rfl
/-- require_any_table -/
def s_7 (r : Rt) : DS := (dSeq (dIfS (uOr (uNot (dTru (dFn (on2 zIsi) (dCons (dVar 0) (dCons (dC (.ty "tuple")) dNil))))) (uNot (uB (dChn .LtE .LtE (dC (.int (1))) (dFn (on1 zLen) (dCons (dVar 0) dNil)) (dC (.int (8))))))) (dSeq (dRaise 1) dNop) dNop) (dSeq (dExp (dCall r.cf 6 (dCons (dFn (on1 zLen) (dCons (dVar 0) dNil)) (dCons (dVar 0) dNil)))) dNop))
theorem sh_7 (r : Rt) : (evS tx.T none b_7 r).s = s_7 r := by kernel_rfl
/-- times -/
def s_8 (r : Rt) : DS := (dSeq (dAsg (dgName 2) (dLst dNil)) (dSeq (dFor (dIter (dVar 0)) (dgName 3) (dSeq (dAsg (dgName 4) (dComp (dEnum (dCons (dVar 3) dNil)) (.tp (.cons (.nm 5) (.cons (.nm 6) .nil))) (uB (dCmp .NotEq (dVar 6) (dC (.str [110, 111, 110, 101])))) (dTup (dCons (dVar 5) (dCons (dVar 6) dNil))) [5, 6])) (dSeq (dAsg (dgName 7) (dLst dNil)) (dSeq (dFor (dRng1 (dCons (dFn (on1 zLen) (dCons (dVar 3) dNil)) dNil)) (dgName 8) (dSeq (dAsg (dgName 9) (dC (.str [110, 111, 110, 101]))) (dSeq (dFor (dIter (dVar 4)) (dgTup 2 (dgCons (dgName 5) (dgCons (dgName 6) dgNil))) (dSeq (dAsg (dgName 9) (dCall r.cf 1 (dCons (dVar 9) (dCons (dCall r.cf 2 (dCons (dVar 6) (dCons (dIx (dIx (dVar 1) (dVar 5)) (dVar 8)) dNil))) dNil)))) dNop)) (dSeq (dExp (dMth zAppend ["list"] (dVar 7) (dCons (dVar 9) dNil))) dNop)))) (dSeq (dExp (dMth zAppend ["list"] (dVar 2) (dCons (dFn (tyZ "tuple") (dCons (dVar 7) dNil)) dNil))) dNop))))) (dSeq (dRet (dFn (tyZ "tuple") (dCons (dVar 2) dNil))) dNop)))
theorem sh_8 (r : Rt) : (evS tx.T none b_8 r).s = s_8 r := by kernel_rfl
/-- product -/
def s_9 (r : Rt) : DS := (dSeq (dExp (dCall r.cf 7 (dCons (dVar 0) dNil))) (dSeq (dAsg (dgName 2) (dVar 0)) (dSeq (dFor (dIter (dVar 1)) (dgName 3) (dSeq (dExp (dCall r.cf 6 (dCons (dFn (on1 zLen) (dCons (dVar 0) dNil)) (dCons (dVar 3) dNil)))) (dSeq (dAsg (dgName 2) (dCall r.cf 8 (dCons (dVar 2) (dCons (dVar 3) dNil)))) dNop))) (dSeq (dRet (dVar 2)) dNop))))
theorem sh_9 (r : Rt) : (evS tx.T none b_9 r).s = s_9 r := by kernel_rfl
/-- is_idempotent_in -/
def s_10 (r : Rt) : DS := (dSeq (dRet (dCmp .Eq (dCall r.cf 8 (dCons (dVar 0) (dCons (dVar 0) dNil))) (dVar 0))) dNop)
theorem sh_10 (r : Rt) : (evS tx.T none b_10 r).s = s_10 r := by kernel_rfl
/-- is_idempotent -/
def s_11 (r : Rt) : DS := (dSeq (dExp (dCall r.cf 7 (dCons (dVar 0) dNil))) (dSeq (dRet (dCall r.cf 10 (dCons (dVar 0) dNil))) dNop))
theorem sh_11 (r : Rt) : (evS tx.T none b_11 r).s = s_11 r := by kernel_rfl
/-- pumped_in -/
def s_12 (r : Rt) : DS := (dSeq (dAsg (dgName 1) (dFn (on1 zLen) (dCons (dVar 0) dNil))) (dSeq (dAsg (dgName 2) (dLst dNil)) (dSeq (dFor (dEnum (dCons (dVar 0) dNil)) (dgTup 2 (dgCons (dgName 3) (dgCons (dgName 4) dgNil))) (dSeq (dAsg (dgName 5) (dIf (uB (dCmp .Eq (dIx (dVar 4) (dVar 3)) (dC (.str [112, 97, 105, 100])))) (dC (.str [100, 101, 97, 114])) (dIx (dVar 4) (dVar 3)))) (dSeq (dExp (dMth zAppend ["list"] (dVar 2) (dCons (dFn (tyZ "tuple") (dCons (dComp (dRng1 (dCons (dVar 1) dNil)) (.nm 6) dYes (dIf (uB (dCmp .Eq (dVar 6) (dVar 3))) (dVar 5) (dC (.str [110, 111, 110, 101]))) [6]) dNil)) dNil))) dNop))) (dSeq (dRet (dCall r.cf 8 (dCons (dCall r.cf 8 (dCons (dVar 0) (dCons (dFn (tyZ "tuple") (dCons (dVar 2) dNil)) dNil))) (dCons (dVar 0) dNil)))) dNop))))
theorem sh_12 (r : Rt) : (evS tx.T none b_12 r).s = s_12 r := by kernel_rfl
/-- pumped -/
def s_13 (r : Rt) : DS := (dSeq (dExp (dCall r.cf 7 (dCons (dVar 0) dNil))) (dSeq (dIfS (uNot (dTru (dCall r.cf 10 (dCons (dVar 0) dNil)))) (dSeq (dRaise 2) dNop) dNop) (dSeq (dRet (dCall r.cf 12 (dCons (dVar 0) dNil))) dNop)))
theorem sh_13 (r : Rt) : (evS tx.T none b_13 r).s = s_13 r := by kernel_rfl
/-- _law_stream -/
def s_14 (r : Rt) : DS := (dSeq (dAsg (dgName 2) (dBin .Add (dBin .Mult (dC (.int (7))) (dVar 1)) (dC (.int (3))))) (dSeq (dIfS (uB (dCmp .Lt (dVar 1) (dFn (on1 zLen) (dCons (dVar 0) dNil)))) (dSeq (dAsg (dgName 2) (dIx (dVar 0) (dVar 1))) dNop) dNop) (dSeq (dAsg (dgName 3) (dBin .Mod (dFn (on1 zAbs) (dCons (dVar 2) dNil)) (dBin .Pow (dBin .Pow (dC (.int (10))) (dC (.int (60)))) (dC (.int (12)))))) (dSeq (dAsg (dgName 4) (dBin .Mod (dBin .Add (dBin .Add (dBin .Add (dBin .Mult (dBin .Mod (dVar 3) (dC (.int (2147483629)))) (dC (.int (48271)))) (dBin .Mult (dC (.int (977))) (dVar 1))) (dBin .Mult (dC (.int (2))) (dFn (tyZ "int") (dCons (dCmp .Lt (dVar 2) (dC (.int (0)))) dNil)))) (dC (.int (11)))) (dC (.int (2147483647))))) (dSeq (dRet (dLst (dCons (dFn (on2 zMax2) (dCons (dC (.int (0))) (dCons (dBin .Sub (dVar 3) (dBin .Pow (dC (.int (10))) (dC (.int (18))))) dNil))) (dCons (dVar 4) (dCons (dC (.int (0))) dNil))))) dNop)))))
theorem sh_14 (r : Rt) : (evS tx.T none b_14 r).s = s_14 r := by kernel_rfl
/-- _law_draw -/
def s_15 (r : Rt) : DS := (dSeq (dIfS (uB (dCmp .Gt (dIx (dVar 0) (dC (.int (0)))) (dC (.int (0))))) (dSeq (dAsg (dgName 2) (dBin .Mod (dIx (dVar 0) (dC (.int (0)))) (dVar 1))) (dSeq (dAsg (dgSub (dVar 0) (dC (.int (0)))) (dBin .FloorDiv (dIx (dVar 0) (dC (.int (0)))) (dVar 1))) (dSeq (dRet (dVar 2)) dNop))) dNop) (dSeq (dAsg (dgSub (dVar 0) (dC (.int (2)))) (dBin .Add (dIx (dVar 0) (dC (.int (2)))) (dC (.int (1))))) (dSeq (dAsg (dgName 3) (dBin .Mod (dBin .Add (dIx (dVar 0) (dC (.int (1)))) (dBin .Mult (dC (.int (1000003))) (dIx (dVar 0) (dC (.int (2)))))) (dC (.int (2305843009213693951))))) (dSeq (dAsg (dgName 4) (dBin .Mod (dBin .Add (dBin .Mult (dBin .Mod (dBin .Mult (dVar 3) (dVar 3)) (dC (.int (2305843009213693921)))) (dVar 3)) (dBin .Mult (dC (.int (8191))) (dIx (dVar 0) (dC (.int (2)))))) (dC (.int (2305843009213693907))))) (dSeq (dRet (dBin .Mod (dBin .FloorDiv (dVar 4) (dC (.int (4096)))) (dVar 1))) dNop)))))
theorem sh_15 (r : Rt) : (evS tx.T none b_15 r).s = s_15 r := by kernel_rfl
/-- _law_better -/
def s_16 (r : Rt) : DS := (dSeq (dAsg (dgName 2) (dLst (dCons (dC (.str [114, 101, 115, 116, 97, 114, 116])) (dCons (dC (.str [102, 114, 101, 101])) (dCons (dC (.str [112, 97, 105, 100])) (dCons (dC (.str [100, 101, 97, 114])) (dCons (dC (.str [110, 111, 110, 101])) dNil))))))) (dSeq (dRet (dIx (dVar 2) (dFn (on2 zMin2) (dCons (dMth zIndex ["list"] (dVar 2) (dCons (dVar 0) dNil)) (dCons (dMth zIndex ["list"] (dVar 2) (dCons (dVar 1) dNil)) dNil))))) dNop))
theorem sh_16 (r : Rt) : (evS tx.T none b_16 r).s = s_16 r := by kernel_rfl
/-- _law_joined -/
def s_17 (r : Rt) : DS := (dSeq (dAsg (dgName 2) (dLst (dCons (dC (.str [102, 114, 101, 101])) (dCons (dC (.str [112, 97, 105, 100])) (dCons (dC (.str [114, 101, 115, 116, 97, 114, 116])) (dCons (dC (.str [100, 101, 97, 114])) (dCons (dC (.str [110, 111, 110, 101])) dNil))))))) (dSeq (dRet (dIx (dVar 2) (dFn (on2 zMax2) (dCons (dMth zIndex ["list"] (dVar 2) (dCons (dVar 0) dNil)) (dCons (dMth zIndex ["list"] (dVar 2) (dCons (dVar 1) dNil)) dNil))))) dNop))
theorem sh_17 (r : Rt) : (evS tx.T none b_17 r).s = s_17 r := by kernel_rfl
/-- _law_times -/
def s_18 (r : Rt) : DS := (dSeq (dAsg (dgName 2) (dLst dNil)) (dSeq (dFor (dIter (dVar 0)) (dgName 3) (dSeq (dAsg (dgName 4) (dLst dNil)) (dSeq (dFor (dRng1 (dCons (dFn (on1 zLen) (dCons (dVar 3) dNil)) dNil)) (dgName 5) (dSeq (dAsg (dgName 6) (dC (.str [110, 111, 110, 101]))) (dSeq (dFor (dEnum (dCons (dVar 3) dNil)) (dgTup 2 (dgCons (dgName 7) (dgCons (dgName 8) dgNil))) (dSeq (dIfS (uB (dCmp .NotEq (dVar 8) (dC (.str [110, 111, 110, 101])))) (dSeq (dAsg (dgName 6) (dCall r.cf 16 (dCons (dVar 6) (dCons (dCall r.cf 17 (dCons (dVar 8) (dCons (dIx (dIx (dVar 1) (dVar 7)) (dVar 5)) dNil))) dNil)))) dNop) dNop) dNop)) (dSeq (dExp (dMth zAppend ["list"] (dVar 4) (dCons (dVar 6) dNil))) dNop)))) (dSeq (dExp (dMth zAppend ["list"] (dVar 2) (dCons (dFn (tyZ "tuple") (dCons (dVar 4) dNil)) dNil))) dNop)))) (dSeq (dRet (dFn (tyZ "tuple") (dCons (dVar 2) dNil))) dNop)))
theorem sh_18 (r : Rt) : (evS tx.T none b_18 r).s = s_18 r := by kernel_rfl
/-- _law_other -/
def s_19 (r : Rt) : DS := (dSeq (dAsg (dgName 1) (dLst (dCons (dC (.non)) (dCons (dC (.bl true)) (dCons (dNeg (dC (.int (1)))) (dCons (dC (.int (0))) (dCons (dC (.int (1))) (dCons (dC (.str [])) (dCons (dC (.str [97])) (dCons (dC (.str [97, 98])) (dCons (dTup dNil) (dCons (dLst dNil) (dCons dNewD (dCons (dTup (dCons (dC (.int (0))) dNil)) (dCons (dTup (dCons (dC (.str [97])) dNil)) (dCons (dBin .Pow (dC (.int (10))) (dC (.int (39)))) dNil)))))))))))))))) (dSeq (dAsg (dgName 1) (dBin .Add (dVar 1) (dLst (dCons (dC (.str [110, 101, 118, 101, 114])) (dCons (dTup (dCons (dC (.non)) dNil)) (dCons (dTup (dCons (dTup dNil) dNil)) (dCons (dLst (dCons (dTup dNil) dNil)) (dCons (ev tx.T (.dmk (.dcons (.cst (.int (0))) (.cst (.int (1))) .dnil)) r none).e dNil)))))))) (dSeq (dRet (dIx (dVar 1) (dCall r.cf 15 (dCons (dVar 0) (dCons (dFn (on1 zLen) (dCons (dVar 1) dNil)) dNil))))) dNop)))
theorem sh_19 (r : Rt) : (evS tx.T none b_19 r).s = s_19 r := by kernel_rfl
/-- _law_changed -/
def s_20 (r : Rt) : DS := (dSeq (dIfS (uAnd (dTru (dFn (on2 zIsi) (dCons (dVar 1) (dCons (dC (.ty "tuple")) dNil)))) (uAnd (uB (dCmp .NotEq (dVar 1) (dTup dNil))) (uB (dCmp .Gt (dCall r.cf 15 (dCons (dVar 0) (dCons (dC (.int (4))) dNil))) (dC (.int (0))))))) (dSeq (dAsg (dgName 2) (dCall r.cf 15 (dCons (dVar 0) (dCons (dFn (on1 zLen) (dCons (dVar 1) dNil)) dNil)))) (dSeq (dAsg (dgName 3) (dCall r.cf 15 (dCons (dVar 0) (dCons (dC (.int (6))) dNil)))) (dSeq (dIfS (uB (dCmp .Eq (dVar 3) (dC (.int (0))))) (dSeq (dRet (dBin .Add (dSlc (dVar 1) dNoPart (dPart (dVar 2))) (dSlc (dVar 1) (dPart (dBin .Add (dVar 2) (dC (.int (1))))) dNoPart))) dNop) dNop) (dSeq (dIfS (uB (dCmp .Eq (dVar 3) (dC (.int (1))))) (dSeq (dRet (dBin .Add (dBin .Add (dSlc (dVar 1) dNoPart (dPart (dVar 2))) (dSlc (dVar 1) (dPart (dVar 2)) (dPart (dBin .Add (dVar 2) (dC (.int (1))))))) (dSlc (dVar 1) (dPart (dVar 2)) dNoPart))) dNop) dNop) (dSeq (dRet (dBin .Add (dBin .Add (dSlc (dVar 1) dNoPart (dPart (dVar 2))) (dTup (dCons (dCall r.cf 20 (dCons (dVar 0) (dCons (dIx (dVar 1) (dVar 2)) dNil))) dNil))) (dSlc (dVar 1) (dPart (dBin .Add (dVar 2) (dC (.int (1))))) dNoPart))) dNop))))) dNop) (dSeq (dIfS (uAnd (dTru (dFn (on2 zIsi) (dCons (dVar 1) (dCons (dC (.ty "int")) dNil)))) (uAnd (uNot (dTru (dFn (on2 zIsi) (dCons (dVar 1) (dCons (dC (.ty "bool")) dNil))))) (uB (dCmp .Gt (dCall r.cf 15 (dCons (dVar 0) (dCons (dC (.int (3))) dNil))) (dC (.int (0))))))) (dSeq (dRet (dBin .Add (dVar 1) (dIx (dLst (dCons (dC (.int (1))) (dCons (dNeg (dC (.int (1)))) (dCons (dC (.int (2))) (dCons (dC (.int (30))) dNil))))) (dCall r.cf 15 (dCons (dVar 0) (dCons (dC (.int (4))) dNil)))))) dNop) dNop) (dSeq (dIfS (uAnd (dTru (dFn (on2 zIsi) (dCons (dVar 1) (dCons (dC (.ty "str")) dNil)))) (uB (dCmp .Eq (dCall r.cf 15 (dCons (dVar 0) (dCons (dC (.int (2))) dNil))) (dC (.int (0)))))) (dSeq (dRet (dIx (dLst (dCons (dC (.str [97])) (dCons (dC (.str [98])) (dCons (dC (.str [98, 97])) (dCons (dC (.str [122])) (dCons (dC (.str [112, 97, 105, 100])) (dCons (dC (.str [100, 101, 97, 114])) (dCons (dC (.str [102, 114, 101, 101])) (dCons (dBin .Add (dVar 1) (dC (.str [97]))) dNil))))))))) (dCall r.cf 15 (dCons (dVar 0) (dCons (dC (.int (8))) dNil))))) dNop) dNop) (dSeq (dRet (dCall r.cf 19 (dCons (dVar 0) dNil))) dNop))))
theorem sh_20 (r : Rt) : (evS tx.T none b_20 r).s = s_20 r := by kernel_rfl
/-- _law_some_table -/
def s_21 (r : Rt) : DS := (dSeq (dAsg (dgName 2) (dIx (dLst (dCons (dLst (dCons (dC (.str [114, 101, 115, 116, 97, 114, 116])) (dCons (dC (.str [102, 114, 101, 101])) (dCons (dC (.str [112, 97, 105, 100])) (dCons (dC (.str [100, 101, 97, 114])) (dCons (dC (.str [110, 111, 110, 101])) dNil)))))) (dCons (dLst (dCons (dC (.str [110, 111, 110, 101])) (dCons (dC (.str [110, 111, 110, 101])) (dCons (dC (.str [110, 111, 110, 101])) (dCons (dC (.str [102, 114, 101, 101])) (dCons (dC (.str [112, 97, 105, 100])) dNil)))))) (dCons (dLst (dCons (dC (.str [112, 97, 105, 100])) (dCons (dC (.str [112, 97, 105, 100])) (dCons (dC (.str [102, 114, 101, 101])) (dCons (dC (.str [110, 111, 110, 101])) (dCons (dC (.str [114, 101, 115, 116, 97, 114, 116])) dNil)))))) dNil)))) (dCall r.cf 15 (dCons (dVar 0) (dCons (dC (.int (3))) dNil))))) (dSeq (dAsg (dgName 3) (dLst dNil)) (dSeq (dFor (dRng1 (dCons (dVar 1) dNil)) (dgName 4) (dSeq (dAsg (dgName 5) (dLst dNil)) (dSeq (dFor (dRng1 (dCons (dVar 1) dNil)) (dgName 6) (dSeq (dExp (dMth zAppend ["list"] (dVar 5) (dCons (dIx (dVar 2) (dCall r.cf 15 (dCons (dVar 0) (dCons (dC (.int (5))) dNil)))) dNil))) dNop)) (dSeq (dExp (dMth zAppend ["list"] (dVar 3) (dCons (dFn (tyZ "tuple") (dCons (dVar 5) dNil)) dNil))) dNop)))) (dSeq (dRet (dFn (tyZ "tuple") (dCons (dVar 3) dNil))) dNop))))
theorem sh_21 (r : Rt) : (evS tx.T none b_21 r).s = s_21 r := by kernel_rfl
/-- _law_steady -/
def s_22 (r : Rt) : DS := (dSeq (dAsg (dgName 1) (dVar 0)) (dSeq (dFor (dRng1 (dCons (dC (.int (40))) dNil)) (dgName 2) (dSeq (dIfS (uB (dCmp .Eq (dCall r.cf 18 (dCons (dVar 1) (dCons (dVar 1) dNil))) (dVar 1))) (dSeq (dRet (dVar 1)) dNop) dNop) (dSeq (dAsg (dgName 1) (dCall r.cf 18 (dCons (dVar 1) (dCons (dVar 0) dNil)))) dNop))) (dSeq (dRet (dC (.non))) dNop)))
theorem sh_22 (r : Rt) : (evS tx.T none b_22 r).s = s_22 r := by kernel_rfl
/-- _law_error -/
def s_23 (r : Rt) : DS := (dSeq (dTry r.sub (dSeq (dExp (dAct 0 r.th)) dNop) [⟨.own 1, (some 1), fun x => let r : Rt := { r with x := some x }; (dSeq (dRet (dIf (dTru (dIsE r.sub r.x (.own 0) 1)) (dC (.str [116, 97, 98, 108, 101])) (dC (.str [111, 100, 100])))) dNop)⟩, ⟨.own 3, (some 1), fun x => let r : Rt := { r with x := some x }; (dSeq (dRet (dBin .Add (dC (.str [110, 117, 109, 98, 101, 114, 32])) (dFn (on1 zRepr) (dCons (dFld r.x tx.T.kept "value" 1) dNil)))) dNop)⟩]) (dSeq (dRet (dC (.str [114, 101, 116, 117, 114, 110, 101, 100]))) dNop))
theorem sh_23 (r : Rt) : (evS tx.T none b_23 r).s = s_23 r := by kernel_rfl
/-- _law_is_a_table -/
def s_24 (r : Rt) : DS := (dSeq (dIfS (uOr (uNot (dTru (dFn (on2 zIsi) (dCons (dVar 1) (dCons (dC (.ty "tuple")) dNil))))) (uB (dCmp .NotEq (dFn (on1 zLen) (dCons (dVar 1) dNil)) (dVar 0)))) (dSeq (dRet (dC (.bl false))) dNop) dNop) (dSeq (dFor (dIter (dVar 1)) (dgName 2) (dSeq (dIfS (uOr (uNot (dTru (dFn (on2 zIsi) (dCons (dVar 2) (dCons (dC (.ty "tuple")) dNil))))) (uB (dCmp .NotEq (dFn (on1 zLen) (dCons (dVar 2) dNil)) (dVar 0)))) (dSeq (dRet (dC (.bl false))) dNop) dNop) (dSeq (dFor (dIter (dVar 2)) (dgName 3) (dSeq (dIfS (uOr (uNot (dTru (dFn (on2 zIsi) (dCons (dVar 3) (dCons (dC (.ty "str")) dNil))))) (uB (dCmp .NotIn (dVar 3) (dTup (dCons (dC (.str [114, 101, 115, 116, 97, 114, 116])) (dCons (dC (.str [102, 114, 101, 101])) (dCons (dC (.str [112, 97, 105, 100])) (dCons (dC (.str [100, 101, 97, 114])) (dCons (dC (.str [110, 111, 110, 101])) dNil))))))))) (dSeq (dRet (dC (.bl false))) dNop) dNop) dNop)) dNop))) (dSeq (dRet (dC (.bl true))) dNop)))
theorem sh_24 (r : Rt) : (evS tx.T none b_24 r).s = s_24 r := by kernel_rfl
/-- _law_right -/
def s_25 (r : Rt) : DS := (dSeq (dAsg (dgName 2) (dComp (dRng1 (dCons (dC (.int (5))) dNil)) (.nm 3) dYes (dCall r.cf 21 (dCons (dVar 0) (dCons (dVar 1) dNil))) [3])) (dSeq (dAsg (dgTup 4 (dgCons (dgName 4) (dgCons (dgName 5) (dgCons (dgName 6) (dgCons (dgName 7) dgNil))))) (dTup (dCons (dFn (on1 zRepr) (dCons (dVar 2) dNil)) (dCons (dIx (dVar 2) (dC (.int (0)))) (dCons (dIx (dVar 2) (dC (.int (1)))) (dCons (dIx (dVar 2) (dC (.int (2)))) dNil)))))) (dSeq (dPar 8 9 (dCons (dCall r.cf 18 (dCons (dCall r.cf 18 (dCons (dVar 5) (dCons (dVar 6) dNil))) (dCons (dVar 7) dNil))) (dCons (dCall r.cf 18 (dCons (dVar 5) (dCons (dVar 6) dNil))) dNil))) (dSeq (dIfS (uOr (uB (dCmp .NotEq (dCall r.cf 9 (dCons (dVar 5) dNil)) (dVar 5))) (uOr (uB (dCmp .NotEq (dCall r.cf 9 (dCons (dVar 5) (dCons (dVar 6) dNil))) (dVar 9))) (uB (dCmp .NotEq (dCall r.cf 9 (dCons (dVar 5) (dCons (dVar 6) (dCons (dVar 7) dNil)))) (dVar 8))))) (dSeq (dRet (dC (.bl false))) dNop) dNop) (dSeq (dIfS (uOr (uB (dCmp .NotEq (dCall r.cf 9 (dCons (dVar 5) (dCons (dCall r.cf 9 (dCons (dVar 6) (dCons (dVar 7) dNil))) dNil))) (dVar 8))) (uB (dCmp .NotEq (dCall r.cf 9 (dCons (dCall r.cf 9 (dCons (dVar 5) (dCons (dVar 6) dNil))) (dCons (dVar 7) dNil))) (dVar 8)))) (dSeq (dRet (dC (.bl false))) dNop) dNop) (dSeq (dAsg (dgName 10) (dCall r.cf 18 (dCons (dCall r.cf 18 (dCons (dVar 8) (dCons (dIx (dVar 2) (dC (.int (3)))) dNil))) (dCons (dIx (dVar 2) (dC (.int (4)))) dNil)))) (dSeq (dIfS (uOr (uB (dCmp .NotEq (dCall r.cf 9 (dCons (dVar 5) (dCons (dVar 6) (dCons (dVar 7) (dCons (dIx (dVar 2) (dC (.int (3)))) (dCons (dIx (dVar 2) (dC (.int (4)))) dNil)))))) (dVar 10))) (uB (dCmp .NotEq (dFn (on1 zRepr) (dCons (dVar 2) dNil)) (dVar 4)))) (dSeq (dRet (dC (.bl false))) dNop) dNop) (dSeq (dAsg (dgName 11) (dCall r.cf 22 (dCons (dVar 5) dNil))) (dSeq (dFor (dIter (dBin .Add (dBin .Add (dVar 2) (dLst (dCons (dVar 8) (dCons (dVar 10) dNil)))) (dIf (uB (dCmp .Is (dVar 11) (dC (.non)))) (dLst dNil) (dLst (dCons (dVar 11) dNil))))) (dgName 12) (dSeq (dIfS (uB (dCmp .NotEq (dFn (on1 zRepr) (dCons (dCall r.cf 11 (dCons (dVar 12) dNil)) dNil)) (dFn (on1 zRepr) (dCons (dCmp .Eq (dCall r.cf 18 (dCons (dVar 12) (dCons (dVar 12) dNil))) (dVar 12)) dNil)))) (dSeq (dRet (dC (.bl false))) dNop) dNop) dNop)) (dSeq (dRet (dC (.bl true))) dNop))))))))))
theorem sh_25 (r : Rt) : (evS tx.T none b_25 r).s = s_25 r := by kernel_rfl
/-- _law_values_right -/
def s_26 (r : Rt) : DS := (dSeq (dAsg (dgName 2) (dCall r.cf 21 (dCons (dVar 0) (dCons (dVar 1) dNil)))) (dSeq (dAsg (dgName 3) (dLst (dCons (dVar 2) (dCons (dSlc (dVar 2) dNoPart (dPart (dNeg (dC (.int (1)))))) (dCons (dBin .Add (dVar 2) (dSlc (dVar 2) dNoPart (dPart (dC (.int (1)))))) (dCons (dFn (tyZ "list") (dCons (dVar 2) dNil)) (dCons (dFn (tyZ "tuple") (dCons (dComp (dIter (dVar 2)) (.nm 4) dYes (dFn (tyZ "list") (dCons (dVar 4) dNil)) [4]) dNil)) (dCons (dC (.non)) (dCons (dTup dNil) (dCons (dC (.str [116, 97, 98, 108, 101])) dNil)))))))))) (dSeq (dAsg (dgName 3) (dBin .Add (dBin .Add (dVar 3) (dComp (dRng1 (dCons (dC (.int (6))) dNil)) (.nm 5) dYes (dCall r.cf 20 (dCons (dVar 0) (dCons (dVar 2) dNil))) [5])) (dLst (dCons (dCall r.cf 19 (dCons (dVar 0) dNil)) (dCons (dIx (dVar 2) (dC (.int (0)))) (dCons (dTup (dCons (dVar 2) dNil)) dNil)))))) (dSeq (dFor (dIter (dVar 3)) (dgName 6) (dSeq (dFor (dIter (dTup (dCons (dVar 1) (dCons (dBin .Add (dVar 1) (dC (.int (1)))) (dCons (dC (.int (1))) dNil))))) (dgName 7) (dSeq (dIfS (uB (dCmp .NotEq (dFn (on1 zRepr) (dCons (dCall r.cf 5 (dCons (dVar 7) (dCons (dVar 6) dNil))) dNil)) (dFn (on1 zRepr) (dCons (dCall r.cf 24 (dCons (dVar 7) (dCons (dVar 6) dNil))) dNil)))) (dSeq (dRet (dC (.bl false))) dNop) dNop) dNop)) (dSeq (dAsg (dgName 8) (dIf (dTru (dCall r.cf 24 (dCons (dVar 1) (dCons (dVar 6) dNil)))) (dC (.str [114, 101, 116, 117, 114, 110, 101, 100])) (dC (.str [116, 97, 98, 108, 101])))) (dSeq (dAsg (dgName 9) (dLst (dCons (fun l G => r.lf 23 (fun G' => ((dCall r.low 9 (dCons (dVar 2) (dCons (dVar 6) dNil))) : DE) l G') G) dNil))) (dSeq (dExp (dMth zAppend ["list"] (dVar 9) (dCons (fun l G => r.lf 23 (fun G' => ((dCall r.low 9 (dCons (dVar 2) (dCons (dVar 2) (dCons (dVar 6) dNil)))) : DE) l G') G) dNil))) (dSeq (dIfS (uB (dCmp .NotEq (dVar 9) (dLst (dCons (dVar 8) (dCons (dVar 8) dNil))))) (dSeq (dRet (dC (.bl false))) dNop) dNop) (dSeq (dAsg (dgName 7) (dIf (dTru (dFn (on2 zIsi) (dCons (dVar 6) (dCons (dC (.ty "tuple")) dNil)))) (dFn (on1 zLen) (dCons (dVar 6) dNil)) (dC (.int (0))))) (dSeq (dAsg (dgName 8) (dIf (uAnd (uB (dChn .Lt .Lt (dC (.int (0))) (dVar 7) (dC (.int (9))))) (dTru (dCall r.cf 24 (dCons (dVar 7) (dCons (dVar 6) dNil))))) (dC (.str [114, 101, 116, 117, 114, 110, 101, 100])) (dC (.str [116, 97, 98, 108, 101])))) (dSeq (dAsg (dgName 9) (dLst (dCons (fun l G => r.lf 23 (fun G' => ((dCall r.low 9 (dCons (dVar 6) dNil)) : DE) l G') G) dNil))) (dSeq (dExp (dMth zAppend ["list"] (dVar 9) (dCons (fun l G => r.lf 23 (fun G' => ((dCall r.low 11 (dCons (dVar 6) dNil)) : DE) l G') G) dNil))) (dSeq (dIfS (uB (dCmp .NotEq (dVar 9) (dLst (dCons (dVar 8) (dCons (dVar 8) dNil))))) (dSeq (dRet (dC (.bl false))) dNop) dNop) dNop))))))))))) (dSeq (dAsg (dgName 10) (dIx (dLst (dCons (dC (.int (0))) (dCons (dC (.int (9))) (dCons (dNeg (dC (.int (1)))) (dCons (dC (.non)) (dCons (dC (.bl true)) (dCons (dC (.str [50])) (dCons (dTup (dCons (dC (.int (1))) dNil)) (dCons (dLst (dCons (dC (.int (1))) dNil)) (dCons (dBin .Pow (dC (.int (10))) (dC (.int (39)))) dNil)))))))))) (dCall r.cf 15 (dCons (dVar 0) (dCons (dC (.int (9))) dNil))))) (dSeq (dRet (dCmp .Eq (fun l G => r.lf 23 (fun G' => ((dCall r.low 5 (dCons (dVar 10) (dCons (dVar 2) dNil))) : DE) l G') G) (dBin .Add (dC (.str [110, 117, 109, 98, 101, 114, 32])) (dFn (on1 zRepr) (dCons (dVar 10) dNil))))) dNop))))))
theorem sh_26 (r : Rt) : (evS tx.T none b_26 r).s = s_26 r := by kernel_rfl
/-- _law_written_right -/
def s_27 (r : Rt) : DS := (dSeq (dAsg (dgName 0) (dLst dNil)) (dSeq (dFor (dRng1 (dCons (dC (.int (8))) dNil)) (dgName 1) (dSeq (dExp (dMth zAppend ["list"] (dVar 0) (dCons (dFn (tyZ "tuple") (dCons (dComp (dRng1 (dCons (dC (.int (8))) dNil)) (.nm 2) dYes (dIf (uOr (uB (dCmp .NotEq (dVar 1) (dC (.int (7))))) (uB (dCmp .NotEq (dVar 2) (dC (.int (0)))))) (dIx (dLst (dCons (dC (.str [110, 111, 110, 101])) (dCons (dC (.str [102, 114, 101, 101])) dNil))) (dFn (tyZ "int") (dCons (dCmp .Eq (dVar 2) (dBin .Mod (dBin .Add (dVar 1) (dC (.int (1)))) (dC (.int (8))))) dNil))) (dC (.str [112, 97, 105, 100]))) [2]) dNil)) dNil))) dNop)) (dSeq (dAsg (dgTup 2 (dgCons (dgName 3) (dgCons (dgName 4) dgNil))) (dTup (dCons (dFn (tyZ "tuple") (dCons (dVar 0) dNil)) (dCons (dFn (tyZ "tuple") (dCons (dVar 0) dNil)) dNil)))) (dSeq (dFor (dRng1 (dCons (dC (.int (7))) dNil)) (dgName 5) (dSeq (dAsg (dgName 4) (dCall r.cf 9 (dCons (dVar 4) (dCons (dVar 3) dNil)))) dNop)) (dSeq (dAsg (dgName 6) (dFn (tyZ "tuple") (dCons (dComp (dRng1 (dCons (dC (.int (8))) dNil)) (.nm 1) dYes (dFn (tyZ "tuple") (dCons (dComp (dRng1 (dCons (dC (.int (8))) dNil)) (.nm 2) dYes (dIx (dLst (dCons (dC (.str [110, 111, 110, 101])) (dCons (dC (.str [112, 97, 105, 100])) dNil))) (dFn (tyZ "int") (dCons (dCmp .Eq (dVar 1) (dVar 2)) dNil))) [2]) dNil)) [1]) dNil))) (dSeq (dIfS (uOr (uB (dCmp .NotEq (dVar 4) (dVar 6))) (uOr (uNot (dTru (dCall r.cf 11 (dCons (dVar 4) dNil)))) (uOr (dTru (dCall r.cf 11 (dCons (dVar 3) dNil))) (uB (dCmp .NotEq (dIx (dIx (dCall r.cf 13 (dCons (dVar 4) dNil)) (dC (.int (3)))) (dC (.int (3)))) (dC (.str [100, 101, 97, 114]))))))) (dSeq (dRet (dC (.bl false))) dNop) dNop) (dSeq (dAsg (dgName 7) (dFn (tyZ "tuple") (dCons (dBin .Mult (dLst (dCons (dBin .Mult (dTup (dCons (dC (.str [102, 114, 101, 101])) dNil)) (dC (.int (9)))) dNil)) (dC (.int (9)))) dNil))) (dSeq (dAsg (dgName 8) (dLst (dCons (fun l G => r.lf 23 (fun G' => ((dCall r.low 9 (dCons (dVar 7) dNil)) : DE) l G') G) dNil))) (dSeq (dExp (dMth zAppend ["list"] (dVar 8) (dCons (fun l G => r.lf 23 (fun G' => ((dCall r.low 11 (dCons (dVar 7) dNil)) : DE) l G') G) dNil))) (dSeq (dExp (dMth zAppend ["list"] (dVar 8) (dCons (fun l G => r.lf 23 (fun G' => ((dCall r.low 9 (dCons (dTup (dCons (dTup (dCons (dC (.str [102, 114, 101, 101])) dNil)) dNil)) (dCons (dVar 4) dNil))) : DE) l G') G) dNil))) (dSeq (dExp (dMth zAppend ["list"] (dVar 8) (dCons (fun l G => r.lf 23 (fun G' => ((dCall r.low 13 (dCons (dVar 7) dNil)) : DE) l G') G) dNil))) (dSeq (dRet (dAnd (dCmp .Eq (dVar 8) (dBin .Mult (dLst (dCons (dC (.str [116, 97, 98, 108, 101])) dNil)) (dC (.int (4))))) (dAnd (dCall r.cf 5 (dCons (dC (.int (8))) (dCons (dVar 3) dNil))) (dNot (dCall r.cf 5 (dCons (dC (.int (8))) (dCons (dVar 7) dNil))))))) dNop))))))))))))
theorem sh_27 (r : Rt) : (evS tx.T none b_27 r).s = s_27 r := by kernel_rfl
/-- law -/
def s_28 (r : Rt) : DS := (dSeq (dFor (dRng1 (dCons (dFn (on2 zMax2) (dCons (dC (.int (1))) (dCons (dFn (on2 zMin2) (dCons (dC (.int (5))) (dCons (dFn (on1 zLen) (dCons (dVar 0) dNil)) dNil))) dNil))) dNil)) (dgName 1) (dSeq (dAsg (dgName 2) (dCall r.cf 14 (dCons (dVar 0) (dCons (dVar 1) dNil)))) (dSeq (dFor (dRng1 (dCons (dC (.int (2))) dNil)) (dgName 3) (dSeq (dAsg (dgName 4) (dBin .Add (dC (.int (1))) (dCall r.cf 15 (dCons (dVar 2) (dCons (dC (.int (7))) dNil))))) (dSeq (dIfS (uOr (uNot (dTru (dCall r.cf 25 (dCons (dVar 2) (dCons (dVar 4) dNil))))) (uNot (dTru (dCall r.cf 26 (dCons (dVar 2) (dCons (dVar 4) dNil)))))) (dSeq (dRet (dC (.bl false))) dNop) dNop) dNop))) dNop))) (dSeq (dRet (dCall r.cf 27 dNil)) dNop))
theorem sh_28 (r : Rt) : (evS tx.T none b_28 r).s = s_28 r := by kernel_rfl
-- LAW index 28 place 43
-- NAMES ["LimitError", "InvalidTable", "InvalidOperation", "InvalidNumber", "MAX_STATES", "is_integer", "GRADES", "NONE", "DEAR", "PAID", "CHOICE_PLACES", "SEQUENCE_PLACES", "better", "joined", "is_grade", "is_table_in", "is_table", "require_table", "require_any_table", "times", "product", "is_idempotent_in", "is_idempotent", "pumped_in", "pumped", "_law_stream", "_law_draw", "_law_better", "_law_joined", "_law_times", "_law_other", "_law_changed", "_law_some_table", "_law_steady", "_law_error", "_law_is_a_table", "_law_right", "_law_values_right", "_law_written_right"]
end K
end
section
set_option Elab.async false
set_option linter.all false
set_option maxRecDepth 100000
set_option maxHeartbeats 0
namespace K
open PySem PySem.Spec PyProof.Rows PySem.W
open_top hd for PySem.Challenge.rw_openlimit_k19_products_of_tables
end K
open PySem PySem.Spec PyProof.Rows L2 Zy
namespace K
def fas : List He.Fa := [.glo "law"]
theorem says_of {t : TX} {K : Params → PySem.W.Frag} {as : List Addr} {e : ∀ P, as = (K P).map (·.1)} {ts : List Addr} {w : World} {h : Heap} (Y : (PySem.W.kmHook K as e ts).says w h) (h1 : He.obsT fas t.fn t.tabs (K w.params) = He.valT t.fn t.tabs w) (h2 : exB t (K w.params) = true)
    (h3 : (t.tf.all fun p => PySem.W.codeHdIn (K w.params) (He.cT (K w.params) p).1 (He.cT (K w.params) p).2 && (((K w.params).lookup (He.cT (K w.params) p).2).isNone && ts.any fun b => decide (b = (He.cT (K w.params) p).2))) = true) : He.SaysX fas t.fn t.tabs t.tf (exB t) w h (K w.params) := by
  have key := fun p hp => Zy.ba (List.all_eq_true.mp h3 p hp)
  refine ⟨h1, h2, fun p hp => (key p hp).1, fun p hp => Option.isNone_iff_eq_none.mp (Zy.ba (key p hp).2).1, fun p hp => ?_⟩
  obtain ⟨b, hb, e⟩ := List.any_eq_true.mp (Zy.ba (key p hp).2).2
  rw [← of_decide_eq_true e]
  exact PySem.W.km_tabs_of Y b hb
theorem holds (plain : ∀ ns : List Int, ns.length ≤ 63 → (∀ z ∈ ns, Builtin.Int.intBits z ≤ 1048576) → ∃ G, (callD tx.T tx.sub tx.fs (30 + 3)).cf 28 [.rol (ns.map .int)] [] = .ok (.bl true) G) : PySem.Challenge.rw_openlimit_k19_products_of_tables.Holds := by
  refine hd ?_
  refine walkG (l := PySem.Challenge.rw_openlimit_k19_products_of_tables) (n := 63) rfl (by decide) (by kernel_rfl) ?_
  intro w mg fa h Y G hmg
  exact ⟨_, PySem.W.km_in_of Y, lawAt (t := tx) (k := 28) (f := f_28) (d := 30) (fas := fas) (PySem.W.km_in_of Y) G (says_of Y (by kernel_rfl) (by kernel_rfl) (by kernel_rfl)) hmg (by decide) cks bds bis rfl rfl (by simp [fas]) ⟨⟨rfl, by decide, by decide⟩, rfl⟩ plain⟩
end K
end
section
set_option Elab.async false
set_option linter.all false
set_option maxRecDepth 100000
set_option maxHeartbeats 4000000
namespace K
open PySem PySem.Spec PyProof.Rows L2 Zy
abbrev C (n : Nat) : Cd := callD tx.T tx.sub tx.fs n
abbrev rt (d : Nat) : Rt := mkRt tx.sub (d + 2) (C (d + 2)) (C d)
theorem cfS (d k : Nat) (f : Fd) (s : Rt → DS) (n np : Nat) (hk : tx.fs[k]? = some f) (ha : f.act = false) (hs : f.star = false) (hN : f.N.length = n) (hnp : f.np = np) (sh : ∀ r, (evS tx.T none f.body r).s = s r) {zs : List Z} {G : GH} (h : zs.length = np) :
    (C (d + 3)).cf k zs G = (s (rt d) (stL n zs) G).fin := by
  have e : (C (d + 3)).cf k = dFun tx.T f (rt d) := by
    show (stepD _ _ _ _ _ _).cf k = _
    unfold stepD
    simp only [hk, ha, Bool.false_eq_true, if_false]
  rw [e]
  unfold dFun
  rw [hs]
  simp only [Bool.false_eq_true, if_false]
  rw [if_pos (by rw [h, hnp]), sh, hN]
theorem cfV (d k : Nat) (f : Fd) (s : Rt → DS) (n np : Nat) (hk : tx.fs[k]? = some f) (ha : f.act = false) (hs : f.star = true) (hN : f.N.length = n) (hnp : f.np = np) (sh : ∀ r, (evS tx.T none f.body r).s = s r) {zs : List Z} {G : GH} (h : np ≤ zs.length) (h2 : zs.length ≤ sizeLine) :
    (C (d + 3)).cf k zs G = (s (rt d) (stL n (zs.take np ++ [.tup (zs.drop np)])) G).fin := by
  have e : (C (d + 3)).cf k = dFun tx.T f (rt d) := by
    show (stepD _ _ _ _ _ _).cf k = _
    unfold stepD
    simp only [hk, ha, Bool.false_eq_true, if_false]
  rw [e]
  unfold dFun
  rw [hs]
  simp only [if_true]
  rw [if_pos ⟨by rw [hnp]; exact h, h2⟩, sh, hN, hnp]
theorem small (n : Nat) (h : n ≤ 100) : n ≤ sizeLine := by rw [sizeLine_eq]; omega
theorem smallL (n : Nat) (h : n ≤ 100) : n < sizeLine := by rw [sizeLine_eq]; omega
/-! ### heaps -/
theorem at_sh {A B : GH} {k : Nat} : lstAt (A ++ B) (A.length + k) = lstAt B k := by
  unfold lstAt
  rw [List.getElem?_append_right (by omega), Nat.add_sub_cancel_left]
theorem at_sh0 {A B : GH} : lstAt (A ++ B) A.length = lstAt B 0 := at_sh (k := 0)
theorem set_sh {A B : GH} {k : Nat} {y : ZO} : (A ++ B).set (A.length + k) y = A ++ B.set k y := by
  rw [List.set_append_right _ _ (by omega), Nat.add_sub_cancel_left]
theorem set_sh0 {A B : GH} {y : ZO} : (A ++ B).set A.length y = A ++ B.set 0 y := set_sh (k := 0)
theorem recv_ap {G : GH} {n : Nat} : recvT G (.ref n) = (lstAt G n).map fun _ => "list" := rfl
theorem append_ap {G : GH} {n : Nat} {z : Z} : zAppend "list" (.ref n) [z] G = match lstAt G n with
  | some xs => if xs.length < sizeLine then putO n (.lst (xs ++ [z])) .non G else .bad
  | none => .bad := rfl
theorem at_hd {xs : List Z} {B : GH} : lstAt (.lst xs :: B) 0 = some xs := rfl
theorem at_tl {x : ZO} {B : GH} {n : Nat} : lstAt (x :: B) (n + 1) = lstAt B n := rfl
/-- a comprehension over items that stand, any pattern, any test -/
theorem lc_gen {xs : List Z} {p : Pat} {t : DT} {e : DE} {l : L} {n : Nat} {G0 : GH} (P : Nat → List Z → GH → Prop)
    (step : ∀ (k : Nat) z acc G, xs[k]? = some z → P k acc G → lstAt G n = some acc → ∃ l1 b G2, patD G p z l = some l1 ∧ t l1 G = .ok b G2 ∧
      (b = true → ∃ y G3, e l1 G2 = .ok y G3 ∧ lstAt G3 n = some acc ∧ P (k + 1) (acc ++ [y]) (G3.set n (.lst (acc ++ [y])))) ∧ (b = false → lstAt G2 n = some acc ∧ P (k + 1) acc G2))
    (hs : xs.length ≤ sizeLine) (h0 : P 0 [] G0) (hG : lstAt G0 n = some []) :
    ∃ acc G', lcGo (.pure xs) p t e n l xs.length 0 G0 = .ok (.ref n) G' ∧ lstAt G' n = some acc ∧ acc.length ≤ xs.length ∧ P xs.length acc G' := by
  have key : ∀ (k j : Nat) (acc : List Z) (G : GH), j + k = xs.length → acc.length ≤ j → P j acc G → lstAt G n = some acc → ∃ acc' G', lcGo (.pure xs) p t e n l k j G = .ok (.ref n) G' ∧ lstAt G' n = some acc' ∧ acc'.length ≤ xs.length ∧ P xs.length acc' G' := by
    intro k
    induction k with
    | zero =>
      intro j acc G hj ha hp hl
      have hjx : j = xs.length := by omega
      refine ⟨acc, G, ?_, hl, by omega, by rw [← hjx]; exact hp⟩
      unfold lcGo
      have : itNext (.pure xs) G j = some none := by show some xs[j]? = _; rw [List.getElem?_eq_none (by omega)]
      rw [this]
    | succ k ih =>
      intro j acc G hj ha hp hl
      have hlt : j < xs.length := by omega
      have hz : xs[j]? = some xs[j] := List.getElem?_eq_getElem hlt
      obtain ⟨l1, b, G2, h1, h2, h3, h4⟩ := step j _ acc G hz hp hl
      have : itNext (.pure xs) G j = some (some xs[j]) := by show some xs[j]? = _; rw [hz]
      unfold lcGo
      rw [this]
      simp only [h1, h2]
      cases b with
      | true =>
        obtain ⟨y, G3, e1, e2, e3⟩ := h3 rfl
        obtain ⟨acc', G', h5, h6, h7, h8⟩ := ih (j + 1) (acc ++ [y]) _ (by omega) (by simp; omega) e3 (by
          have q := lstAt_eq.mp e2
          refine lstAt_eq.mpr ?_
          rw [List.getElem?_set_self (List.getElem?_eq_some_iff.mp q).1])
        refine ⟨acc', G', ?_, h6, h7, h8⟩
        simp only [e1, e2]
        rw [if_pos (by omega)]
        exact h5
      | false =>
        obtain ⟨e2, e3⟩ := h4 rfl
        obtain ⟨acc', G', h5, h6, h7, h8⟩ := ih (j + 1) acc _ (by omega) (by omega) e3 e2
        exact ⟨acc', G', h5, h6, h7, h8⟩
  exact key xs.length 0 [] G0 (by omega) (Nat.le_refl _) h0 hG
theorem rng_nth {j : Int} {k : Nat} {z : Z} (h : (rngZ 0 j)[k]? = some z) : z = .int k := by
  unfold rngZ at h
  rw [List.getElem?_map] at h
  obtain ⟨i, h1, rfl⟩ := Option.map_eq_some_iff.mp h
  have := (List.getElem?_eq_some_iff.mp h1).2
  rw [List.getElem_range] at this
  subst this
  simp
theorem rng_len (n : Nat) : (rngZ 0 (n : Int)).length = n := by unfold rngZ; simp
theorem okR_n {n : Nat} (h : n ≤ 100) : okR (n : Int) = true := by unfold okR; simp; omega
theorem dFor_rng {a : DA} {g : DG} {b : DS} {l : L} {G G1 : GH} {n : Nat} (h : a l G = .ok [.int (n : Nat)] G1) (hn : n ≤ 100) : dFor (dRng1 a) g b l G = forLoop (.pure (rngZ 0 n)) g b n 0 l G1 := by
  have ok := okR_n hn
  rw [dFor_ap, dRng1_ap, h, R.bind_ok]
  simp only [ok, if_true, R.st_ok, Wk.len, rng_len]
theorem len1 {a : DE} {l : L} {G G1 : GH} {z : Z} {n : Nat} (h : a l G = .ok z G1) (h2 : zLen z G1 = .ok (.int (n : Nat)) G1) : dCons (dFn (on1 zLen) (dCons a dNil)) dNil l G = .ok [.int (n : Nat)] G1 := by
  simp [h, h2]
/-- no caught exception -/
def nx : Z → Bool
  | .ex => false
  | _ => true
theorem nx_ne {z : Z} (h : nx z = true) : z ≠ .ex := fun q => by rw [q] at h; cases h
@[simp] theorem dVar_z {i : Nat} {z : Z} {l0 : L} {G : GH} (h : l0[i]? = some (some z)) (hz : nx z = true) : dVar i l0 G = .ok z G := dVar_of h (nx_ne hz)
@[simp] theorem nx_ref {n : Nat} : nx (.ref n) = true := rfl
@[simp] theorem nx_int {i : Int} : nx (.int i) = true := rfl
@[simp] theorem nx_str {x : List Nat} : nx (.str x) = true := rfl
@[simp] theorem nx_tup {x : List Z} : nx (.tup x) = true := rfl
@[simp] theorem nx_rol {x : List Z} : nx (.rol x) = true := rfl
@[simp] theorem nx_bl {x : Bool} : nx (.bl x) = true := rfl
@[simp] theorem nx_non : nx .non = true := rfl
theorem dv_s {i : Nat} {a : Option Z} {l : L} {G : GH} : dVar (i + 1) (a :: l) G = dVar i l G := rfl
theorem dv_0 {z : Z} {l : L} {G : GH} (h : nx z = true) : dVar 0 (some z :: l) G = .ok z G := dVar_of rfl (nx_ne h)
/-! ### grades -/
def gr : Fin 5 → List Nat
  | 0 => [114, 101, 115, 116, 97, 114, 116]
  | 1 => [102, 114, 101, 101]
  | 2 => [112, 97, 105, 100]
  | 3 => [100, 101, 97, 114]
  | 4 => [110, 111, 110, 101]
abbrev gz (i : Fin 5) : Z := .str (gr i)
theorem fin5 {P : Fin 5 → Prop} (h0 : P 0) (h1 : P 1) (h2 : P 2) (h3 : P 3) (h4 : P 4) : ∀ i, P i := fun i => match i with
  | 0 => h0 | 1 => h1 | 2 => h2 | 3 => h3 | 4 => h4
def bt (a b : Fin 5) : Fin 5 := if a.val ≤ b.val then a else b
def rk : Fin 5 → Nat
  | 0 => 2 | 1 => 0 | 2 => 1 | 3 => 3 | 4 => 4
def jt (a b : Fin 5) : Fin 5 := if rk b ≤ rk a then a else b
@[simp] theorem better_r (d : Nat) (G : GH) (i j : Fin 5) : (rt (d + 1)).cf 1 [.str (gr i), .str (gr j)] G = .ok (.str (gr (bt i j))) G := by
  show (C (d + 3)).cf 1 [gz i, gz j] G = _
  rw [cfS d 1 f_1 s_1 2 2 rfl rfl rfl rfl rfl sh_1 rfl]
  revert i j
  refine fin5 ?_ ?_ ?_ ?_ ?_ <;> refine fin5 ?_ ?_ ?_ ?_ ?_ <;> rfl
@[simp] theorem joined_r (d : Nat) (G : GH) (i j : Fin 5) : (rt (d + 1)).cf 2 [.str (gr i), .str (gr j)] G = .ok (.str (gr (jt i j))) G := by
  show (C (d + 3)).cf 2 [gz i, gz j] G = _
  rw [cfS d 2 f_2 s_2 2 2 rfl rfl rfl rfl rfl sh_2 rfl]
  revert i j
  refine fin5 ?_ ?_ ?_ ?_ ?_ <;> refine fin5 ?_ ?_ ?_ ?_ ?_ <;> rfl
def ord1 : List Z := [gz 0, gz 1, gz 2, gz 3, gz 4]
def ord2 : List Z := [gz 1, gz 2, gz 0, gz 3, gz 4]
theorem idx1 {n : Nat} {G : GH} (h : lstAt G n = some ord1) (i : Fin 5) : zIndex "list" (.ref n) [gz i] G = .ok (.int i.val) G := by
  unfold zIndex
  simp only [show rdl G (.ref n) = some ord1 from h]
  revert i
  refine fin5 ?_ ?_ ?_ ?_ ?_ <;> rfl
theorem idx2 {n : Nat} {G : GH} (h : lstAt G n = some ord2) (i : Fin 5) : zIndex "list" (.ref n) [gz i] G = .ok (.int (rk i)) G := by
  unfold zIndex
  simp only [show rdl G (.ref n) = some ord2 from h]
  revert i
  refine fin5 ?_ ?_ ?_ ?_ ?_ <;> rfl
@[simp] theorem lbetter_r (d : Nat) (G : GH) (i j : Fin 5) : (rt (d + 1)).cf 16 [.str (gr i), .str (gr j)] G = .ok (.str (gr (bt i j))) (G ++ [.lst ord1]) := by
  show (C (d + 3)).cf 16 [gz i, gz j] G = _
  rw [cfS d 16 f_16 s_16 3 2 rfl rfl rfl rfl rfl sh_16 rfl]
  show (s_16 (rt d) [some (gz i), some (gz j), none] G).fin = _
  have h0 : lstAt (G ++ [.lst ord1]) G.length = some ord1 := lstAt_new
  have e1 := idx1 h0
  have e2 := recv_ref h0
  have e3 : zIx (.ref G.length) (.int (if j.val < i.val then (j.val : Int) else i.val)) (G ++ [.lst ord1]) = .ok (gz (bt i j)) (G ++ [.lst ord1]) := by
    refine ix_ref h0 ?_
    revert i j
    refine fin5 ?_ ?_ ?_ ?_ ?_ <;> refine fin5 ?_ ?_ ?_ ?_ ?_ <;> rfl
  have e4 : ord1.length ≤ sizeLine := small _ (by decide)
  have e5 : [Z.str [114, 101, 115, 116, 97, 114, 116], .str [102, 114, 101, 101], .str [112, 97, 105, 100], .str [100, 101, 97, 114], .str [110, 111, 110, 101]] = ord1 := rfl
  unfold s_16
  simp [e4, e5, e2, e1, zMin2, e3]
@[simp] theorem ljoined_r (d : Nat) (G : GH) (i j : Fin 5) : (rt (d + 1)).cf 17 [.str (gr i), .str (gr j)] G = .ok (.str (gr (jt i j))) (G ++ [.lst ord2]) := by
  show (C (d + 3)).cf 17 [gz i, gz j] G = _
  rw [cfS d 17 f_17 s_17 3 2 rfl rfl rfl rfl rfl sh_17 rfl]
  show (s_17 (rt d) [some (gz i), some (gz j), none] G).fin = _
  have h0 : lstAt (G ++ [.lst ord2]) G.length = some ord2 := lstAt_new
  have e1 := idx2 h0
  have e2 := recv_ref h0
  have e3 : zIx (.ref G.length) (.int (if rk i < rk j then (rk j : Int) else rk i)) (G ++ [.lst ord2]) = .ok (gz (jt i j)) (G ++ [.lst ord2]) := by
    refine ix_ref h0 ?_
    revert i j
    refine fin5 ?_ ?_ ?_ ?_ ?_ <;> refine fin5 ?_ ?_ ?_ ?_ ?_ <;> rfl
  have e4 : ord2.length ≤ sizeLine := small _ (by decide)
  have e5 : [Z.str [102, 114, 101, 101], .str [112, 97, 105, 100], .str [114, 101, 115, 116, 97, 114, 116], .str [100, 101, 97, 114], .str [110, 111, 110, 101]] = ord2 := rfl
  unfold s_17
  simp [e4, e5, e2, e1, zMax2, e3]
/-! ### tables -/
def row (n : Nat) (f : Nat → Fin 5) : Z := .tup ((List.range n).map fun j => gz (f j))
def tz (n : Nat) (f : Nat → Nat → Fin 5) : Z := .tup ((List.range n).map fun i => row n (f i))
def mul (n : Nat) (f g : Nat → Nat → Fin 5) : Nat → Nat → Fin 5 := fun i j => (List.range n).foldl (fun a k => bt a (jt (f i k) (g k j))) 4
@[simp] theorem nx_row {n : Nat} {f : Nat → Fin 5} : nx (row n f) = true := rfl
@[simp] theorem nx_tz {n : Nat} {f : Nat → Nat → Fin 5} : nx (tz n f) = true := rfl
theorem ix_row {n k : Nat} {f : Nat → Fin 5} {G : GH} (h : k < n) : zIx (row n f) (.int k) G = .ok (gz (f k)) G := by
  show (match (some ((List.range n).map fun j => gz (f j))).bind fun xs => atI xs k with | some z => R.ok z G | none => .bad) = _
  have : atI ((List.range n).map fun j => gz (f j)) (k : Int) = some (gz (f k)) := by
    unfold atI ixN
    simp [h]
  rw [Option.bind_some, this]
theorem ix_tz {n k : Nat} {f : Nat → Nat → Fin 5} {G : GH} (h : k < n) : zIx (tz n f) (.int k) G = .ok (row n (f k)) G := by
  show (match (some ((List.range n).map fun j => row n (f j))).bind fun xs => atI xs k with | some z => R.ok z G | none => .bad) = _
  have : atI ((List.range n).map fun j => row n (f j)) (k : Int) = some (row n (f k)) := by
    unfold atI ixN
    simp [h]
  rw [Option.bind_some, this]
theorem len_row {n : Nat} {f : Nat → Fin 5} {G : GH} : zLen (row n f) G = .ok (.int n) G := by
  show R.ok (Z.int (((List.range n).map fun j => gz (f j)).length : Int)) G = _
  simp
theorem len_tz {n : Nat} {f : Nat → Nat → Fin 5} {G : GH} : zLen (tz n f) G = .ok (.int n) G := by
  show R.ok (Z.int (((List.range n).map fun j => row n (f j)).length : Int)) G = _
  simp
theorem tup_ref {G : GH} {n : Nat} {xs : List Z} (h : lstAt G n = some xs) : tyZ "tuple" [.ref n] G = .ok (.tup xs) G := by
  show zTuple (.ref n) G = _
  unfold zTuple
  simp only [show rdl G (.ref n) = some xs from h]
end K
end
section
set_option Elab.async false
set_option linter.all false
set_option maxRecDepth 100000
set_option maxHeartbeats 4000000
namespace K
open PySem PySem.Spec PyProof.Rows L2 Zy
/-! ### times -/
theorem bt4l : ∀ i, bt 4 i = i := by decide
theorem bt4r : ∀ i, bt i 4 = i := by decide
theorem jt4l : ∀ i, jt 4 i = 4 := by decide
theorem jt4r : ∀ i, jt i 4 = 4 := by decide
/-- the parts of a row that are not none -/
def known (n : Nat) (f : Nat → Fin 5) : List Nat := (List.range n).filter fun k => f k != 4
theorem gr4 (i : Fin 5) : (gr i == [110, 111, 110, 101]) = (i == 4) := by revert i; decide
theorem fold_known (f g : Nat → Fin 5) : ∀ (l : List Nat) (a : Fin 5), (l.filter fun k => f k != 4).foldl (fun a k => bt a (jt (f k) (g k))) a = l.foldl (fun a k => bt a (jt (f k) (g k))) a
  | [], a => rfl
  | k :: l, a => by
    by_cases h : f k = 4
    · rw [List.filter_cons_of_neg (by simp [h]), fold_known f g l, List.foldl_cons, h, jt4l, bt4r]
    · rw [List.filter_cons_of_pos (by simpa using h), List.foldl_cons, List.foldl_cons, fold_known f g l]
theorem mul_known (n : Nat) (f g : Nat → Nat → Fin 5) (i j : Nat) : (known n (f i)).foldl (fun a k => bt a (jt (f i k) (g k j))) 4 = mul n f g i j := fold_known (f i) (fun k => g k j) _ 4
theorem known_lt {n : Nat} {f : Nat → Fin 5} {t k : Nat} (h : (known n f)[t]? = some k) : k < n := by
  have := List.mem_of_getElem? h
  unfold known at this
  rw [List.mem_filter, List.mem_range] at this
  exact this.1
def kz (n : Nat) (f : Nat → Fin 5) : List Z := (known n f).map fun k => .tup [.int (k : Nat), gz (f k)]
theorem toItr_row {n : Nat} {f : Nat → Fin 5} {G : GH} : toItr G (row n f) = some (.pure ((List.range n).map fun j => gz (f j))) := rfl
theorem toItr_tz {n : Nat} {f : Nat → Nat → Fin 5} {G : GH} : toItr G (tz n f) = some (.pure ((List.range n).map fun j => row n (f j))) := rfl
@[simp] theorem dEnum_ap {a : DA} {l : L} {G : GH} : dEnum a l G = (a l G).bind fun xs G1 => match xs with
  | [x] => match (toItr G1 x).bind enumW with
    | some w => .ok w G1
    | none => .bad
  | _ => .bad := rfl
theorem row_ex {n : Nat} {f : Nat → Fin 5} : row n f ≠ .ex := fun q => nomatch q
theorem tz_ex {n : Nat} {f : Nat → Nat → Fin 5} : tz n f ≠ .ex := fun q => nomatch q
@[simp] theorem dVar_row {i n : Nat} {f : Nat → Fin 5} {l0 : L} {G : GH} (h : l0[i]? = some (some (row n f))) : dVar i l0 G = .ok (row n f) G := dVar_of h row_ex
@[simp] theorem dVar_tz {i n : Nat} {f : Nat → Nat → Fin 5} {l0 : L} {G : GH} (h : l0[i]? = some (some (tz n f))) : dVar i l0 G = .ok (tz n f) G := dVar_of h tz_ex
theorem dv0_tz {n : Nat} {f : Nat → Nat → Fin 5} {r : L} {G : GH} : dVar 0 (some (tz n f) :: r) G = .ok (tz n f) G := dVar_of rfl tz_ex
theorem dv1_tz {n : Nat} {f : Nat → Nat → Fin 5} {a : Option Z} {r : L} {G : GH} : dVar 1 (a :: some (tz n f) :: r) G = .ok (tz n f) G := dVar_of rfl tz_ex
theorem dv3_row {n : Nat} {f : Nat → Fin 5} {a b c : Option Z} {r : L} {G : GH} : dVar 3 (a :: b :: c :: some (row n f) :: r) G = .ok (row n f) G := dVar_of rfl row_ex
/-- known = [(k, grade) for k, grade in enumerate(row) if grade != NONE] -/
theorem known_ok {n : Nat} (hn : n ≤ 100) {f : Nat → Fin 5} {l : L} (hl : 7 ≤ l.length) (h3 : l[3]? = some (some (row n f))) (G : GH) :
    dComp (dEnum (dCons (dVar 3) dNil)) (.tp (.cons (.nm 5) (.cons (.nm 6) .nil))) (uB (dCmp .NotEq (dVar 6) (dC (.str [110, 111, 110, 101])))) (dTup (dCons (dVar 5) (dCons (dVar 6) dNil))) [5, 6] l G = .ok (.ref G.length) (G ++ [.lst (kz n f)]) := by
  have s2 : 2 ≤ sizeLine := small _ (by decide)
  obtain ⟨acc, G', h1, h2, h4, h5⟩ := lc_gen (xs := enumZ ((List.range n).map fun j => gz (f j))) (p := .tp (.cons (.nm 5) (.cons (.nm 6) .nil))) (t := uB (dCmp .NotEq (dVar 6) (dC (.str [110, 111, 110, 101])))) (e := dTup (dCons (dVar 5) (dCons (dVar 6) dNil))) (l := wipeZ l [5, 6]) (n := G.length) (G0 := G ++ [.lst []])
    (fun k acc G' => acc = (((List.range k).filter fun k => f k != 4).map fun k => Z.tup [.int (k : Nat), gz (f k)]) ∧ G' = G ++ [.lst acc])
    (fun k z acc G' hz hp hL => by
      obtain ⟨rfl, rfl⟩ := hp
      rw [enumZ_get] at hz
      obtain ⟨x, hx, rfl⟩ := Option.map_eq_some_iff.mp hz
      rw [List.getElem?_map] at hx
      obtain ⟨k', hk, rfl⟩ := Option.map_eq_some_iff.mp hx
      obtain ⟨hk1, hk2⟩ := List.getElem?_eq_some_iff.mp hk
      rw [List.getElem_range] at hk2
      subst hk2
      have w : (wipeZ l [5, 6]).length = l.length := by simp [wipeZ]
      have v5 : (((wipeZ l [5, 6]).set 5 (some (.int (k : Nat)))).set 6 (some (gz (f k))))[5]? = some (some (.int (k : Nat))) := by
        rw [List.getElem?_set_ne (by decide), List.getElem?_set_self (by omega)]
      have v6 : (((wipeZ l [5, 6]).set 5 (some (.int (k : Nat)))).set 6 (some (gz (f k))))[6]? = some (some (gz (f k))) := List.getElem?_set_self (by rw [List.length_set]; omega)
      refine ⟨_, f k != 4, _, rfl, ?_, fun hb => ⟨.tup [.int (k : Nat), gz (f k)], _, ?_, hL, ?_, ?_⟩, fun hb => ⟨hL, ?_, ?_⟩⟩
      · rw [uB_ap, dCmp_ap, dVar_str v6]
        simp only [R.bind_ok, dC_ap, cmp_nes, gr4]
        rfl
      · rw [dTup_ap, dCons_ap, dVar_int v5]
        simp only [R.bind_ok, dCons_ap, dVar_str v6, dNil_ap, List.length_cons, List.length_nil]
        rw [if_pos s2]
      · rw [List.range_succ, List.filter_append, List.map_append]
        simp [hb]
      · rw [set_new]
      · rw [List.range_succ, List.filter_append, List.map_append]
        simp [hb]
      · rfl)
    (by unfold enumZ; simp; exact small _ hn) ⟨rfl, rfl⟩ lstAt_new
  obtain ⟨rfl, rfl⟩ := h5
  have e1 : (enumZ ((List.range n).map fun j => gz (f j))).length = n := by unfold enumZ; simp
  rw [e1] at h1
  rw [dComp_ap, dEnum_ap, dCons_ap, dVar_row h3]
  simp only [R.bind_ok, dNil_ap, toItr_row, Option.bind_some, enumW, Wk.len, e1]
  exact h1
/-- the sum over what is known -/
theorem inner_ok (d : Nat) {n : Nat} {f g : Nat → Nat → Fin 5} {i j : Nat} (hj : j < n) {G B : GH} {a0 a2 a3 a7 : Option Z} {x5 x6 : Option Z} {m : Nat} (hm : lstAt G m = some (kz n (f i))) :
    ∃ z5 z6, (dFor (dIter (dVar 4)) (dgTup 2 (dgCons (dgName 5) (dgCons (dgName 6) dgNil))) (dSeq (dAsg (dgName 9) (dCall (rt (d + 1)).cf 1 (dCons (dVar 9) (dCons (dCall (rt (d + 1)).cf 2 (dCons (dVar 6) (dCons (dIx (dIx (dVar 1) (dVar 5)) (dVar 8)) dNil))) dNil)))) dNop))
      [a0, some (tz n g), a2, a3, some (.ref m), x5, x6, a7, some (.int (j : Nat)), some (gz 4)] G = .nx [a0, some (tz n g), a2, a3, some (.ref m), z5, z6, a7, some (.int (j : Nat)), some (gz (mul n f g i j))] G := by
  obtain ⟨l', G', h1, ⟨⟨y5, y6, rfl⟩, rfl⟩⟩ := for_live (n := m) (g := dgTup 2 (dgCons (dgName 5) (dgCons (dgName 6) dgNil))) (body := dSeq (dAsg (dgName 9) (dCall (rt (d + 1)).cf 1 (dCons (dVar 9) (dCons (dCall (rt (d + 1)).cf 2 (dCons (dVar 6) (dCons (dIx (dIx (dVar 1) (dVar 5)) (dVar 8)) dNil))) dNil)))) dNop) (kz n (f i))
    (fun k l G' => (∃ y5 y6, l = [a0, some (tz n g), a2, a3, some (.ref m), y5, y6, a7, some (.int (j : Nat)), some (gz (((known n (f i)).take k).foldl (fun a k => bt a (jt (f i k) (g k j))) 4))]) ∧ G' = G)
    (l := [a0, some (tz n g), a2, a3, some (.ref m), x5, x6, a7, some (.int (j : Nat)), some (gz 4)]) (G := G) ⟨⟨x5, x6, rfl⟩, rfl⟩ (fun k l G' hp => by rw [hp.2]; exact hm) (fun k z l G' hz ⟨⟨y5, y6, hl⟩, hG⟩ => by
      subst hl hG
      unfold kz at hz
      rw [List.getElem?_map] at hz
      obtain ⟨t, ht, rfl⟩ := Option.map_eq_some_iff.mp hz
      have htn := known_lt ht
      have e1 := ix_tz (f := g) (G := G') htn
      have e2 := ix_row (f := g t) (G := G') hj
      refine ⟨[a0, some (tz n g), a2, a3, some (.ref m), some (.int (t : Nat)), some (gz (f i t)), a7, some (.int (j : Nat)), some (gz (((known n (f i)).take k).foldl (fun a k => bt a (jt (f i k) (g k j))) 4))], G', _, _, rfl, .inl ?_, ⟨some (.int (t : Nat)), some (gz (f i t)), rfl⟩, rfl⟩
      simp [dv1_tz, e1, e2]
      rw [List.take_add_one, ht, List.foldl_append]
      rfl)
  refine ⟨y5, y6, ?_⟩
  have e3 : (kz n (f i)).length = (known n (f i)).length := by unfold kz; simp
  rw [dFor_ap, dIter_ap, dVar_ref rfl]
  simp only [R.bind_ok, toItr_ref hm, R.st_ok, Wk.len]
  rw [h1, e3, List.take_length, mul_known]
/-- a row of the product: one turn -/
def bodyR (r : Rt) : DS := (dSeq (dAsg (dgName 9) (dC (.str [110, 111, 110, 101]))) (dSeq (dFor (dIter (dVar 4)) (dgTup 2 (dgCons (dgName 5) (dgCons (dgName 6) dgNil))) (dSeq (dAsg (dgName 9) (dCall r.cf 1 (dCons (dVar 9) (dCons (dCall r.cf 2 (dCons (dVar 6) (dCons (dIx (dIx (dVar 1) (dVar 5)) (dVar 8)) dNil))) dNil)))) dNop)) (dSeq (dExp (dMth zAppend ["list"] (dVar 7) (dCons (dVar 9) dNil))) dNop)))
theorem bodyR_ok (d : Nat) {n : Nat} (hn : n ≤ 100) {f g : Nat → Nat → Fin 5} {i k : Nat} (hk : k < n) {G : GH} {a0 a2 a3 x5 x6 x9 : Option Z} {m : Nat} (hm : lstAt G m = some (kz n (f i))) :
    ∃ z5 z6 z9, bodyR (rt (d + 1)) [a0, some (tz n g), a2, a3, some (.ref m), x5, x6, some (.ref G.length), some (.int (k : Nat)), x9] (G ++ [.lst ((List.range k).map fun j => gz (mul n f g i j))]) =
      .nx [a0, some (tz n g), a2, a3, some (.ref m), z5, z6, some (.ref G.length), some (.int (k : Nat)), z9] (G ++ [.lst ((List.range (k + 1)).map fun j => gz (mul n f g i j))]) := by
  obtain ⟨z5, z6, e⟩ := inner_ok d (f := f) (g := g) (i := i) (B := []) (a0 := a0) (a2 := a2) (a3 := a3) (a7 := some (.ref G.length)) (x5 := x5) (x6 := x6) hk (lstAt_app (E := [.lst ((List.range k).map fun j => gz (mul n f g i j))]) hm)
  have hs : (List.map (fun j => gz (mul n f g i j)) (List.range k)).length < sizeLine := by
    rw [List.length_map, List.length_range]; exact smallL _ (by omega)
  have hL : lstAt (G ++ [.lst ((List.range k).map fun j => gz (mul n f g i j))]) G.length = some ((List.range k).map fun j => gz (mul n f g i j)) := lstAt_new
  have r2 := recv_ref hL
  have ap := app_ref (z := gz (mul n f g i k)) hL hs
  rw [set_new] at ap
  refine ⟨z5, z6, some (gz (mul n f g i k)), ?_⟩
  unfold bodyR
  rw [dSeq_ap, dAsg_ap, dC_ap, R.st_ok, dgName_ap, tgt_nx, seq_nx, dSeq_ap]
  have e' : ∀ S, ([a0, some (tz n g), a2, a3, some (Z.ref m), x5, x6, some (Z.ref G.length), some (Z.int (k : Nat)), x9] : L).set 9 (some (.str [110, 111, 110, 101])) = S → S = [a0, some (tz n g), a2, a3, some (.ref m), x5, x6, some (.ref G.length), some (.int (k : Nat)), some (gz 4)] := fun S h => by rw [← h]; rfl
  rw [e' _ rfl, e]
  generalize hX : G ++ [ZO.lst (List.map (fun j => gz (mul n f g i j)) (List.range k))] = X at r2 ap ⊢
  simp only [seq_nx, dSeq_ap, dExp_ap, dMth_ap]
  rw [dVar_ref (show ([a0, some (tz n g), a2, a3, some (Z.ref m), z5, z6, some (Z.ref G.length), some (Z.int (k : Nat)), some (gz (mul n f g i k))] : L)[7]? = some (some (.ref G.length)) from rfl)]
  simp only [R.bind_ok, r2, List.contains_cons, beq_self_eq_true, Bool.true_or, if_true, dCons_ap, dNil_ap]
  rw [dVar_str (show ([a0, some (tz n g), a2, a3, some (Z.ref m), z5, z6, some (Z.ref G.length), some (Z.int (k : Nat)), some (gz (mul n f g i k))] : L)[9]? = some (some (.str (gr (mul n f g i k)))) from rfl)]
  simp only [R.bind_ok, ap, R.st_ok, seq_nx, dNop_ap]
  rw [List.range_succ, List.map_append]; rfl
/-- a row of the product -/
theorem middle_ok (d : Nat) {n : Nat} (hn : n ≤ 100) {f g : Nat → Nat → Fin 5} {i : Nat} {G : GH} {a0 a2 x5 x6 x8 x9 : Option Z} {m : Nat} (hm : lstAt G m = some (kz n (f i))) :
    ∃ z5 z6 z8 z9, (dFor (dRng1 (dCons (dFn (on1 zLen) (dCons (dVar 3) dNil)) dNil)) (dgName 8) (bodyR (rt (d + 1))))
      [a0, some (tz n g), a2, some (row n (f i)), some (.ref m), x5, x6, some (.ref G.length), x8, x9] (G ++ [.lst []]) =
      .nx [a0, some (tz n g), a2, some (row n (f i)), some (.ref m), z5, z6, some (.ref G.length), z8, z9] (G ++ [.lst ((List.range n).map fun j => gz (mul n f g i j))]) := by
  obtain ⟨l', G', h1, ⟨⟨y5, y6, y8, y9, rfl⟩, rfl⟩⟩ := for_pure (g := dgName 8) (body := bodyR (rt (d + 1))) (rngZ 0 n)
    (fun k l G' => (∃ y5 y6 y8 y9, l = [a0, some (tz n g), a2, some (row n (f i)), some (.ref m), y5, y6, some (.ref G.length), y8, y9]) ∧ G' = G ++ [.lst ((List.range k).map fun j => gz (mul n f g i j))])
    (l := [a0, some (tz n g), a2, some (row n (f i)), some (.ref m), x5, x6, some (.ref G.length), x8, x9]) (G := G ++ [.lst []]) ⟨⟨_, _, _, _, rfl⟩, rfl⟩ (fun k z l G' hz ⟨⟨y5, y6, y8, y9, hl⟩, hG⟩ => by
      subst hl hG
      have hk : k < n := by have := (List.getElem?_eq_some_iff.mp hz).1; rw [rng_len] at this; exact this
      obtain rfl := rng_nth hz
      obtain ⟨z5, z6, z9, e⟩ := bodyR_ok d hn (g := g) (a0 := a0) (a2 := a2) (a3 := some (row n (f i))) (x5 := y5) (x6 := y6) (x9 := y9) hk hm
      exact ⟨_, _, _, _, rfl, .inl e, ⟨z5, z6, _, z9, rfl⟩, rfl⟩)
  rw [rng_len] at h1
  refine ⟨y5, y6, y8, y9, ?_⟩
  rw [dFor_rng (len1 dv3_row len_row) hn]
  exact h1
theorem times_ex (d : Nat) (n : Nat) (f g : Nat → Nat → Fin 5) (G : GH) (hn : n ≤ 100) : ∃ E, (rt (d + 2)).cf 8 [tz n f, tz n g] G = .ok (tz n (mul n f g)) (G ++ E) := by
  show ∃ E, (C (d + 4)).cf 8 [tz n f, tz n g] G = _
  rw [show d + 4 = (d + 1) + 3 from rfl, cfS (d + 1) 8 f_8 s_8 10 2 rfl rfl rfl rfl rfl sh_8 rfl]
  show ∃ E, (s_8 (rt (d + 1)) [some (tz n f), some (tz n g), none, none, none, none, none, none, none, none] G).fin = _
  obtain ⟨l', G', h1, ⟨⟨x3, x4, x5, x6, x7, x8, x9, rfl⟩, E, rfl⟩⟩ := for_pure (g := dgName 3) (body := (dSeq (dAsg (dgName 4) (dComp (dEnum (dCons (dVar 3) dNil)) (.tp (.cons (.nm 5) (.cons (.nm 6) .nil))) (uB (dCmp .NotEq (dVar 6) (dC (.str [110, 111, 110, 101])))) (dTup (dCons (dVar 5) (dCons (dVar 6) dNil))) [5, 6])) (dSeq (dAsg (dgName 7) (dLst dNil)) (dSeq (dFor (dRng1 (dCons (dFn (on1 zLen) (dCons (dVar 3) dNil)) dNil)) (dgName 8) (bodyR (rt (d + 1)))) (dSeq (dExp (dMth zAppend ["list"] (dVar 2) (dCons (dFn (tyZ "tuple") (dCons (dVar 7) dNil)) dNil))) dNop)))))
    ((List.range n).map fun i => row n (f i))
    (fun k l G' => (∃ x3 x4 x5 x6 x7 x8 x9, l = [some (tz n f), some (tz n g), some (.ref G.length), x3, x4, x5, x6, x7, x8, x9]) ∧ ∃ E, G' = G ++ (.lst ((List.range k).map fun i => row n (mul n f g i)) :: E))
    (l := [some (tz n f), some (tz n g), some (.ref G.length), none, none, none, none, none, none, none]) (G := G ++ [.lst []]) ⟨⟨_, _, _, _, _, _, _, rfl⟩, [], rfl⟩ (fun k z l G' hz ⟨⟨x3, x4, x5, x6, x7, x8, x9, hl⟩, E, hG⟩ => by
      subst hl
      rw [List.getElem?_map] at hz
      obtain ⟨k', hk, rfl⟩ := Option.map_eq_some_iff.mp hz
      obtain ⟨hk1, hk2⟩ := List.getElem?_eq_some_iff.mp hk
      rw [List.getElem_range] at hk2
      subst hk2
      rw [List.length_range] at hk1
      have ek := known_ok hn (f := f k) (l := [some (tz n f), some (tz n g), some (.ref G.length), some (row n (f k)), x4, x5, x6, x7, x8, x9]) (by simp) rfl G'
      obtain ⟨z5, z6, z8, z9, em⟩ := middle_ok d hn (f := f) (g := g) (i := k) (G := G' ++ [.lst (kz n (f k))]) (a0 := some (tz n f)) (a2 := some (Z.ref G.length)) (x5 := x5) (x6 := x6) (x8 := x8) (x9 := x9) (m := G'.length) lstAt_new
      refine ⟨[some (tz n f), some (tz n g), some (.ref G.length), some (row n (f k)), x4, x5, x6, x7, x8, x9], G', [some (tz n f), some (tz n g), some (.ref G.length), some (row n (f k)), some (.ref G'.length), z5, z6, some (.ref (G' ++ [ZO.lst (kz n (f k))]).length), z8, z9], _, rfl, .inl ?_, ⟨_, _, _, _, _, _, _, rfl⟩, E ++ [ZO.lst (kz n (f k)), ZO.lst ((List.range n).map fun j => gz (mul n f g k j))], rfl⟩
      rw [dSeq_ap, dAsg_ap, ek, R.st_ok, dgName_ap, tgt_nx, seq_nx, dSeq_ap, dAsg_ap, dLst_ap, dNil_ap, R.bind_ok]
      rw [if_pos (small _ (by simp)), newO_ap, R.st_ok, dgName_ap, tgt_nx, seq_nx, dSeq_ap]
      rw [show ([some (tz n f), some (tz n g), some (Z.ref G.length), some (row n (f k)), x4, x5, x6, x7, x8, x9].set 4 (some (Z.ref G'.length))).set 7 (some (Z.ref (G' ++ [ZO.lst (kz n (f k))]).length)) = [some (tz n f), some (tz n g), some (.ref G.length), some (row n (f k)), some (.ref G'.length), x5, x6, some (.ref (G' ++ [ZO.lst (kz n (f k))]).length), x8, x9] from rfl, em]
      have t7 : lstAt (G' ++ [ZO.lst (kz n (f k))] ++ [ZO.lst ((List.range n).map fun j => gz (mul n f g k j))]) (G' ++ [ZO.lst (kz n (f k))]).length = some ((List.range n).map fun j => gz (mul n f g k j)) := lstAt_new
      have tt := tup_ref t7
      have t2 : lstAt (G' ++ [ZO.lst (kz n (f k))] ++ [ZO.lst ((List.range n).map fun j => gz (mul n f g k j))]) G.length = some ((List.range k).map fun i => row n (mul n f g i)) := by
        rw [hG, List.append_assoc, List.append_assoc]
        exact at_sh0
      have r2 : recvT (G' ++ [ZO.lst (kz n (f k))] ++ [ZO.lst ((List.range n).map fun j => gz (mul n f g k j))]) (Z.ref G.length) = some "list" := recv_ref t2
      have hs : ((List.range k).map fun i => row n (mul n f g i)).length < sizeLine := by simp; exact smallL _ (by omega)
      have ap := app_ref (z := row n (mul n f g k)) t2 hs
      rw [seq_nx, dSeq_ap, dExp_ap, dMth_ap, dVar_ref rfl, R.bind_ok, r2]
      simp only [dCons_ap, dFn_ap, dNil_ap, dv_s, dv_0 nx_ref, R.bind_ok, tt]
      rw [show (Z.tup ((List.range n).map fun j => gz (mul n f g k j))) = row n (mul n f g k) from rfl, ap]
      simp only [List.contains_cons, beq_self_eq_true, Bool.true_or, if_true, R.st_ok, seq_nx, dNop_ap]
      rw [hG, List.append_assoc, List.append_assoc, set_sh0]
      simp [List.range_succ])
  rw [List.length_map, List.length_range] at h1
  have ht : lstAt (G ++ (ZO.lst ((List.range n).map fun i => row n (mul n f g i)) :: E)) G.length = some ((List.range n).map fun i => row n (mul n f g i)) := at_sh0
  have tt := tup_ref ht
  refine ⟨(ZO.lst ((List.range n).map fun i => row n (mul n f g i)) :: E), ?_⟩
  unfold s_8
  rw [dSeq_ap, dAsg_ap, dLst_ap, dNil_ap, R.bind_ok, if_pos (small _ (by simp)), newO_ap, R.st_ok, dgName_ap, tgt_nx, seq_nx, dSeq_ap, dFor_ap, dIter_ap]
  rw [show ([some (tz n f), some (tz n g), none, none, none, none, none, none, none, none] : L).set 2 (some (Z.ref G.length)) = [some (tz n f), some (tz n g), some (.ref G.length), none, none, none, none, none, none, none] from rfl, dv0_tz, R.bind_ok, toItr_tz]
  simp only [R.st_ok, Wk.len, List.length_map, List.length_range]
  refine (congrArg (fun s : S => (s.seq _).fin) h1).trans ?_
  simp only [seq_nx, dSeq_ap, dRet_ap, dFn_ap, dCons_ap, dNil_ap, dv_s, dv_0 nx_ref, R.bind_ok, tt, R.st_ok, seq_rt, fin_rt]
  rfl
end K
end
section
set_option Elab.async false
set_option linter.all false
set_option maxRecDepth 100000
set_option maxHeartbeats 4000000
namespace K
open PySem PySem.Spec PyProof.Rows L2 Zy
/-! ### the law's times -/
def lbI (r : Rt) : DS := (dSeq (dIfS (uB (dCmp .NotEq (dVar 8) (dC (.str [110, 111, 110, 101])))) (dSeq (dAsg (dgName 6) (dCall r.cf 16 (dCons (dVar 6) (dCons (dCall r.cf 17 (dCons (dVar 8) (dCons (dIx (dIx (dVar 1) (dVar 7)) (dVar 5)) dNil))) dNil)))) dNop) dNop) dNop)
theorem foldl_take {α β : Type} (f : β → α → β) (a : β) (l : List α) (k : Nat) (x : α) (h : l[k]? = some x) : (l.take (k + 1)).foldl f a = f ((l.take k).foldl f a) x := by
  rw [List.take_add_one, h, List.foldl_append]; rfl
theorem range_nth {n k t : Nat} (h : (List.range n)[k]? = some t) : t = k ∧ k < n := by
  obtain ⟨h1, h2⟩ := List.getElem?_eq_some_iff.mp h
  rw [List.getElem_range] at h2
  rw [List.length_range] at h1
  exact ⟨h2.symm, h1⟩
theorem enum_row {n : Nat} {f : Nat → Fin 5} {k : Nat} {z : Z} (h : (enumZ ((List.range n).map fun j => gz (f j)))[k]? = some z) : k < n ∧ z = .tup [.int (k : Nat), gz (f k)] := by
  rw [enumZ_get] at h
  obtain ⟨x, hx, rfl⟩ := Option.map_eq_some_iff.mp h
  rw [List.getElem?_map] at hx
  obtain ⟨k', hk, rfl⟩ := Option.map_eq_some_iff.mp hx
  obtain ⟨rfl, h1⟩ := range_nth hk
  exact ⟨h1, rfl⟩
theorem linner_ok (d : Nat) {n : Nat} {f g : Nat → Nat → Fin 5} {i j : Nat} (hj : j < n) {G : GH} {a0 a2 a4 x7 x8 : Option Z} :
    ∃ z7 z8 E, (dFor (dEnum (dCons (dVar 3) dNil)) (dgTup 2 (dgCons (dgName 7) (dgCons (dgName 8) dgNil))) (lbI (rt (d + 1))))
      [a0, some (tz n g), a2, some (row n (f i)), a4, some (.int (j : Nat)), some (gz 4), x7, x8] G = .nx [a0, some (tz n g), a2, some (row n (f i)), a4, some (.int (j : Nat)), some (gz (mul n f g i j)), z7, z8] (G ++ E) := by
  obtain ⟨l', G', h1, ⟨y7, y8, rfl⟩, ⟨E, rfl⟩⟩ := for_pure (g := dgTup 2 (dgCons (dgName 7) (dgCons (dgName 8) dgNil))) (body := lbI (rt (d + 1))) (enumZ ((List.range n).map fun j => gz (f i j)))
    (fun k l G' => (∃ y7 y8, l = [a0, some (tz n g), a2, some (row n (f i)), a4, some (.int (j : Nat)), some (gz ((List.range k).foldl (fun a k => bt a (jt (f i k) (g k j))) 4)), y7, y8]) ∧ ∃ E, G' = G ++ E)
    (l := [a0, some (tz n g), a2, some (row n (f i)), a4, some (.int (j : Nat)), some (gz 4), x7, x8]) (G := G) ⟨⟨x7, x8, rfl⟩, [], (List.append_nil G).symm⟩ (fun k z l G' hz ⟨⟨y7, y8, hl⟩, E, hG⟩ => by
      subst hl
      obtain ⟨hk, rfl⟩ := enum_row hz
      have e1 := ix_tz (f := g) (G := G') hk
      have e2 := ix_row (f := g k) (G := G') hj
      refine ⟨[a0, some (tz n g), a2, some (row n (f i)), a4, some (.int (j : Nat)), some (gz ((List.range k).foldl (fun a k => bt a (jt (f i k) (g k j))) 4)), some (.int (k : Nat)), some (gz (f i k))], G', ?_⟩
      have hf : (List.range (k + 1)).foldl (fun a k => bt a (jt (f i k) (g k j))) 4 = bt ((List.range k).foldl (fun a k => bt a (jt (f i k) (g k j))) 4) (jt (f i k) (g k j)) := by
        rw [List.range_succ, List.foldl_append]; rfl
      have c8 : ([110, 111, 110, 101] == gr (f i k)) = (f i k == 4) := by rw [BEq.comm, gr4]
      unfold lbI
      by_cases h4 : f i k = 4
      · have hf2 := hf
        rw [h4, jt4l, bt4r] at hf2
        refine ⟨_, G', rfl, .inl ?_, ⟨some (.int (k : Nat)), some (gz (f i k)), rfl⟩, E, hG⟩
        rw [hf2]
        simp [dv_s, dv_0, gr4, h4, gr]
      · subst hG
        refine ⟨_, _, rfl, .inl ?_, ⟨some (.int (k : Nat)), some (gz (f i k)), rfl⟩, E ++ [.lst ord2] ++ [.lst ord1], rfl⟩
        rw [hf]
        have hb : (f i k == 4) = false := by simpa using h4
        simp [dv_s, dv0_tz, gr4, hb, e1, e2])
  have e1 : (enumZ ((List.range n).map fun j => gz (f i j))).length = n := by unfold enumZ; simp
  rw [e1] at h1
  refine ⟨y7, y8, E, ?_⟩
  rw [dFor_ap, dEnum_ap, dCons_ap, dv3_row]
  simp only [R.bind_ok, dNil_ap, toItr_row, Option.bind_some, enumW, R.st_ok, Wk.len, e1]
  exact h1
def lbM (r : Rt) : DS := (dSeq (dAsg (dgName 6) (dC (.str [110, 111, 110, 101]))) (dSeq (dFor (dEnum (dCons (dVar 3) dNil)) (dgTup 2 (dgCons (dgName 7) (dgCons (dgName 8) dgNil))) (lbI r)) (dSeq (dExp (dMth zAppend ["list"] (dVar 4) (dCons (dVar 6) dNil))) dNop)))
/-- append to a list that stands at the end of G -/
theorem push_at {G E : GH} {xs : List Z} {z : Z} (h : xs.length < sizeLine) : zAppend "list" (.ref G.length) [z] (G ++ (.lst xs :: E)) = .ok .non (G ++ (.lst (xs ++ [z]) :: E)) := by
  have := app_ref (z := z) (show lstAt (G ++ (.lst xs :: E)) G.length = some xs from at_sh0) h
  rw [this, set_sh0]; rfl
theorem recv_at {G E : GH} {xs : List Z} : recvT (G ++ (.lst xs :: E)) (.ref G.length) = some "list" := recv_ref (show lstAt (G ++ (.lst xs :: E)) G.length = some xs from at_sh0)
theorem lmid_ok (d : Nat) {n : Nat} (hn : n ≤ 100) {f g : Nat → Nat → Fin 5} {i : Nat} {G : GH} {a0 a2 x5 x6 x7 x8 : Option Z} :
    ∃ z5 z6 z7 z8 E, (dFor (dRng1 (dCons (dFn (on1 zLen) (dCons (dVar 3) dNil)) dNil)) (dgName 5) (lbM (rt (d + 1))))
      [a0, some (tz n g), a2, some (row n (f i)), some (.ref G.length), x5, x6, x7, x8] (G ++ [.lst []]) =
      .nx [a0, some (tz n g), a2, some (row n (f i)), some (.ref G.length), z5, z6, z7, z8] (G ++ (.lst ((List.range n).map fun j => gz (mul n f g i j)) :: E)) := by
  obtain ⟨l', G', h1, ⟨y5, y6, y7, y8, rfl⟩, ⟨E, rfl⟩⟩ := for_pure (g := dgName 5) (body := lbM (rt (d + 1))) (rngZ 0 n)
    (fun k l G' => (∃ y5 y6 y7 y8, l = [a0, some (tz n g), a2, some (row n (f i)), some (.ref G.length), y5, y6, y7, y8]) ∧ ∃ E, G' = G ++ (.lst ((List.range k).map fun j => gz (mul n f g i j)) :: E))
    (l := [a0, some (tz n g), a2, some (row n (f i)), some (.ref G.length), x5, x6, x7, x8]) (G := G ++ [.lst []]) ⟨⟨_, _, _, _, rfl⟩, [], rfl⟩ (fun k z l G' hz ⟨⟨y5, y6, y7, y8, hl⟩, E, hG⟩ => by
      subst hl
      have hk : k < n := by have := (List.getElem?_eq_some_iff.mp hz).1; rw [rng_len] at this; exact this
      obtain rfl := rng_nth hz
      obtain ⟨z7, z8, E2, e⟩ := linner_ok d (f := f) (g := g) (i := i) (G := G') (a0 := a0) (a2 := a2) (a4 := some (.ref G.length)) (x7 := y7) (x8 := y8) hk
      have hs : ((List.range k).map fun j => gz (mul n f g i j)).length < sizeLine := by rw [List.length_map, List.length_range]; exact smallL _ (by omega)
      refine ⟨_, _, _, _, rfl, .inl ?_, ⟨some (.int (k : Nat)), some (gz (mul n f g i k)), z7, z8, rfl⟩, E ++ E2, rfl⟩
      unfold lbM
      rw [dSeq_ap, dAsg_ap, dC_ap, R.st_ok, dgName_ap, tgt_nx, seq_nx, dSeq_ap]
      refine (congrArg (fun s : S => s.seq _) e).trans ?_
      subst hG
      have p := push_at (G := G) (E := E ++ E2) (z := gz (mul n f g i k)) hs
      have r := recv_at (G := G) (E := E ++ E2) (xs := (List.range k).map fun j => gz (mul n f g i j))
      rw [List.append_assoc, List.cons_append]
      simp only [seq_nx, dSeq_ap, dExp_ap, dMth_ap, dv_s, dv_0 nx_ref, R.bind_ok, r, List.contains_cons, beq_self_eq_true, Bool.true_or, if_true, dCons_ap, dNil_ap, dv_0 nx_str, p, R.st_ok, dNop_ap]
      rw [List.range_succ, List.map_append]; rfl)
  rw [rng_len] at h1
  refine ⟨y5, y6, y7, y8, E, ?_⟩
  rw [dFor_rng (len1 dv3_row len_row) hn]
  exact h1
def lbO (r : Rt) : DS := (dSeq (dAsg (dgName 4) (dLst dNil)) (dSeq (dFor (dRng1 (dCons (dFn (on1 zLen) (dCons (dVar 3) dNil)) dNil)) (dgName 5) (lbM r)) (dSeq (dExp (dMth zAppend ["list"] (dVar 2) (dCons (dFn (tyZ "tuple") (dCons (dVar 4) dNil)) dNil))) dNop)))
theorem ltimes_ex (d : Nat) (n : Nat) (f g : Nat → Nat → Fin 5) (G : GH) (hn : n ≤ 100) : ∃ E, (rt (d + 2)).cf 18 [tz n f, tz n g] G = .ok (tz n (mul n f g)) (G ++ E) := by
  show ∃ E, (C (d + 4)).cf 18 [tz n f, tz n g] G = _
  rw [show d + 4 = (d + 1) + 3 from rfl, cfS (d + 1) 18 f_18 s_18 9 2 rfl rfl rfl rfl rfl sh_18 rfl]
  show ∃ E, (s_18 (rt (d + 1)) [some (tz n f), some (tz n g), none, none, none, none, none, none, none] G).fin = _
  obtain ⟨l', G', h1, ⟨⟨x3, x4, x5, x6, x7, x8, rfl⟩, E, rfl⟩⟩ := for_pure (g := dgName 3) (body := lbO (rt (d + 1))) ((List.range n).map fun i => row n (f i))
    (fun k l G' => (∃ x3 x4 x5 x6 x7 x8, l = [some (tz n f), some (tz n g), some (.ref G.length), x3, x4, x5, x6, x7, x8]) ∧ ∃ E, G' = G ++ (.lst ((List.range k).map fun i => row n (mul n f g i)) :: E))
    (l := [some (tz n f), some (tz n g), some (.ref G.length), none, none, none, none, none, none]) (G := G ++ [.lst []]) ⟨⟨_, _, _, _, _, _, rfl⟩, [], rfl⟩ (fun k z l G' hz ⟨⟨x3, x4, x5, x6, x7, x8, hl⟩, E, hG⟩ => by
      subst hl
      rw [List.getElem?_map] at hz
      obtain ⟨k', hk, rfl⟩ := Option.map_eq_some_iff.mp hz
      obtain ⟨rfl, hk1⟩ := range_nth hk
      obtain ⟨z5, z6, z7, z8, E2, em⟩ := lmid_ok d hn (f := f) (g := g) (i := k') (G := G') (a0 := some (tz n f)) (a2 := some (Z.ref G.length)) (x5 := x5) (x6 := x6) (x7 := x7) (x8 := x8)
      have hs : ((List.range k').map fun i => row n (mul n f g i)).length < sizeLine := by rw [List.length_map, List.length_range]; exact smallL _ (by omega)
      refine ⟨[some (tz n f), some (tz n g), some (.ref G.length), some (row n (f k')), x4, x5, x6, x7, x8], G', [some (tz n f), some (tz n g), some (.ref G.length), some (row n (f k')), some (.ref G'.length), z5, z6, z7, z8], _, rfl, .inl ?_, ⟨some (row n (f k')), some (.ref G'.length), z5, z6, z7, z8, rfl⟩, E ++ (.lst ((List.range n).map fun j => gz (mul n f g k' j)) :: E2), rfl⟩
      unfold lbO
      rw [dSeq_ap, dAsg_ap, dLst_ap, dNil_ap, R.bind_ok, if_pos (small _ (by simp)), newO_ap, R.st_ok, dgName_ap, tgt_nx, seq_nx, dSeq_ap]
      rw [show ([some (tz n f), some (tz n g), some (Z.ref G.length), some (row n (f k')), x4, x5, x6, x7, x8] : L).set 4 (some (Z.ref G'.length)) = [some (tz n f), some (tz n g), some (.ref G.length), some (row n (f k')), some (.ref G'.length), x5, x6, x7, x8] from rfl, em]
      have t4 : lstAt (G' ++ (ZO.lst ((List.range n).map fun j => gz (mul n f g k' j)) :: E2)) G'.length = some ((List.range n).map fun j => gz (mul n f g k' j)) := at_sh0
      have tt := tup_ref t4
      have p := push_at (G := G) (E := E ++ (.lst ((List.range n).map fun j => gz (mul n f g k' j)) :: E2)) (z := row n (mul n f g k')) hs
      have r := recv_at (G := G) (E := E ++ (.lst ((List.range n).map fun j => gz (mul n f g k' j)) :: E2)) (xs := (List.range k').map fun i => row n (mul n f g i))
      have hX : G' ++ (ZO.lst ((List.range n).map fun j => gz (mul n f g k' j)) :: E2) = G ++ (.lst ((List.range k').map fun i => row n (mul n f g i)) :: (E ++ (.lst ((List.range n).map fun j => gz (mul n f g k' j)) :: E2))) := by rw [hG, List.append_assoc, List.cons_append]
      rw [hX] at tt ⊢
      simp only [seq_nx, dSeq_ap, dExp_ap, dMth_ap, dv_s, dv_0 nx_ref, R.bind_ok, r, List.contains_cons, beq_self_eq_true, Bool.true_or, if_true, dCons_ap, dNil_ap, dFn_ap, tt]
      rw [show (Z.tup ((List.range n).map fun j => gz (mul n f g k' j))) = row n (mul n f g k') from rfl, p]
      simp only [R.st_ok, seq_nx, dNop_ap]
      rw [List.range_succ, List.map_append]; rfl)
  rw [List.length_map, List.length_range] at h1
  have ht : lstAt (G ++ (ZO.lst ((List.range n).map fun i => row n (mul n f g i)) :: E)) G.length = some ((List.range n).map fun i => row n (mul n f g i)) := at_sh0
  have tt := tup_ref ht
  refine ⟨(ZO.lst ((List.range n).map fun i => row n (mul n f g i)) :: E), ?_⟩
  unfold s_18
  rw [dSeq_ap, dAsg_ap, dLst_ap, dNil_ap, R.bind_ok, if_pos (small _ (by simp)), newO_ap, R.st_ok, dgName_ap, tgt_nx, seq_nx, dSeq_ap, dFor_ap, dIter_ap]
  rw [show ([some (tz n f), some (tz n g), none, none, none, none, none, none, none] : L).set 2 (some (Z.ref G.length)) = [some (tz n f), some (tz n g), some (.ref G.length), none, none, none, none, none, none] from rfl, dv0_tz, R.bind_ok, toItr_tz]
  simp only [R.st_ok, Wk.len, List.length_map, List.length_range]
  refine (congrArg (fun s : S => (s.seq _).fin) h1).trans ?_
  simp only [seq_nx, dSeq_ap, dRet_ap, dFn_ap, dCons_ap, dNil_ap, dv_s, dv_0 nx_ref, R.bind_ok, tt, R.st_ok, seq_rt, fin_rt]
  rfl
end K
end
section
set_option Elab.async false
set_option linter.all false
set_option maxRecDepth 100000
set_option maxHeartbeats 4000000
namespace K
open PySem PySem.Spec PyProof.Rows L2 Zy
noncomputable def eT (d n : Nat) (f g : Nat → Nat → Fin 5) (G : GH) : GH := if h : n ≤ 100 then Classical.choose (times_ex d n f g G h) else []
theorem times_r (d n : Nat) (f g : Nat → Nat → Fin 5) (G : GH) (hn : n ≤ 100) : (rt (d + 2)).cf 8 [tz n f, tz n g] G = .ok (tz n (mul n f g)) (G ++ eT d n f g G) := by
  unfold eT; rw [dif_pos hn]; exact Classical.choose_spec (times_ex d n f g G hn)
noncomputable def eL (d n : Nat) (f g : Nat → Nat → Fin 5) (G : GH) : GH := if h : n ≤ 100 then Classical.choose (ltimes_ex d n f g G h) else []
theorem ltimes_r (d n : Nat) (f g : Nat → Nat → Fin 5) (G : GH) (hn : n ≤ 100) : (rt (d + 2)).cf 18 [tz n f, tz n g] G = .ok (tz n (mul n f g)) (G ++ eL d n f g G) := by
  unfold eL; rw [dif_pos hn]; exact Classical.choose_spec (ltimes_ex d n f g G hn)
/-! ### any value -/
inductive Kz (s : Nat) (G : GH) : Z → Prop
  | non : Kz s G .non
  | bl (b : Bool) : Kz s G (.bl b)
  | int (i : Int) : Kz s G (.int i)
  | str (x : List Nat) : Kz s G (.str x)
  | tup (xs : List Z) (h : ∀ x ∈ xs, Kz s G x) : Kz s G (.tup xs)
  | lst (n : Nat) (xs : List Z) (h : G[n]? = some (.lst xs)) (hs : n ≠ s) : Kz s G (.ref n)
  | dic (n : Nat) (ks : List Key) (xs : List Z) (h : G[n]? = some (.dK ks xs)) (hs : n ≠ s) : Kz s G (.ref n)
theorem Kz.app {s : Nat} {G E : GH} {v : Z} (h : Kz s G v) : Kz s (G ++ E) v := by
  induction h with
  | non => exact .non
  | bl b => exact .bl b
  | int i => exact .int i
  | str x => exact .str x
  | tup xs h ih => exact .tup xs ih
  | lst n xs h hs => exact .lst n xs (by rw [List.getElem?_append_left (List.getElem?_eq_some_iff.mp h).1]; exact h) hs
  | dic n ks xs h hs => exact .dic n ks xs (by rw [List.getElem?_append_left (List.getElem?_eq_some_iff.mp h).1]; exact h) hs
theorem Kz.keep {s : Nat} {G G' : GH} {v : Z} (h : Kz s G v) (k : Keep s G G') : Kz s G' v := by
  induction h with
  | non => exact .non
  | bl b => exact .bl b
  | int i => exact .int i
  | str x => exact .str x
  | tup xs h ih => exact .tup xs ih
  | lst n xs h hs => exact .lst n xs (by rw [k.old n (List.getElem?_eq_some_iff.mp h).1 hs]; exact h) hs
  | dic n ks xs h hs => exact .dic n ks xs (by rw [k.old n (List.getElem?_eq_some_iff.mp h).1 hs]; exact h) hs
theorem Kz.nx {s : Nat} {G : GH} {v : Z} (h : Kz s G v) : nx v = true := by cases h <;> rfl
def isTupZ : Z → Bool
  | .tup _ => true
  | _ => false
def isStrZ : Z → Bool
  | .str _ => true
  | _ => false
def isIntZ : Z → Bool
  | .int _ => true
  | .bl _ => true
  | _ => false
def isBlZ : Z → Bool
  | .bl _ => true
  | _ => false
theorem isi_of {v : Z} {G : GH} {t n : String} {b : Bool} (h1 : tyName G v = some t) (h2 : isaB t n = some b) : zIsi v (.ty n) G = .ok (.bl b) G := by
  unfold zIsi
  simp only [h1, Option.bind_some, h2]
theorem ty_lst {G : GH} {n : Nat} {xs : List Z} (h : G[n]? = some (.lst xs)) : tyName G (.ref n) = some "list" := by
  show (match G[n]? with | some (.lst _) => some "list" | some (.dK _ _) => some "dict" | _ => none) = _
  rw [h]
theorem ty_dic {G : GH} {n : Nat} {ks : List Key} {xs : List Z} (h : G[n]? = some (.dK ks xs)) : tyName G (.ref n) = some "dict" := by
  show (match G[n]? with | some (.lst _) => some "list" | some (.dK _ _) => some "dict" | _ => none) = _
  rw [h]
theorem isi_tup {s : Nat} {G : GH} {v : Z} (h : Kz s G v) : zIsi v (.ty "tuple") G = .ok (.bl (isTupZ v)) G := by
  cases h with
  | lst n xs h hs => exact isi_of (ty_lst h) (by simp only [isTupZ]; decide)
  | dic n ks xs h hs => exact isi_of (ty_dic h) (by simp only [isTupZ]; decide)
  | _ => exact isi_of rfl (by simp only [isTupZ]; decide)
theorem isi_str {s : Nat} {G : GH} {v : Z} (h : Kz s G v) : zIsi v (.ty "str") G = .ok (.bl (isStrZ v)) G := by
  cases h with
  | lst n xs h hs => exact isi_of (ty_lst h) (by simp only [isStrZ]; decide)
  | dic n ks xs h hs => exact isi_of (ty_dic h) (by simp only [isStrZ]; decide)
  | _ => exact isi_of rfl (by simp only [isStrZ]; decide)
theorem isi_int {s : Nat} {G : GH} {v : Z} (h : Kz s G v) : zIsi v (.ty "int") G = .ok (.bl (isIntZ v)) G := by
  cases h with
  | lst n xs h hs => exact isi_of (ty_lst h) (by simp only [isIntZ]; decide)
  | dic n ks xs h hs => exact isi_of (ty_dic h) (by simp only [isIntZ]; decide)
  | _ => exact isi_of rfl (by simp only [isIntZ]; decide)
theorem isi_bl {s : Nat} {G : GH} {v : Z} (h : Kz s G v) : zIsi v (.ty "bool") G = .ok (.bl (isBlZ v)) G := by
  cases h with
  | lst n xs h hs => exact isi_of (ty_lst h) (by simp only [isBlZ]; decide)
  | dic n ks xs h hs => exact isi_of (ty_dic h) (by simp only [isBlZ]; decide)
  | _ => exact isi_of rfl (by simp only [isBlZ]; decide)
/-! ### what a table is -/
def isG (x : List Nat) : Bool := gr 0 == x || (gr 1 == x || (gr 2 == x || (gr 3 == x || (gr 4 == x || false))))
def isGz : Z → Bool
  | .str x => isG x
  | _ => false
def isRow (n : Int) : Z → Bool
  | .tup gs => decide ((gs.length : Int) = n) && gs.all isGz
  | _ => false
def isTb (n : Int) : Z → Bool
  | .tup rs => decide ((rs.length : Int) = n) && rs.all (isRow n)
  | _ => false
@[simp] theorem is_grade_r (d : Nat) {s : Nat} {G : GH} {v : Z} (h : Kz s G v) : (rt (d + 1)).cf 3 [v] G = .ok (.bl (isGz v)) G := by
  show (C (d + 3)).cf 3 [v] G = _
  rw [cfS d 3 f_3 s_3 1 1 rfl rfl rfl rfl rfl sh_3 rfl]
  show (s_3 (rt d) [some v] G).fin = _
  have e := isi_str h
  have e0 : dVar 0 [some v] G = .ok v G := dv_0 h.nx
  cases v with
  | str x => rfl
  | _ => simp [s_3, e0, e, isStrZ, isGz]
/-- a walk that may stop -/
def stopS : S → Prop
  | .rt _ _ => True
  | .exc _ _ _ => True
  | _ => False
theorem for_stop {g : DG} {body : DS} (xs : List Z) (P : Nat → L → GH → Prop) (Q : Nat → S → Prop) {l : L} {G : GH} (h0 : P 0 l G)
    (step : ∀ (i : Nat) z l G, xs[i]? = some z → P i l G → ∃ l1 G1, g z l G = .nx l1 G1 ∧ ((∃ l2 G2, (body l1 G1 = .nx l2 G2 ∨ body l1 G1 = .ct l2 G2) ∧ P (i + 1) l2 G2) ∨ (stopS (body l1 G1) ∧ Q i (body l1 G1)))) :
    (∃ l' G', forLoop (.pure xs) g body xs.length 0 l G = .nx l' G' ∧ P xs.length l' G') ∨ ∃ i, i < xs.length ∧ stopS (forLoop (.pure xs) g body xs.length 0 l G) ∧ Q i (forLoop (.pure xs) g body xs.length 0 l G) := by
  have key : ∀ (k i : Nat) (l : L) (G : GH), i + k = xs.length → P i l G → (∃ l' G', forLoop (.pure xs) g body k i l G = .nx l' G' ∧ P xs.length l' G') ∨ ∃ t, t < xs.length ∧ stopS (forLoop (.pure xs) g body k i l G) ∧ Q t (forLoop (.pure xs) g body k i l G) := by
    intro k
    induction k with
    | zero =>
      intro i l G hi hp
      refine .inl ⟨l, G, ?_, by have : i = xs.length := by omega
                                rw [← this]; exact hp⟩
      unfold forLoop
      have : itNext (.pure xs) G i = some none := by show some xs[i]? = _; rw [List.getElem?_eq_none (by omega)]
      rw [this]
    | succ k ih =>
      intro i l G hi hp
      have hlt : i < xs.length := by omega
      have hz : xs[i]? = some xs[i] := List.getElem?_eq_getElem hlt
      obtain ⟨l1, G1, h1, h2⟩ := step i _ l G hz hp
      have e : itNext (.pure xs) G i = some (some xs[i]) := by show some xs[i]? = _; rw [hz]
      rcases h2 with ⟨l2, G2, h2, h3⟩ | ⟨h2, h3⟩
      · have e2 : forLoop (.pure xs) g body (k + 1) i l G = forLoop (.pure xs) g body k (i + 1) l2 G2 := by
          rw [forLoop]
          simp only [e, h1]
          rcases h2 with h2 | h2 <;> rw [h2]
        rw [e2]
        exact ih (i + 1) l2 G2 (by omega) h3
      · have e2 : forLoop (.pure xs) g body (k + 1) i l G = body l1 G1 := by
          rw [forLoop]
          simp only [e, h1]
          cases hb : body l1 G1 <;> rw [hb] at h2 <;> first | rfl | exact h2.elim
        rw [e2]
        exact .inr ⟨i, hlt, h2, h3⟩
  exact key xs.length 0 l G (by omega) h0
/-! ### is_table_in, and the law's own check -/
theorem toItr_tup {xs : List Z} {G : GH} : toItr G (.tup xs) = some (.pure xs) := rfl
theorem isa_go {d : Nat} {s : Nat} {G : GH} {gs : List Z} {l : L} (hk : ∀ x ∈ gs, Kz s G x) (hs : gs.length ≤ sizeLine) (h2 : l[2]? = some (some (.tup gs))) (hl : 4 ≤ l.length) :
    dComp (dIter (dVar 2)) (.nm 3) dYes (dCall (rt (d + 1)).cf 3 (dCons (dVar 3) dNil)) [3] l G = .ok (.ref G.length) (G ++ [.lst (gs.map fun g => .bl (isGz g))]) := by
  obtain ⟨acc, G', h1, hL, h3, h4, h5⟩ := lc_go (xs := gs) (i := 3) (e := dCall (rt (d + 1)).cf 3 (dCons (dVar 3) dNil)) (l := wipeZ l [3]) (n := G.length) (G0 := G ++ [.lst []]) (fun k acc G' => acc = (gs.take k).map (fun g => Z.bl (isGz g)) ∧ G' = G ++ [.lst acc])
    (fun k z acc G' hz hp hl2 => by
      obtain ⟨rfl, rfl⟩ := hp
      have kz := (hk z (List.mem_of_getElem? hz)).app (E := [.lst ((gs.take k).map fun g => Z.bl (isGz g))])
      refine ⟨.bl (isGz z), _, ?_, hl2, ?_, ?_⟩
      · have e0 : dVar 3 ((wipeZ l [3]).set 3 (some z)) (G ++ [.lst ((gs.take k).map fun g => Z.bl (isGz g))]) = .ok z _ := dVar_of (List.getElem?_set_self (by simp [wipeZ]; omega)) (nx_ne kz.nx)
        simp only [dCall_ap, dCons_ap, dNil_ap, R.bind_ok, e0]
        exact is_grade_r d kz
      · rw [List.take_add_one, hz, List.map_append]; rfl
      · rw [set_new])
    hs ⟨rfl, rfl⟩ lstAt_new
  subst h4
  rw [List.take_length] at h5
  subst h5
  rw [dComp_ap, dIter_ap, dVar_of h2 (fun q => nomatch q)]
  simp only [R.bind_ok, toItr_tup, Wk.len]
  exact h1
theorem blsOf_map : ∀ bs : List Z, blsOf (bs.map fun g => .bl (isGz g)) = some (bs.map isGz)
  | [] => rfl
  | b :: r => by
    rw [List.map_cons]
    unfold blsOf
    rw [blsOf_map r]; rfl
theorem all_go {G : GH} {gs : List Z} : zAll (.ref G.length) (G ++ [.lst (gs.map fun g => .bl (isGz g))]) = .ok (.bl (gs.all isGz)) (G ++ [.lst (gs.map fun g => .bl (isGz g))]) := by
  unfold zAll
  show (match (lstAt _ _).bind blsOf with | some bs => _ | none => _) = _
  rw [lstAt_new, Option.bind_some, blsOf_map]
  simp [List.all_map]
def tiB (r : Rt) : DS := (dSeq (dIfS (uOr (uNot (dTru (dFn (on2 zIsi) (dCons (dVar 2) (dCons (dC (.ty "tuple")) dNil))))) (uOr (uB (dCmp .NotEq (dFn (on1 zLen) (dCons (dVar 2) dNil)) (dVar 0))) (uNot (dTru (dFn (on1 zAll) (dCons (dComp (dIter (dVar 2)) (.nm 3) dYes (dCall r.cf 3 (dCons (dVar 3) dNil)) [3]) dNil)))))) (dSeq (dRet (dC (.bl false))) dNop) dNop) dNop)
theorem len_tup {xs : List Z} {G : GH} : zLen (.tup xs) G = .ok (.int xs.length) G := rfl
theorem tiB_ok (d : Nat) {s : Nat} {G : GH} {size : Int} {z : Z} {a1 x3 : Option Z} (hk : Kz s G z) (hs : ∀ gs, z = .tup gs → gs.length ≤ sizeLine) :
    ∃ E, tiB (rt (d + 1)) [some (.int size), a1, some z, x3] G = if isRow size z then .nx [some (.int size), a1, some z, x3] (G ++ E) else .rt (.bl false) (G ++ E) := by
  have e2 : ∀ G', dVar 2 [some (.int size), a1, some z, x3] G' = .ok z G' := fun G' => dVar_of rfl (nx_ne hk.nx)
  have ei := isi_tup hk
  have e0 : ∀ G', dVar 0 [some (.int size), a1, some z, x3] G' = .ok (.int size) G' := fun G' => rfl
  cases z with
  | tup gs =>
    cases hk with
    | tup _ hk =>
      by_cases hl : (gs.length : Int) = size
      · have eg := isa_go (d := d) (l := [some (.int size), a1, some (.tup gs), x3]) hk (hs gs rfl) rfl (by simp)
        have ea := all_go (G := G) (gs := gs)
        refine ⟨[.lst (gs.map fun g => .bl (isGz g))], ?_⟩
        have hr : isRow size (.tup gs) = gs.all isGz := by simp [isRow, hl]
        rw [hr]
        unfold tiB
        rw [dSeq_ap, dIfS_ap, uOr_ap, uNot_ap, dTru_ap, dFn_ap, dCons_ap, e2]
        simp only [R.bind_ok, dCons_ap, dC_ap, dNil_ap, on2_ap, ei, isTupZ, truD_bl, Bool.not_true, Bool.false_eq_true, if_false, uOr_ap, uB_ap, dCmp_ap, dFn_ap, e2, e0, on1_ap, len_tup, cmp_nei, hl, beq_self_eq_true, uNot_ap, dTru_ap]
        rw [eg]
        simp only [R.bind_ok, on1_ap, ea, truD_bl, R.st_ok]
        cases gs.all isGz <;> simp
      · refine ⟨[], ?_⟩
        have hr : isRow size (.tup gs) = false := by simp [isRow, hl]
        rw [hr]
        have hb : ((gs.length : Int) == size) = false := by simpa using hl
        unfold tiB
        rw [dSeq_ap, dIfS_ap, uOr_ap, uNot_ap, dTru_ap, dFn_ap, dCons_ap, e2]
        simp only [R.bind_ok, dCons_ap, dC_ap, dNil_ap, on2_ap, ei, isTupZ, truD_bl, Bool.not_true, Bool.false_eq_true, if_false, uOr_ap, uB_ap, dCmp_ap, dFn_ap, e2, e0, on1_ap, len_tup, cmp_nei, hb, Bool.not_false, if_true, R.st_ok]
        simp
  | _ =>
    refine ⟨[], ?_⟩
    unfold tiB
    rw [dSeq_ap, dIfS_ap, uOr_ap, uNot_ap, dTru_ap, dFn_ap, dCons_ap, e2]
    simp only [R.bind_ok, dCons_ap, dC_ap, dNil_ap, on2_ap, ei, isTupZ, truD_bl, Bool.not_false, if_true, R.st_ok]
    simp [isRow]
theorem all_take {p : Z → Bool} {xs : List Z} {k : Nat} {z : Z} (h : xs[k]? = some z) (ha : (xs.take k).all p = true) (hz : p z = true) : (xs.take (k + 1)).all p = true := by
  rw [List.take_add_one, h, List.all_append, ha]; simp [hz]
theorem is_table_in_ex (d : Nat) {s : Nat} {G : GH} {size : Int} {v : Z} (hk : Kz s G v) (hs : ∀ xs, v = .tup xs → ∀ x ∈ xs, ∀ gs, x = .tup gs → gs.length ≤ sizeLine) :
    ∃ E, (rt (d + 2)).cf 4 [.int size, v] G = .ok (.bl (isTb size v)) (G ++ E) := by
  show ∃ E, (C (d + 4)).cf 4 [.int size, v] G = _
  rw [show d + 4 = (d + 1) + 3 from rfl, cfS (d + 1) 4 f_4 s_4 4 2 rfl rfl rfl rfl rfl sh_4 rfl]
  show ∃ E, (s_4 (rt (d + 1)) [some (.int size), some v, none, none] G).fin = _
  have e1 : ∀ r G', dVar 1 (some (.int size) :: some v :: r) G' = .ok v G' := fun r G' => dVar_of rfl (nx_ne hk.nx)
  have e0 : ∀ r G', dVar 0 (some (.int size) :: some v :: r) G' = .ok (.int size) G' := fun r G' => rfl
  have ei := isi_tup hk
  have sh : s_4 (rt (d + 1)) = (dSeq (dIfS (uOr (uNot (dTru (dFn (on2 zIsi) (dCons (dVar 1) (dCons (dC (.ty "tuple")) dNil))))) (uB (dCmp .NotEq (dFn (on1 zLen) (dCons (dVar 1) dNil)) (dVar 0)))) (dSeq (dRet (dC (.bl false))) dNop) dNop) (dSeq (dFor (dIter (dVar 1)) (dgName 2) (tiB (rt (d + 1)))) (dSeq (dRet (dC (.bl true))) dNop))) := rfl
  rw [sh]
  cases v with
  | tup rs =>
    cases hk with
    | tup _ hk =>
      by_cases hl : (rs.length : Int) = size
      · have key := for_stop (g := dgName 2) (body := tiB (rt (d + 1))) rs (fun k l G' => (∃ x2, l = [some (.int size), some (.tup rs), x2, none]) ∧ (∃ E, G' = G ++ E) ∧ (rs.take k).all (isRow size) = true)
          (fun k r => ∃ E, r = .rt (.bl false) (G ++ E) ∧ rs.all (isRow size) = false) (l := [some (.int size), some (.tup rs), none, none]) (G := G) ⟨⟨_, rfl⟩, ⟨[], (List.append_nil G).symm⟩, rfl⟩ (fun k z l G' hz ⟨⟨x2, hl2⟩, ⟨E, hG⟩, ha⟩ => by
            subst hl2 hG
            have hm := List.mem_of_getElem? hz
            obtain ⟨E2, e⟩ := tiB_ok d (size := size) (a1 := some (.tup rs)) (x3 := none) ((hk z hm).app (E := E)) (fun gs hgs => hs rs rfl z hm gs hgs)
            refine ⟨[some (.int size), some (.tup rs), some z, none], _, rfl, ?_⟩
            cases hr : isRow size z with
            | true =>
              rw [hr, if_pos rfl] at e
              exact .inl ⟨_, _, .inl e, ⟨_, rfl⟩, ⟨E ++ E2, by rw [List.append_assoc]⟩, all_take hz ha hr⟩
            | false =>
              rw [hr, if_neg Bool.false_ne_true] at e
              refine .inr ⟨by rw [e]; trivial, E ++ E2, by rw [e, List.append_assoc], ?_⟩
              exact List.all_eq_false.mpr ⟨z, hm, by rw [hr]; exact Bool.false_ne_true⟩)
        have ht : isTb size (.tup rs) = rs.all (isRow size) := by simp [isTb, hl]
        rw [ht, dSeq_ap, dIfS_ap, uOr_ap, uNot_ap, dTru_ap, dFn_ap, dCons_ap, e1]
        simp only [R.bind_ok, dCons_ap, dC_ap, dNil_ap, on2_ap, ei, isTupZ, truD_bl, Bool.not_true, Bool.false_eq_true, if_false, uB_ap, dCmp_ap, dFn_ap, e1, e0, on1_ap, len_tup, cmp_nei, hl, beq_self_eq_true, R.st_ok, dNop_ap, seq_nx, dSeq_ap, dFor_ap, dIter_ap, toItr_tup, Wk.len]
        rcases key with ⟨l', G', h1, ⟨x2, rfl⟩, ⟨E, rfl⟩, ha⟩ | ⟨i, hi, hst, E, h1, ha⟩
        · rw [List.take_length] at ha
          refine ⟨E, ?_⟩
          rw [h1, ha]; simp
        · refine ⟨E, ?_⟩
          rw [h1, ha]; rfl
      · refine ⟨[], ?_⟩
        have ht : isTb size (.tup rs) = false := by simp [isTb, hl]
        have hb : ((rs.length : Int) == size) = false := by simpa using hl
        rw [ht, dSeq_ap, dIfS_ap, uOr_ap, uNot_ap, dTru_ap, dFn_ap, dCons_ap, e1]
        simp only [R.bind_ok, dCons_ap, dC_ap, dNil_ap, on2_ap, ei, isTupZ, truD_bl, Bool.not_true, Bool.false_eq_true, if_false, uB_ap, dCmp_ap, dFn_ap, e1, e0, on1_ap, len_tup, cmp_nei, hb, Bool.not_false, if_true, R.st_ok]
        simp
  | _ =>
    refine ⟨[], ?_⟩
    rw [dSeq_ap, dIfS_ap, uOr_ap, uNot_ap, dTru_ap, dFn_ap, dCons_ap, e1]
    simp only [R.bind_ok, dCons_ap, dC_ap, dNil_ap, on2_ap, ei, isTupZ, truD_bl, Bool.not_false, if_true, R.st_ok]
    simp [isTb]
end K
end
section
set_option Elab.async false
set_option linter.all false
set_option maxRecDepth 100000
set_option maxHeartbeats 4000000
namespace K
open PySem PySem.Spec PyProof.Rows L2 Zy
def laG : Z := .tup [.str [114, 101, 115, 116, 97, 114, 116], .str [102, 114, 101, 101], .str [112, 97, 105, 100], .str [100, 101, 97, 114], .str [110, 111, 110, 101]]
def laI : DS := (dSeq (dIfS (uOr (uNot (dTru (dFn (on2 zIsi) (dCons (dVar 3) (dCons (dC (.ty "str")) dNil))))) (uB (dCmp .NotIn (dVar 3) (dTup (dCons (dC (.str [114, 101, 115, 116, 97, 114, 116])) (dCons (dC (.str [102, 114, 101, 101])) (dCons (dC (.str [112, 97, 105, 100])) (dCons (dC (.str [100, 101, 97, 114])) (dCons (dC (.str [110, 111, 110, 101])) dNil))))))))) (dSeq (dRet (dC (.bl false))) dNop) dNop) dNop)
def laM : DS := (dSeq (dIfS (uOr (uNot (dTru (dFn (on2 zIsi) (dCons (dVar 2) (dCons (dC (.ty "tuple")) dNil))))) (uB (dCmp .NotEq (dFn (on1 zLen) (dCons (dVar 2) dNil)) (dVar 0)))) (dSeq (dRet (dC (.bl false))) dNop) dNop) (dSeq (dFor (dIter (dVar 2)) (dgName 3) laI) dNop))
theorem notin_g {x : List Nat} {G : GH} : zCmp .NotIn (.str x) laG G = .ok (.bl (!(isG x))) G := rfl
theorem laI_ok {s : Nat} {G : GH} {a b c : Option Z} {z : Z} (hk : Kz s G z) : laI [a, b, c, some z] G = if isGz z then .nx [a, b, c, some z] G else .rt (.bl false) G := by
  have e3 : ∀ G', dVar 3 [a, b, c, some z] G' = .ok z G' := fun G' => dVar_of rfl (nx_ne hk.nx)
  have ei := isi_str hk
  have s5 : 5 ≤ sizeLine := small _ (by decide)
  have el : (dTup (dCons (dC (.str [114, 101, 115, 116, 97, 114, 116])) (dCons (dC (.str [102, 114, 101, 101])) (dCons (dC (.str [112, 97, 105, 100])) (dCons (dC (.str [100, 101, 97, 114])) (dCons (dC (.str [110, 111, 110, 101])) dNil)))))) [a, b, c, some z] G = .ok laG G := by simp [s5, laG]
  unfold laI
  cases z with
  | str x =>
    rw [dSeq_ap, dIfS_ap, uOr_ap, uNot_ap, dTru_ap, dFn_ap, dCons_ap, e3]
    simp only [R.bind_ok, dCons_ap, dC_ap, dNil_ap, on2_ap, ei, isStrZ, truD_bl, Bool.not_true, Bool.false_eq_true, if_false, uB_ap, dCmp_ap, e3]
    rw [el]
    simp only [R.bind_ok, notin_g, R.st_ok, isGz]
    by_cases hg : isG x = true
    · simp [hg]
    · have hg2 : isG x = false := by simpa using hg
      simp [hg2]
  | _ =>
    rw [dSeq_ap, dIfS_ap, uOr_ap, uNot_ap, dTru_ap, dFn_ap, dCons_ap, e3]
    simp only [R.bind_ok, dCons_ap, dC_ap, dNil_ap, on2_ap, ei, isStrZ, truD_bl, Bool.not_false, if_true, R.st_ok]
    simp [isGz]
theorem laM_ok {s : Nat} {G : GH} {size : Int} {z : Z} {a1 x3 : Option Z} (hk : Kz s G z) : ∃ y3, laM [some (.int size), a1, some z, x3] G = if isRow size z then .nx [some (.int size), a1, some z, y3] G else .rt (.bl false) G := by
  have e2 : ∀ r G', dVar 2 (some (.int size) :: a1 :: some z :: r) G' = .ok z G' := fun r G' => dVar_of rfl (nx_ne hk.nx)
  have ei := isi_tup hk
  have e0 : ∀ r G', dVar 0 (some (.int size) :: a1 :: some z :: r) G' = .ok (.int size) G' := fun r G' => rfl
  unfold laM
  cases z with
  | tup gs =>
    cases hk with
    | tup _ hk =>
      by_cases hl : (gs.length : Int) = size
      · have key := for_stop (g := dgName 3) (body := laI) gs (fun k l G' => (∃ x, l = [some (.int size), a1, some (.tup gs), x]) ∧ G' = G ∧ (gs.take k).all isGz = true)
          (fun k r => r = .rt (.bl false) G ∧ gs.all isGz = false) (l := [some (.int size), a1, some (.tup gs), x3]) (G := G) ⟨⟨_, rfl⟩, rfl, rfl⟩ (fun k z l G' hz ⟨⟨x, hl2⟩, hG, ha⟩ => by
            subst hl2 hG
            have hm := List.mem_of_getElem? hz
            have e := laI_ok (a := some (.int size)) (b := a1) (c := some (.tup gs)) (hk z hm)
            refine ⟨[some (.int size), a1, some (.tup gs), some z], _, rfl, ?_⟩
            cases hr : isGz z with
            | true =>
              rw [hr, if_pos rfl] at e
              exact .inl ⟨_, _, .inl e, ⟨_, rfl⟩, rfl, all_take hz ha hr⟩
            | false =>
              rw [hr, if_neg Bool.false_ne_true] at e
              exact .inr ⟨by rw [e]; trivial, e, List.all_eq_false.mpr ⟨z, hm, by rw [hr]; exact Bool.false_ne_true⟩⟩)
        have ht : isRow size (.tup gs) = gs.all isGz := by simp [isRow, hl]
        rw [ht, dSeq_ap, dIfS_ap, uOr_ap, uNot_ap, dTru_ap, dFn_ap, dCons_ap, e2]
        simp only [R.bind_ok, dCons_ap, dC_ap, dNil_ap, on2_ap, ei, isTupZ, truD_bl, Bool.not_true, Bool.false_eq_true, if_false, uB_ap, dCmp_ap, dFn_ap, e2, e0, on1_ap, len_tup, cmp_nei, hl, beq_self_eq_true, R.st_ok, dNop_ap, seq_nx, dSeq_ap, dFor_ap, dIter_ap, toItr_tup, Wk.len]
        rcases key with ⟨l', G', h1, ⟨x, rfl⟩, rfl, ha⟩ | ⟨i, hi, hst, h1, ha⟩
        · rw [List.take_length] at ha
          refine ⟨x, ?_⟩
          rw [h1, ha]; simp
        · refine ⟨none, ?_⟩
          rw [h1, ha]; rfl
      · refine ⟨none, ?_⟩
        have ht : isRow size (.tup gs) = false := by simp [isRow, hl]
        have hb : ((gs.length : Int) == size) = false := by simpa using hl
        rw [ht, dSeq_ap, dIfS_ap, uOr_ap, uNot_ap, dTru_ap, dFn_ap, dCons_ap, e2]
        simp only [R.bind_ok, dCons_ap, dC_ap, dNil_ap, on2_ap, ei, isTupZ, truD_bl, Bool.not_true, Bool.false_eq_true, if_false, uB_ap, dCmp_ap, dFn_ap, e2, e0, on1_ap, len_tup, cmp_nei, hb, Bool.not_false, if_true, R.st_ok]
        simp
  | _ =>
    refine ⟨none, ?_⟩
    rw [dSeq_ap, dIfS_ap, uOr_ap, uNot_ap, dTru_ap, dFn_ap, dCons_ap, e2]
    simp only [R.bind_ok, dCons_ap, dC_ap, dNil_ap, on2_ap, ei, isTupZ, truD_bl, Bool.not_false, if_true, R.st_ok]
    simp [isRow]
theorem law_table_r (d : Nat) {s : Nat} {G : GH} {size : Int} {v : Z} (hk : Kz s G v) : (rt (d + 1)).cf 24 [.int size, v] G = .ok (.bl (isTb size v)) G := by
  show (C (d + 3)).cf 24 [.int size, v] G = _
  rw [cfS d 24 f_24 s_24 4 2 rfl rfl rfl rfl rfl sh_24 rfl]
  show (s_24 (rt d) [some (.int size), some v, none, none] G).fin = _
  have e1 : ∀ r G', dVar 1 (some (.int size) :: some v :: r) G' = .ok v G' := fun r G' => dVar_of rfl (nx_ne hk.nx)
  have e0 : ∀ r G', dVar 0 (some (.int size) :: some v :: r) G' = .ok (.int size) G' := fun r G' => rfl
  have ei := isi_tup hk
  have sh : s_24 (rt d) = (dSeq (dIfS (uOr (uNot (dTru (dFn (on2 zIsi) (dCons (dVar 1) (dCons (dC (.ty "tuple")) dNil))))) (uB (dCmp .NotEq (dFn (on1 zLen) (dCons (dVar 1) dNil)) (dVar 0)))) (dSeq (dRet (dC (.bl false))) dNop) dNop) (dSeq (dFor (dIter (dVar 1)) (dgName 2) laM) (dSeq (dRet (dC (.bl true))) dNop))) := rfl
  rw [sh]
  cases v with
  | tup rs =>
    cases hk with
    | tup _ hk =>
      by_cases hl : (rs.length : Int) = size
      · have key := for_stop (g := dgName 2) (body := laM) rs (fun k l G' => (∃ x y, l = [some (.int size), some (.tup rs), x, y]) ∧ G' = G ∧ (rs.take k).all (isRow size) = true)
          (fun k r => r = .rt (.bl false) G ∧ rs.all (isRow size) = false) (l := [some (.int size), some (.tup rs), none, none]) (G := G) ⟨⟨_, _, rfl⟩, rfl, rfl⟩ (fun k z l G' hz ⟨⟨x, y, hl2⟩, hG, ha⟩ => by
            subst hl2 hG
            have hm := List.mem_of_getElem? hz
            obtain ⟨y3, e⟩ := laM_ok (size := size) (a1 := some (.tup rs)) (x3 := y) (hk z hm)
            refine ⟨[some (.int size), some (.tup rs), some z, y], _, rfl, ?_⟩
            cases hr : isRow size z with
            | true =>
              rw [hr, if_pos rfl] at e
              exact .inl ⟨_, _, .inl e, ⟨_, _, rfl⟩, rfl, all_take hz ha hr⟩
            | false =>
              rw [hr, if_neg Bool.false_ne_true] at e
              exact .inr ⟨by rw [e]; trivial, e, List.all_eq_false.mpr ⟨z, hm, by rw [hr]; exact Bool.false_ne_true⟩⟩)
        have ht : isTb size (.tup rs) = rs.all (isRow size) := by simp [isTb, hl]
        rw [ht, dSeq_ap, dIfS_ap, uOr_ap, uNot_ap, dTru_ap, dFn_ap, dCons_ap, e1]
        simp only [R.bind_ok, dCons_ap, dC_ap, dNil_ap, on2_ap, ei, isTupZ, truD_bl, Bool.not_true, Bool.false_eq_true, if_false, uB_ap, dCmp_ap, dFn_ap, e1, e0, on1_ap, len_tup, cmp_nei, hl, beq_self_eq_true, R.st_ok, dNop_ap, seq_nx, dSeq_ap, dFor_ap, dIter_ap, toItr_tup, Wk.len]
        rcases key with ⟨l', G', h1, ⟨x, y, rfl⟩, rfl, ha⟩ | ⟨i, hi, hst, h1, ha⟩
        · rw [List.take_length] at ha
          rw [h1, ha]; simp
        · rw [h1, ha]; rfl
      · have ht : isTb size (.tup rs) = false := by simp [isTb, hl]
        have hb : ((rs.length : Int) == size) = false := by simpa using hl
        rw [ht, dSeq_ap, dIfS_ap, uOr_ap, uNot_ap, dTru_ap, dFn_ap, dCons_ap, e1]
        simp only [R.bind_ok, dCons_ap, dC_ap, dNil_ap, on2_ap, ei, isTupZ, truD_bl, Bool.not_true, Bool.false_eq_true, if_false, uB_ap, dCmp_ap, dFn_ap, e1, e0, on1_ap, len_tup, cmp_nei, hb, Bool.not_false, if_true, R.st_ok]
        simp
  | _ =>
    rw [dSeq_ap, dIfS_ap, uOr_ap, uNot_ap, dTru_ap, dFn_ap, dCons_ap, e1]
    simp only [R.bind_ok, dCons_ap, dC_ap, dNil_ap, on2_ap, ei, isTupZ, truD_bl, Bool.not_false, if_true, R.st_ok]
    simp [isTb]
/-! ### tables and their functions -/
theorem isG_gr (i : Fin 5) : isG (gr i) = true := by revert i; decide
theorem isG_of {x : List Nat} (h : isG x = true) : ∃ i, x = gr i := by
  unfold isG at h
  simp only [Bool.or_eq_true, beq_iff_eq, Bool.or_false] at h
  rcases h with h | h | h | h | h
  · exact ⟨0, h.symm⟩
  · exact ⟨1, h.symm⟩
  · exact ⟨2, h.symm⟩
  · exact ⟨3, h.symm⟩
  · exact ⟨4, h.symm⟩
theorem isGz_of {z : Z} (h : isGz z = true) : ∃ i, z = gz i := by
  cases z <;> try cases h
  obtain ⟨i, e⟩ := isG_of h
  exact ⟨i, by rw [e]⟩
theorem list_fun {α : Type} {P : Z → α → Prop} : ∀ {xs : List Z}, (∀ x ∈ xs, ∃ a, P x a) → (a0 : α) → ∃ f : Nat → α, ∀ (k : Nat) x, xs[k]? = some x → P x (f k)
  | [], _, a0 => ⟨fun _ => a0, fun k x h => by simp at h⟩
  | x :: xs, h, a0 => by
    obtain ⟨a, ha⟩ := h x (List.mem_cons_self ..)
    obtain ⟨f, hf⟩ := list_fun (xs := xs) (fun y hy => h y (List.mem_cons_of_mem _ hy)) a0
    refine ⟨fun k => match k with | 0 => a | k + 1 => f k, fun k y hk => ?_⟩
    cases k with
    | zero => simp at hk; subst hk; exact ha
    | succ k => exact hf k y (by simpa using hk)
theorem list_eq {α : Type} {xs : List Z} {n : Nat} {g : Nat → Z} (hl : xs.length = n) (h : ∀ (k : Nat) x, xs[k]? = some x → x = g k) : xs = (List.range n).map g := by
  apply List.ext_getElem?
  intro k
  rw [List.getElem?_map]
  by_cases hk : k < n
  · have hx : xs[k]? = some xs[k] := List.getElem?_eq_getElem (by omega)
    rw [hx, List.getElem?_range hk, h k _ hx]; rfl
  · rw [List.getElem?_eq_none (by omega), List.getElem?_eq_none (by simp; omega)]; rfl
theorem isRow_of {n : Nat} {z : Z} (h : isRow n z = true) : ∃ f, z = row n f := by
  cases z <;> try cases h
  rename_i gs
  unfold isRow at h
  simp only [Bool.and_eq_true, decide_eq_true_eq, Int.natCast_inj] at h
  obtain ⟨f, hf⟩ := list_fun (P := fun x i => x = gz i) (xs := gs) (fun x hx => isGz_of (List.all_eq_true.mp h.2 x hx)) 0
  exact ⟨f, by unfold row; rw [list_eq (α := Nat) h.1 hf]⟩
theorem isTb_of {n : Nat} {z : Z} (h : isTb n z = true) : ∃ f, z = tz n f := by
  cases z <;> try cases h
  rename_i rs
  unfold isTb at h
  simp only [Bool.and_eq_true, decide_eq_true_eq, Int.natCast_inj] at h
  obtain ⟨f, hf⟩ := list_fun (P := fun x i => x = row n i) (xs := rs) (fun x hx => isRow_of (List.all_eq_true.mp h.2 x hx)) (fun _ => 0)
  exact ⟨f, by unfold tz; rw [list_eq (α := Nat) h.1 hf]⟩
theorem isRow_row {n : Nat} {f : Nat → Fin 5} : isRow n (row n f) = true := by
  unfold row isRow
  simp only [Bool.and_eq_true, decide_eq_true_eq, List.length_map, List.length_range, true_and, List.all_eq_true, List.mem_map]
  rintro x ⟨k, _, rfl⟩
  exact isG_gr _
theorem isTb_tz {n : Nat} {f : Nat → Nat → Fin 5} : isTb n (tz n f) = true := by
  unfold tz isTb
  simp only [Bool.and_eq_true, decide_eq_true_eq, List.length_map, List.length_range, true_and, List.all_eq_true, List.mem_map]
  rintro x ⟨k, _, rfl⟩
  exact isRow_row
theorem isTb_len {m : Int} {n : Nat} {f : Nat → Nat → Fin 5} (h : m ≠ n) : isTb m (tz n f) = false := by
  unfold tz isTb
  simp; intro h2; exact absurd h2.symm h
theorem kz_row {s : Nat} {G : GH} {n : Nat} {f : Nat → Fin 5} : Kz s G (row n f) := .tup _ fun x hx => by
  obtain ⟨k, _, rfl⟩ := List.mem_map.mp hx
  exact .str _
theorem kz_tz {s : Nat} {G : GH} {n : Nat} {f : Nat → Nat → Fin 5} : Kz s G (tz n f) := .tup _ fun x hx => by
  obtain ⟨k, _, rfl⟩ := List.mem_map.mp hx
  exact kz_row
end K
end
section
set_option Elab.async false
set_option linter.all false
set_option maxRecDepth 100000
set_option maxHeartbeats 4000000
namespace K
open PySem PySem.Spec PyProof.Rows L2 Zy
/-- the tuples within are not too long -/
def Sz (v : Z) : Prop := ∀ xs, v = .tup xs → xs.length ≤ 1000 ∧ ∀ x ∈ xs, ∀ gs, x = .tup gs → gs.length ≤ 1000
theorem line1000 : 1000 ≤ sizeLine := by rw [sizeLine_eq]; omega
open Classical in
noncomputable def eI (d : Nat) (size : Int) (v : Z) (G : GH) : GH := if h : ∃ E, (rt (d + 2)).cf 4 [.int size, v] G = .ok (.bl (isTb size v)) (G ++ E) then Classical.choose h else []
theorem table_in_r (d : Nat) {s : Nat} {G : GH} {size : Int} {v : Z} (hk : Kz s G v) (hs : Sz v) : (rt (d + 2)).cf 4 [.int size, v] G = .ok (.bl (isTb size v)) (G ++ eI d size v G) := by
  have h := is_table_in_ex d (size := size) hk (fun xs e x hx gs hg => Nat.le_trans ((hs xs e).2 x hx gs hg) line1000)
  unfold eI; rw [dif_pos h]; exact Classical.choose_spec h
theorem sz_tz {n : Nat} (hn : n ≤ 100) {f : Nat → Nat → Fin 5} : Sz (tz n f) := by
  intro xs e
  unfold tz at e
  cases e
  refine ⟨by simp; omega, fun x hx gs hg => ?_⟩
  obtain ⟨k, _, rfl⟩ := List.mem_map.mp hx
  unfold row at hg
  cases hg
  simp; omega
/-- is_integer -/
def isInt (lo hi : Int) : Z → Bool
  | .int i => decide (lo ≤ i) && decide (i ≤ hi)
  | _ => false
theorem is_integer_r (d : Nat) {s : Nat} {G : GH} {lo hi : Int} {v : Z} (hk : Kz s G v) : (rt (d + 1)).cf 0 [v, .int lo, .int hi] G = .ok (.bl (isInt lo hi v)) G := by
  show (C (d + 3)).cf 0 [v, .int lo, .int hi] G = _
  rw [cfS d 0 f_0 s_0 3 3 rfl rfl rfl rfl rfl sh_0 rfl]
  show (s_0 (rt d) [some v, some (.int lo), some (.int hi)] G).fin = _
  have e0 : ∀ G', dVar 0 [some v, some (.int lo), some (.int hi)] G' = .ok v G' := fun G' => dVar_of rfl (nx_ne hk.nx)
  have ei := isi_int hk
  have eb := isi_bl hk
  cases v with
  | int i =>
    simp only [isIntZ] at ei
    simp only [isBlZ] at eb
    unfold s_0
    simp [e0, ei, eb, isInt]
    by_cases h : lo ≤ i <;> simp [h, e0]
  | bl b =>
    simp only [isIntZ] at ei
    simp only [isBlZ] at eb
    unfold s_0
    simp [e0, ei, eb, isInt]
  | _ =>
    simp only [isIntZ] at ei
    unfold s_0
    simp [e0, ei, isInt]
/-- is_table -/
theorem is_table_bad (d : Nat) {s : Nat} {G : GH} {v w : Z} (hk : Kz s G v) (hw : nx w = true) (h : isInt 1 8 v = false) : (rt (d + 2)).cf 5 [v, w] G = .exc ⟨.own 3, some G.length⟩ (G ++ [.xd [("value", v)]]) := by
  show (C (d + 4)).cf 5 [v, w] G = _
  rw [show d + 4 = (d + 1) + 3 from rfl, cfS (d + 1) 5 f_5 s_5 2 2 rfl rfl rfl rfl rfl sh_5 rfl]
  show (s_5 (rt (d + 1)) [some v, some w] G).fin = _
  have e0 : ∀ G', dVar 0 [some v, some w] G' = .ok v G' := fun G' => dVar_of rfl (nx_ne hk.nx)
  have e := is_integer_r d (lo := 1) (hi := 8) hk
  rw [h] at e
  unfold s_5
  simp [e0, e, dRaiseF]
theorem is_table_r (d : Nat) {s : Nat} {G : GH} {size : Int} {v : Z} (hk : Kz s G v) (hs : Sz v) (h : isInt 1 8 (.int size) = true) : (rt (d + 3)).cf 5 [.int size, v] G = .ok (.bl (isTb size v)) (G ++ eI d size v G) := by
  show (C (d + 5)).cf 5 [.int size, v] G = _
  rw [show d + 5 = (d + 2) + 3 from rfl, cfS (d + 2) 5 f_5 s_5 2 2 rfl rfl rfl rfl rfl sh_5 rfl]
  show (s_5 (rt (d + 2)) [some (.int size), some v] G).fin = _
  have e1 : ∀ G', dVar 1 [some (.int size), some v] G' = .ok v G' := fun G' => dVar_of rfl (nx_ne hk.nx)
  have e := is_integer_r (s := s) (d + 1) (lo := 1) (hi := 8) (G := G) (.int size)
  rw [h] at e
  have e4 := table_in_r d (size := size) hk hs
  unfold s_5
  simp [e1, e, e4]
/-- require_table -/
theorem req_ok (d : Nat) {s : Nat} {G : GH} {size : Int} {v : Z} (hk : Kz s G v) (hs : Sz v) (h : isTb size v = true) : (rt (d + 3)).cf 6 [.int size, v] G = .ok .non (G ++ eI d size v G) := by
  show (C (d + 5)).cf 6 [.int size, v] G = _
  rw [show d + 5 = (d + 2) + 3 from rfl, cfS (d + 2) 6 f_6 s_6 2 2 rfl rfl rfl rfl rfl sh_6 rfl]
  show (s_6 (rt (d + 2)) [some (.int size), some v] G).fin = _
  have e1 : ∀ G', dVar 1 [some (.int size), some v] G' = .ok v G' := fun G' => dVar_of rfl (nx_ne hk.nx)
  have e4 := table_in_r d (size := size) hk hs
  rw [h] at e4
  unfold s_6
  simp [e1, e4]
theorem req_bad (d : Nat) {s : Nat} {G : GH} {size : Int} {v : Z} (hk : Kz s G v) (hs : Sz v) (h : isTb size v = false) : (rt (d + 3)).cf 6 [.int size, v] G = .exc ⟨.own 1, none⟩ (G ++ eI d size v G) := by
  show (C (d + 5)).cf 6 [.int size, v] G = _
  rw [show d + 5 = (d + 2) + 3 from rfl, cfS (d + 2) 6 f_6 s_6 2 2 rfl rfl rfl rfl rfl sh_6 rfl]
  show (s_6 (rt (d + 2)) [some (.int size), some v] G).fin = _
  have e1 : ∀ G', dVar 1 [some (.int size), some v] G' = .ok v G' := fun G' => dVar_of rfl (nx_ne hk.nx)
  have e4 := table_in_r d (size := size) hk hs
  rw [h] at e4
  unfold s_6
  simp [e1, e4]
/-- a table of a size from 1 to 8 -/
def anyTb : Z → Bool
  | .tup rs => decide (1 ≤ rs.length ∧ rs.length ≤ 8) && isTb rs.length (.tup rs)
  | _ => false
theorem any_ok (d : Nat) {s : Nat} {G : GH} {v : Z} (hk : Kz s G v) (hs : Sz v) (h : anyTb v = true) : ∃ E, (rt (d + 4)).cf 7 [v] G = .ok .non (G ++ E) := by
  show ∃ E, (C (d + 6)).cf 7 [v] G = _
  rw [show d + 6 = (d + 3) + 3 from rfl, cfS (d + 3) 7 f_7 s_7 1 1 rfl rfl rfl rfl rfl sh_7 rfl]
  show ∃ E, (s_7 (rt (d + 3)) [some v] G).fin = _
  have e0 : ∀ G', dVar 0 [some v] G' = .ok v G' := fun G' => dVar_of rfl (nx_ne hk.nx)
  have ei := isi_tup hk
  cases v with
  | tup rs =>
    unfold anyTb at h
    simp only [Bool.and_eq_true, decide_eq_true_eq] at h
    have e4 := req_ok d hk hs h.2
    simp only [isTupZ] at ei
    have h1 : (1 : Int) ≤ rs.length := by omega
    have h2 : (rs.length : Int) ≤ 8 := by omega
    refine ⟨eI d rs.length (.tup rs) G, ?_⟩
    unfold s_7
    simp [e0, ei, len_tup, h1, h2, e4]
  | _ => cases h
theorem any_bad (d : Nat) {s : Nat} {G : GH} {v : Z} (hk : Kz s G v) (hs : Sz v) (h : anyTb v = false) : ∃ E, (rt (d + 4)).cf 7 [v] G = .exc ⟨.own 1, none⟩ (G ++ E) := by
  show ∃ E, (C (d + 6)).cf 7 [v] G = _
  rw [show d + 6 = (d + 3) + 3 from rfl, cfS (d + 3) 7 f_7 s_7 1 1 rfl rfl rfl rfl rfl sh_7 rfl]
  show ∃ E, (s_7 (rt (d + 3)) [some v] G).fin = _
  have e0 : ∀ G', dVar 0 [some v] G' = .ok v G' := fun G' => dVar_of rfl (nx_ne hk.nx)
  have ei := isi_tup hk
  cases v with
  | tup rs =>
    simp only [isTupZ] at ei
    unfold anyTb at h
    by_cases hl : 1 ≤ rs.length ∧ rs.length ≤ 8
    · have ht : isTb rs.length (.tup rs) = false := by simpa [hl] using h
      have e4 := req_bad d hk hs ht
      have h1 : (1 : Int) ≤ rs.length := by omega
      have h2 : (rs.length : Int) ≤ 8 := by omega
      refine ⟨eI d rs.length (.tup rs) G, ?_⟩
      unfold s_7
      simp [e0, ei, len_tup, h1, h2, e4]
    · refine ⟨[], ?_⟩
      unfold s_7
      by_cases h1 : (1 : Int) ≤ rs.length
      · have h2 : ¬ (rs.length : Int) ≤ 8 := by omega
        simp [e0, ei, len_tup, h1, h2]
      · simp [e0, ei, len_tup, h1]
  | _ =>
    simp only [isTupZ] at ei
    refine ⟨[], ?_⟩
    unfold s_7
    simp [e0, ei]
open Classical in
noncomputable def eA (d : Nat) (v : Z) (G : GH) : GH := if h : ∃ E, (rt (d + 4)).cf 7 [v] G = .ok .non (G ++ E) then Classical.choose h else []
theorem any_r (d : Nat) {s : Nat} {G : GH} {v : Z} (hk : Kz s G v) (hs : Sz v) (h : anyTb v = true) : (rt (d + 4)).cf 7 [v] G = .ok .non (G ++ eA d v G) := by
  have h := any_ok d hk hs h
  unfold eA; rw [dif_pos h]; exact Classical.choose_spec h
theorem any_tz {n : Nat} (h1 : 1 ≤ n) (h8 : n ≤ 8) {f : Nat → Nat → Fin 5} : anyTb (tz n f) = true := by
  have e := isTb_tz (n := n) (f := f)
  unfold tz at e ⊢
  show (decide (1 ≤ ((List.range n).map fun i => row n (f i)).length ∧ ((List.range n).map fun i => row n (f i)).length ≤ 8) && isTb ((((List.range n).map fun i => row n (f i)).length : Nat) : Int) (.tup ((List.range n).map fun i => row n (f i)))) = true
  rw [List.length_map, List.length_range, e]
  simp; omega
theorem anyTb_of {v : Z} (h : anyTb v = true) : ∃ n f, v = tz n f ∧ 1 ≤ n ∧ n ≤ 8 := by
  cases v <;> try cases h
  rename_i rs
  unfold anyTb at h
  simp only [Bool.and_eq_true, decide_eq_true_eq] at h
  obtain ⟨f, hf⟩ := isTb_of h.2
  exact ⟨rs.length, f, hf, h.1.1, h.1.2⟩
/-- is_idempotent_in, is_idempotent: what the comparison tells -/
def sameT (n : Nat) (f g : Nat → Nat → Fin 5) : Bool := (List.range n).all fun i => (List.range n).all fun j => f i j == g i j
theorem zall_map {k : Nat} {G : GH} {p q : Nat → Z} {b : Nat → Bool} (h : ∀ i, zeq k G (p i) (q i) = some (b i)) : ∀ l : List Nat, zall (zeq k G) (l.map p) (l.map q) = some (l.all b)
  | [] => rfl
  | i :: l => by
    rw [List.map_cons, List.map_cons]
    unfold zall
    rw [h i, zall_map h l]; rfl
theorem gr_inj (i j : Fin 5) : (gr i == gr j) = (i == j) := by revert i j; decide
theorem eq_tz {n : Nat} {f g : Nat → Nat → Fin 5} {G : GH} : zCmp .Eq (tz n f) (tz n g) G = .ok (.bl (sameT n f g)) G := by
  show ofB (zeq 40 G (tz n f) (tz n g)) G = _
  have e : zeq 40 G (tz n f) (tz n g) = some (sameT n f g) := by
    show zall (zeq 39 G) ((List.range n).map fun i => row n (f i)) ((List.range n).map fun i => row n (g i)) = _
    refine zall_map (fun i => ?_) _
    show zall (zeq 38 G) ((List.range n).map fun j => gz (f i j)) ((List.range n).map fun j => gz (g i j)) = _
    refine zall_map (fun j => ?_) _
    show some (gr (f i j) == gr (g i j)) = _
    rw [gr_inj]
  rw [e]; rfl
theorem ne_tz {n : Nat} {f g : Nat → Nat → Fin 5} {G : GH} : zCmp .NotEq (tz n f) (tz n g) G = .ok (.bl (!(sameT n f g))) G := by
  show ofB ((zeq 40 G (tz n f) (tz n g)).map (!·)) G = _
  have e := eq_tz (n := n) (f := f) (g := g) (G := G)
  have e' : ofB (zeq 40 G (tz n f) (tz n g)) G = .ok (.bl (sameT n f g)) G := e
  cases h : zeq 40 G (tz n f) (tz n g) with
  | none => rw [h] at e'; cases e'
  | some b => rw [h] at e'; cases e'; rfl
theorem same_refl {n : Nat} {f : Nat → Nat → Fin 5} : sameT n f f = true := by unfold sameT; simp
theorem same_of {n : Nat} {f g : Nat → Nat → Fin 5} (h : ∀ i j, i < n → j < n → f i j = g i j) : sameT n f g = true := by
  unfold sameT
  simp only [List.all_eq_true, List.mem_range, beq_iff_eq]
  exact fun i hi j hj => h i j hi hj
theorem idem_in_r (d : Nat) {n : Nat} (hn : n ≤ 100) {f : Nat → Nat → Fin 5} {G : GH} : (rt (d + 3)).cf 10 [tz n f] G = .ok (.bl (sameT n (mul n f f) f)) (G ++ eT d n f f G) := by
  show (C (d + 5)).cf 10 [tz n f] G = _
  rw [show d + 5 = (d + 2) + 3 from rfl, cfS (d + 2) 10 f_10 s_10 1 1 rfl rfl rfl rfl rfl sh_10 rfl]
  show (s_10 (rt (d + 2)) [some (tz n f)] G).fin = _
  have e := times_r d n f f G hn
  unfold s_10
  simp [dv0_tz, e, eq_tz]
theorem idem_r (d : Nat) {n : Nat} (h1 : 1 ≤ n) (h8 : n ≤ 8) {f : Nat → Nat → Fin 5} {G : GH} : (rt (d + 5)).cf 11 [tz n f] G = .ok (.bl (sameT n (mul n f f) f)) (G ++ (eA d (tz n f) G ++ eT (d + 1) n f f (G ++ eA d (tz n f) G))) := by
  show (C (d + 7)).cf 11 [tz n f] G = _
  rw [show d + 7 = (d + 4) + 3 from rfl, cfS (d + 4) 11 f_11 s_11 1 1 rfl rfl rfl rfl rfl sh_11 rfl]
  show (s_11 (rt (d + 4)) [some (tz n f)] G).fin = _
  have e := any_r d (G := G) (kz_tz (s := 0) (n := n) (f := f)) (sz_tz (by omega)) (any_tz h1 h8)
  have e2 := idem_in_r (d + 1) (n := n) (by omega) (f := f) (G := G ++ eA d (tz n f) G)
  unfold s_11
  simp [dv0_tz, e, e2]
theorem idem_bad (d : Nat) {s : Nat} {G : GH} {v : Z} (hk : Kz s G v) (hs : Sz v) (h : anyTb v = false) : ∃ E, (rt (d + 5)).cf 11 [v] G = .exc ⟨.own 1, none⟩ (G ++ E) := by
  show ∃ E, (C (d + 7)).cf 11 [v] G = _
  rw [show d + 7 = (d + 4) + 3 from rfl, cfS (d + 4) 11 f_11 s_11 1 1 rfl rfl rfl rfl rfl sh_11 rfl]
  show ∃ E, (s_11 (rt (d + 4)) [some v] G).fin = _
  obtain ⟨E, e⟩ := any_bad d hk hs h
  have e0 : ∀ G', dVar 0 [some v] G' = .ok v G' := fun G' => dVar_of rfl (nx_ne hk.nx)
  refine ⟨E, ?_⟩
  unfold s_11
  simp [e0, e]
end K
end
section
set_option Elab.async false
set_option linter.all false
set_option maxRecDepth 100000
set_option maxHeartbeats 4000000
namespace K
open PySem PySem.Spec PyProof.Rows L2 Zy
/-! ### the law of products -/
theorem bt_comm : ∀ a b, bt a b = bt b a := by decide
theorem bt_assoc : ∀ a b c, bt (bt a b) c = bt a (bt b c) := by decide
theorem jt_assoc : ∀ a b c, jt (jt a b) c = jt a (jt b c) := by decide
theorem jt_bt_l : ∀ a b c, jt (bt a b) c = bt (jt a c) (jt b c) := by decide
theorem jt_bt_r : ∀ a b c, jt c (bt a b) = bt (jt c a) (jt c b) := by decide
def sm (l : List Nat) (F : Nat → Fin 5) : Fin 5 := l.foldl (fun a k => bt a (F k)) 4
theorem sm_init (F : Nat → Fin 5) : ∀ (l : List Nat) (a : Fin 5), l.foldl (fun a k => bt a (F k)) a = bt a (sm l F)
  | [], a => (bt4r a).symm
  | k :: l, a => by
    unfold sm
    rw [List.foldl_cons, List.foldl_cons, sm_init F l, sm_init F l, bt4l, bt_assoc]
theorem sm_cons (F : Nat → Fin 5) (k : Nat) (l : List Nat) : sm (k :: l) F = bt (F k) (sm l F) := by
  show List.foldl _ _ _ = _
  rw [List.foldl_cons, sm_init, bt4l]
theorem sm_l (F : Nat → Fin 5) (y : Fin 5) : ∀ l, jt (sm l F) y = sm l fun k => jt (F k) y
  | [] => jt4l y
  | k :: l => by rw [sm_cons, sm_cons, jt_bt_l, sm_l F y l]
theorem sm_r (F : Nat → Fin 5) (y : Fin 5) : ∀ l, jt y (sm l F) = sm l fun k => jt y (F k)
  | [] => jt4r y
  | k :: l => by rw [sm_cons, sm_cons, jt_bt_r, sm_r F y l]
theorem sm_add (F H : Nat → Fin 5) : ∀ l, sm l (fun k => bt (F k) (H k)) = bt (sm l F) (sm l H)
  | [] => rfl
  | k :: l => by
    rw [sm_cons, sm_cons, sm_cons, sm_add F H l, bt_assoc, bt_assoc]
    congr 1
    rw [← bt_assoc, bt_comm (H k), bt_assoc]
theorem sm_nil (l : List Nat) : sm l (fun _ => 4) = 4 := by
  induction l with
  | nil => rfl
  | cons k l ih => rw [sm_cons, ih]; rfl
theorem sm_swap (F : Nat → Nat → Fin 5) (m : List Nat) : ∀ l, sm l (fun k => sm m (F k)) = sm m fun t => sm l fun k => F k t
  | [] => (sm_nil m).symm
  | k :: l => by
    rw [sm_cons, sm_swap F m l, ← sm_add]
    congr 1
    funext t
    rw [sm_cons]
theorem mul_sm (n : Nat) (f g : Nat → Nat → Fin 5) (i j : Nat) : mul n f g i j = sm (List.range n) fun k => jt (f i k) (g k j) := rfl
theorem mul_assoc (n : Nat) (f g h : Nat → Nat → Fin 5) : mul n (mul n f g) h = mul n f (mul n g h) := by
  funext i j
  rw [mul_sm, mul_sm]
  have e1 : (fun k => jt (mul n f g i k) (h k j)) = fun k => sm (List.range n) fun t => jt (jt (f i t) (g t k)) (h k j) := by
    funext k; rw [mul_sm, sm_l]
  have e2 : (fun t => jt (f i t) (mul n g h t j)) = fun t => sm (List.range n) fun k => jt (f i t) (jt (g t k) (h k j)) := by
    funext t; rw [mul_sm, sm_r]
  rw [e1, e2, sm_swap]
  congr 1
  funext t
  congr 1
  funext k
  rw [jt_assoc]
/-! ### product -/
def pdB (r : Rt) : DS := (dSeq (dExp (dCall r.cf 6 (dCons (dFn (on1 zLen) (dCons (dVar 0) dNil)) (dCons (dVar 3) dNil)))) (dSeq (dAsg (dgName 2) (dCall r.cf 8 (dCons (dVar 2) (dCons (dVar 3) dNil)))) dNop))
theorem pdB_ok (d : Nat) {n : Nat} (hn : n ≤ 100) {f g h : Nat → Nat → Fin 5} {a1 : Option Z} {G : GH} : ∃ E, pdB (rt (d + 4)) [some (tz n f), a1, some (tz n g), some (tz n h)] G = .nx [some (tz n f), a1, some (tz n (mul n g h)), some (tz n h)] (G ++ E) := by
  have e1 := req_ok (d + 1) (G := G) (kz_tz (s := 0) (n := n) (f := h)) (sz_tz hn) isTb_tz
  have e2 := times_r (d + 2) n g h (G ++ eI (d + 1) n (tz n h) G) hn
  refine ⟨eI (d + 1) n (tz n h) G ++ eT (d + 2) n g h (G ++ eI (d + 1) n (tz n h) G), ?_⟩
  unfold pdB
  have v3 : ∀ G', dVar 3 [some (tz n f), a1, some (tz n g), some (tz n h)] G' = .ok (tz n h) G' := fun G' => dVar_of rfl tz_ex
  have v2 : ∀ G', dVar 2 [some (tz n f), a1, some (tz n g), some (tz n h)] G' = .ok (tz n g) G' := fun G' => dVar_of rfl tz_ex
  simp [dv0_tz, v2, v3, len_tz, e1, e2]
theorem pdB_bad (d : Nat) {s n : Nat} {f g : Nat → Nat → Fin 5} {v : Z} {a1 : Option Z} {G : GH} (hk : Kz s G v) (hs : Sz v) (hv : isTb n v = false) : ∃ E l, pdB (rt (d + 4)) [some (tz n f), a1, some (tz n g), some v] G = .exc ⟨.own 1, none⟩ l (G ++ E) := by
  have e1 := req_bad (d + 1) hk hs hv
  refine ⟨eI (d + 1) n v G, [some (tz n f), a1, some (tz n g), some v], ?_⟩
  unfold pdB
  have v3 : ∀ G', dVar 3 [some (tz n f), a1, some (tz n g), some v] G' = .ok v G' := fun G' => dVar_of rfl (nx_ne hk.nx)
  simp [dv0_tz, v3, len_tz, e1]
theorem prod_ex (d : Nat) {n : Nat} (h1 : 1 ≤ n) (h8 : n ≤ 8) {f : Nat → Nat → Fin 5} {G : GH} (gs : List (Nat → Nat → Fin 5)) (hl : gs.length ≤ 50) : ∃ E, (rt (d + 5)).cf 9 (tz n f :: gs.map (tz n)) G = .ok (tz n (gs.foldl (mul n) f)) (G ++ E) := by
  show ∃ E, (C (d + 7)).cf 9 (tz n f :: gs.map (tz n)) G = _
  rw [show d + 7 = (d + 4) + 3 from rfl, cfV (d + 4) 9 f_9 s_9 4 1 rfl rfl rfl rfl rfl sh_9 (by simp) (by simp; exact small _ (by omega))]
  show ∃ E, (s_9 (rt (d + 4)) [some (tz n f), some (.tup (gs.map (tz n))), none, none] G).fin = _
  have e := any_r d (G := G) (kz_tz (s := 0) (n := n) (f := f)) (sz_tz (by omega)) (any_tz h1 h8)
  obtain ⟨l', G', h2, ⟨x3, rfl⟩, E, rfl⟩ := for_pure (g := dgName 3) (body := pdB (rt (d + 4))) (gs.map (tz n)) (fun k l G' => (∃ x3, l = [some (tz n f), some (.tup (gs.map (tz n))), some (tz n ((gs.take k).foldl (mul n) f)), x3]) ∧ ∃ E, G' = G ++ E)
    (l := [some (tz n f), some (.tup (gs.map (tz n))), some (tz n f), none]) (G := G ++ eA d (tz n f) G) ⟨⟨_, rfl⟩, _, rfl⟩ (fun k z l G' hz ⟨⟨x3, hl2⟩, E, hG⟩ => by
      subst hl2 hG
      rw [List.getElem?_map] at hz
      obtain ⟨h, hh, rfl⟩ := Option.map_eq_some_iff.mp hz
      obtain ⟨E2, e2⟩ := pdB_ok d (n := n) (by omega) (f := f) (g := (gs.take k).foldl (mul n) f) (h := h) (a1 := some (.tup (gs.map (tz n)))) (G := G ++ E)
      refine ⟨[some (tz n f), some (.tup (gs.map (tz n))), some (tz n ((gs.take k).foldl (mul n) f)), some (tz n h)], _, _, _, rfl, .inl e2, ⟨some (tz n h), ?_⟩, E ++ E2, by rw [List.append_assoc]⟩
      rw [foldl_take (mul n) f gs k h hh])
  rw [List.length_map, List.take_length] at h2
  refine ⟨E, ?_⟩
  have sh : s_9 (rt (d + 4)) = (dSeq (dExp (dCall (rt (d + 4)).cf 7 (dCons (dVar 0) dNil))) (dSeq (dAsg (dgName 2) (dVar 0)) (dSeq (dFor (dIter (dVar 1)) (dgName 3) (pdB (rt (d + 4)))) (dSeq (dRet (dVar 2)) dNop)))) := rfl
  rw [sh, dSeq_ap, dExp_ap, dCall_ap, dCons_ap, dv0_tz]
  simp only [R.bind_ok, dNil_ap, e, R.st_ok, seq_nx, dSeq_ap, dAsg_ap, dv0_tz, dgName_ap, tgt_nx]
  rw [show ([some (tz n f), some (Z.tup (gs.map (tz n))), none, none] : L).set 2 (some (tz n f)) = [some (tz n f), some (.tup (gs.map (tz n))), some (tz n f), none] from rfl, dFor_ap, dIter_ap, dVar_tup rfl]
  simp only [R.bind_ok, toItr_tup, R.st_ok, Wk.len, List.length_map]
  rw [h2, seq_nx, dSeq_ap, dRet_ap, dVar_of (z := tz n (gs.foldl (mul n) f)) rfl tz_ex]
  rfl
theorem prod_bad (d : Nat) {s n : Nat} (h1 : 1 ≤ n) (h8 : n ≤ 8) {f : Nat → Nat → Fin 5} {v : Z} {G : GH} (hk : Kz s G v) (hs : Sz v) (hv : isTb n v = false) :
    (∃ E, (rt (d + 5)).cf 9 [tz n f, v] G = .exc ⟨.own 1, none⟩ (G ++ E)) ∧ ∃ E, (rt (d + 5)).cf 9 [tz n f, tz n f, v] G = .exc ⟨.own 1, none⟩ (G ++ E) := by
  have e := any_r d (G := G) (kz_tz (s := 0) (n := n) (f := f)) (sz_tz (by omega)) (any_tz h1 h8)
  have sh : s_9 (rt (d + 4)) = (dSeq (dExp (dCall (rt (d + 4)).cf 7 (dCons (dVar 0) dNil))) (dSeq (dAsg (dgName 2) (dVar 0)) (dSeq (dFor (dIter (dVar 1)) (dgName 3) (pdB (rt (d + 4)))) (dSeq (dRet (dVar 2)) dNop)))) := rfl
  constructor
  · show ∃ E, (C (d + 7)).cf 9 [tz n f, v] G = _
    rw [show d + 7 = (d + 4) + 3 from rfl, cfV (d + 4) 9 f_9 s_9 4 1 rfl rfl rfl rfl rfl sh_9 (by simp) (small _ (by simp))]
    show ∃ E, (s_9 (rt (d + 4)) [some (tz n f), some (.tup [v]), none, none] G).fin = _
    obtain ⟨E, l, eb⟩ := pdB_bad d (f := f) (g := f) (a1 := some (.tup [v])) (hk.app (E := eA d (tz n f) G)) hs hv
    refine ⟨eA d (tz n f) G ++ E, ?_⟩
    rw [sh, dSeq_ap, dExp_ap, dCall_ap, dCons_ap, dv0_tz]
    simp only [R.bind_ok, dNil_ap, e, R.st_ok, seq_nx, dSeq_ap, dAsg_ap, dv0_tz, dgName_ap, tgt_nx]
    rw [show ([some (tz n f), some (Z.tup [v]), none, none] : L).set 2 (some (tz n f)) = [some (tz n f), some (.tup [v]), some (tz n f), none] from rfl, dFor_ap, dIter_ap, dVar_tup rfl]
    simp only [R.bind_ok, toItr_tup, R.st_ok, Wk.len, List.length_cons, List.length_nil]
    have st : forLoop (.pure [v]) (dgName 3) (pdB (rt (d + 4))) 1 0 [some (tz n f), some (.tup [v]), some (tz n f), none] (G ++ eA d (tz n f) G) = pdB (rt (d + 4)) [some (tz n f), some (.tup [v]), some (tz n f), some v] (G ++ eA d (tz n f) G) := by
      rw [forLoop]
      simp only [show itNext (.pure [v]) (G ++ eA d (tz n f) G) 0 = some (some v) from rfl, dgName_ap]
      rw [show ([some (tz n f), some (Z.tup [v]), some (tz n f), none] : L).set 3 (some v) = [some (tz n f), some (.tup [v]), some (tz n f), some v] from rfl, eb]
    rw [st, eb, List.append_assoc]
    rfl
  · show ∃ E, (C (d + 7)).cf 9 [tz n f, tz n f, v] G = _
    rw [show d + 7 = (d + 4) + 3 from rfl, cfV (d + 4) 9 f_9 s_9 4 1 rfl rfl rfl rfl rfl sh_9 (by simp) (small _ (by simp))]
    show ∃ E, (s_9 (rt (d + 4)) [some (tz n f), some (.tup [tz n f, v]), none, none] G).fin = _
    obtain ⟨E1, e1⟩ := pdB_ok d (n := n) (by omega) (f := f) (g := f) (h := f) (a1 := some (.tup [tz n f, v])) (G := G ++ eA d (tz n f) G)
    obtain ⟨E, l, eb⟩ := pdB_bad d (f := f) (g := mul n f f) (a1 := some (.tup [tz n f, v])) ((hk.app (E := eA d (tz n f) G)).app (E := E1)) hs hv
    refine ⟨eA d (tz n f) G ++ E1 ++ E, ?_⟩
    rw [sh, dSeq_ap, dExp_ap, dCall_ap, dCons_ap, dv0_tz]
    simp only [R.bind_ok, dNil_ap, e, R.st_ok, seq_nx, dSeq_ap, dAsg_ap, dv0_tz, dgName_ap, tgt_nx]
    rw [show ([some (tz n f), some (Z.tup [tz n f, v]), none, none] : L).set 2 (some (tz n f)) = [some (tz n f), some (.tup [tz n f, v]), some (tz n f), none] from rfl, dFor_ap, dIter_ap, dVar_tup rfl]
    simp only [R.bind_ok, toItr_tup, R.st_ok, Wk.len, List.length_cons, List.length_nil]
    have st : forLoop (.pure [tz n f, v]) (dgName 3) (pdB (rt (d + 4))) 2 0 [some (tz n f), some (.tup [tz n f, v]), some (tz n f), none] (G ++ eA d (tz n f) G) = pdB (rt (d + 4)) [some (tz n f), some (.tup [tz n f, v]), some (tz n (mul n f f)), some v] (G ++ eA d (tz n f) G ++ E1) := by
      rw [forLoop]
      simp only [show itNext (.pure [tz n f, v]) (G ++ eA d (tz n f) G) 0 = some (some (tz n f)) from rfl, dgName_ap]
      rw [show ([some (tz n f), some (Z.tup [tz n f, v]), some (tz n f), none] : L).set 3 (some (tz n f)) = [some (tz n f), some (.tup [tz n f, v]), some (tz n f), some (tz n f)] from rfl, e1]
      simp only
      rw [forLoop]
      simp only [show itNext (.pure [tz n f, v]) (G ++ eA d (tz n f) G ++ E1) (0 + 1) = some (some v) from rfl, dgName_ap]
      rw [show ([some (tz n f), some (Z.tup [tz n f, v]), some (tz n (mul n f f)), some (tz n f)] : L).set 3 (some v) = [some (tz n f), some (.tup [tz n f, v]), some (tz n (mul n f f)), some v] from rfl, eb]
    rw [st, eb]
    show R.exc (⟨.own 1, none⟩ : XR) _ = R.exc (⟨.own 1, none⟩ : XR) _
    simp
theorem prod_none (d : Nat) {s : Nat} {v : Z} {G : GH} (hk : Kz s G v) (hs : Sz v) (hv : anyTb v = false) : ∃ E, (rt (d + 5)).cf 9 [v] G = .exc ⟨.own 1, none⟩ (G ++ E) := by
  obtain ⟨E, e⟩ := any_bad d hk hs hv
  show ∃ E, (C (d + 7)).cf 9 [v] G = _
  rw [show d + 7 = (d + 4) + 3 from rfl, cfV (d + 4) 9 f_9 s_9 4 1 rfl rfl rfl rfl rfl sh_9 (by simp) (small _ (by simp))]
  show ∃ E, (s_9 (rt (d + 4)) [some v, some (.tup []), none, none] G).fin = _
  have e0 : ∀ G', dVar 0 [some v, some (.tup []), none, none] G' = .ok v G' := fun G' => dVar_of rfl (nx_ne hk.nx)
  refine ⟨E, ?_⟩
  unfold s_9
  simp [e0, e]
end K
end
section
set_option Elab.async false
set_option linter.all false
set_option maxRecDepth 100000
set_option maxHeartbeats 4000000
namespace K
open PySem PySem.Spec PyProof.Rows L2 Zy
/-! ### repr of tables -/
structure Nice (k B : Nat) (d : PyData) : Prop where
  sh : d.showable = true
  dp : d.depth ≤ k
  nd : d.hasDict = false
  ln : d.shown.length ≤ B
theorem gr_shown : ∀ i, (PyData.shown (.str ⟨(gr i).toArray⟩)).length ≤ 9 := by
  refine fin5 ?_ ?_ ?_ ?_ ?_ <;> decide +kernel
theorem nice_gr (i : Fin 5) : Nice 1 9 (.str ⟨(gr i).toArray⟩) := ⟨rfl, by simp [PyData.depth], rfl, gr_shown i⟩
theorem all_nice {k B : Nat} : ∀ {xs : List PyData}, (∀ x ∈ xs, Nice k B x) → PyData.showableAll xs = true ∧ PyData.depthAll xs ≤ k ∧ PyData.hasDictAll xs = false ∧ (∀ t ∈ PyData.shownAll xs, t.length ≤ B) ∧ (PyData.shownAll xs).length = xs.length
  | [], h => ⟨rfl, Nat.zero_le _, rfl, fun t ht => (by cases ht), rfl⟩
  | x :: xs, h => by
    obtain ⟨a1, a2, a3, a4, a5⟩ := all_nice (xs := xs) fun y hy => h y (List.mem_cons_of_mem _ hy)
    have hx := h x (List.mem_cons_self ..)
    have := hx.dp
    refine ⟨by simp [PyData.showableAll, hx.sh, a1], by simp [PyData.depthAll]; omega, by simp [PyData.hasDictAll, hx.nd, a3], fun t ht => ?_, by simp [PyData.shownAll, a5]⟩
    unfold PyData.shownAll at ht
    rcases List.mem_cons.mp ht with rfl | ht
    · exact hx.ln
    · exact a4 t ht
theorem piled_le {B : Nat} : ∀ {ts : List Str}, (∀ t ∈ ts, t.length ≤ B) → piled ts ≤ ts.length * (B + 2)
  | [], h => by simp [piled]
  | t :: ts, h => by
    have h1 := h t (List.mem_cons_self ..)
    have h2 := piled_le (ts := ts) fun y hy => h y (List.mem_cons_of_mem _ hy)
    rw [piled_cons, List.length_cons, Nat.add_mul, Nat.one_mul]
    omega
theorem from_le : ∀ (ts : List Str) (k : Nat) (acc : Str), (textFrom k acc ts).length ≤ acc.length + piled ts
  | [], k, acc => by simp [textFrom, piled]
  | t :: ts, k, acc => by
    have h := from_le ts (k + 1) (acc ++ (if k > 0 then ", " else "" : String) ++ t)
    unfold textFrom
    refine Nat.le_trans h ?_
    rw [strLen_append, strLen_append, piled_cons]
    by_cases hk : k > 0
    · rw [if_pos hk]
      have : ((", " : String) : Str).length = 2 := rfl
      omega
    · rw [if_neg hk]
      have : (("" : String) : Str).length = 0 := rfl
      omega
theorem list_len {B m : Nat} {ts : List Str} (h : ∀ t ∈ ts, t.length ≤ B) (hl : ts.length ≤ m) : (listText ts).length ≤ 2 + m * (B + 2) := by
  have h1 := from_le ts 0 "["
  have h2 := piled_le h
  have h3 : ts.length * (B + 2) ≤ m * (B + 2) := Nat.mul_le_mul_right _ hl
  unfold listText
  rw [strLen_append]
  have e1 : (("[" : String) : Str).length = 1 := rfl
  have e2 : (("]" : String) : Str).length = 1 := rfl
  omega
theorem tup_len {B m : Nat} {ts : List Str} (h : ∀ t ∈ ts, t.length ≤ B) (hl : ts.length ≤ m) : (tupleText ts).length ≤ 3 + m * (B + 2) := by
  have h2 := piled_le h
  have h3 : ts.length * (B + 2) ≤ m * (B + 2) := Nat.mul_le_mul_right _ hl
  unfold tupleText
  rw [strLen_append, strLen_append]
  have e1 : (("(" : String) : Str).length = 1 := rfl
  have e2 : ((if ts.length == 1 then ",)" else ")" : String) : Str).length ≤ 2 := by
    by_cases hq : (ts.length == 1) = true
    · rw [if_pos hq]; exact Nat.le_refl 2
    · rw [if_neg hq]; exact (show 1 ≤ 2 by decide)
  by_cases hn : ts = []
  · subst hn
    have : (Str.join (", " : String) []).length = 0 := rfl
    omega
  · have := join_length_add ts hn
    omega
theorem nice_tup {k B m : Nat} {xs : List PyData} (h : ∀ x ∈ xs, Nice k B x) (hl : xs.length ≤ m) : Nice (k + 1) (3 + m * (B + 2)) (.tuple xs) := by
  obtain ⟨a1, a2, a3, a4, a5⟩ := all_nice h
  refine ⟨by simpa [PyData.showable] using a1, by simp [PyData.depth]; omega, by simpa [PyData.hasDict] using a3, ?_⟩
  show (PyData.shown (.tuple xs)).length ≤ _
  unfold PyData.shown
  exact tup_len a4 (by rw [a5]; exact hl)
theorem nice_list {k B m : Nat} {xs : List PyData} (h : ∀ x ∈ xs, Nice k B x) (hl : xs.length ≤ m) : Nice (k + 1) (2 + m * (B + 2)) (.list xs) := by
  obtain ⟨a1, a2, a3, a4, a5⟩ := all_nice h
  refine ⟨by simpa [PyData.showable] using a1, by simp [PyData.depth]; omega, by simpa [PyData.hasDict] using a3, ?_⟩
  show (PyData.shown (.list xs)).length ≤ _
  unfold PyData.shown
  exact list_len a4 (by rw [a5]; exact hl)
theorem nice_ok {k B : Nat} {d : PyData} (h : Nice k B d) (hk : k ≤ 20) (hB : B ≤ 16777216) : okD d = true := by
  unfold okD
  have := h.dp
  have := h.ln
  rw [h.sh, h.nd]
  simp only [Bool.true_and, Bool.not_false, Bool.true_or, Bool.and_true, Bool.and_eq_true, decide_eq_true_eq]
  exact ⟨by omega, by rw [sizeLine_eq]; omega⟩
theorem pdAll_map {f : Z → Option PyData} {p : Nat → Z} {q : Nat → PyData} (h : ∀ i, f (p i) = some (q i)) : ∀ l : List Nat, pdAll f (l.map p) = some (l.map q)
  | [] => rfl
  | i :: l => by
    rw [List.map_cons, List.map_cons]
    unfold pdAll
    rw [h i, pdAll_map h l]
def rowD (n : Nat) (f : Nat → Fin 5) : PyData := .tuple ((List.range n).map fun j => .str ⟨(gr (f j)).toArray⟩)
def tzD (n : Nat) (f : Nat → Nat → Fin 5) : PyData := .tuple ((List.range n).map fun i => rowD n (f i))
theorem pd_tz {k n : Nat} {f : Nat → Nat → Fin 5} {G : GH} : pd (k + 3) G (tz n f) = some (tzD n f) := by
  show (pdAll (pd (k + 2) G) ((List.range n).map fun i => row n (f i))).map PyData.tuple = _
  rw [pdAll_map (q := fun i => rowD n (f i)) fun i => ?_]
  · rfl
  · show (pdAll (pd (k + 1) G) ((List.range n).map fun j => gz (f i j))).map PyData.tuple = _
    rw [pdAll_map (q := fun j => .str ⟨(gr (f i j)).toArray⟩) fun j => rfl]
    rfl
theorem nice_tz {n : Nat} (h8 : n ≤ 8) {f : Nat → Nat → Fin 5} : Nice 3 747 (tzD n f) :=
  nice_tup (k := 2) (B := 91) (m := 8) (fun x hx => by
    obtain ⟨i, _, rfl⟩ := List.mem_map.mp hx
    exact nice_tup (k := 1) (B := 9) (m := 8) (fun x hx => by
      obtain ⟨j, _, rfl⟩ := List.mem_map.mp hx
      exact nice_gr _) (by simpa using h8)) (by simpa using h8)
theorem pdAll_tz {k n : Nat} {G : GH} : ∀ fs : List (Nat → Nat → Fin 5), pdAll (pd (k + 3) G) (fs.map (tz n)) = some (fs.map (tzD n))
  | [] => rfl
  | f :: fs => by
    rw [List.map_cons, List.map_cons]
    unfold pdAll
    rw [pd_tz, pdAll_tz fs]
/-- repr of a list of tables -/
theorem repr_tabs {n m : Nat} (h8 : n ≤ 8) {fs : List (Nat → Nat → Fin 5)} (hf : fs.length ≤ 20) : ∃ R, ∀ G, lstAt G m = some (fs.map (tz n)) → zRepr (.ref m) G = .ok (.str R) G := by
  refine ⟨(PyData.shown (.list (fs.map (tzD n)))).cps.toList, fun G h => ?_⟩
  have e : pd 20 G (.ref m) = some (.list (fs.map (tzD n))) := by
    show (match (lstAt G m).map Kd.lst with | some k => pdK (pd 19 G) G k | none => pdD (pd 19 G) G (.ref m)) = _
    rw [h]
    show (pdAll (pd 19 G) (fs.map (tz n))).map PyData.list = _
    rw [pdAll_tz (k := 16)]; rfl
  have ok := nice_ok (nice_list (k := 3) (B := 747) (m := 20) (xs := fs.map (tzD n)) (fun x hx => by
    obtain ⟨f, _, rfl⟩ := List.mem_map.mp hx
    exact nice_tz h8) (by simpa using hf)) (by decide) (by decide)
  unfold zRepr
  rw [e]
  simp only [ok, if_true]
def rb (b : Bool) : List Nat := if b then [84, 114, 117, 101] else [70, 97, 108, 115, 101]
theorem repr_bl {b : Bool} {G : GH} : zRepr (.bl b) G = .ok (.str (rb b)) G := by
  unfold zRepr
  have e : pd 20 G (.bl b) = some (.bool b) := rfl
  rw [e]
  cases b
  · have ok : okD (.bool false) = true := by decide +kernel
    simp only [ok, if_true]; rfl
  · have ok : okD (.bool true) = true := by decide +kernel
    simp only [ok, if_true]; rfl
theorem rb_eq (b : Bool) : (!(rb b == rb b)) = false := by simp
end K
end
section
set_option Elab.async false
set_option linter.all false
set_option maxRecDepth 100000
set_option maxHeartbeats 4000000
namespace K
open PySem PySem.Spec PyProof.Rows L2 Zy
theorem drawR (d : Nat) {G : GH} {s : Nat} {tot : Int} (h : StrAt G s) (ht : 0 < tot) (hb : tot < 1073741824) : ∃ x G', (rt (d + 1)).cf 15 [.ref s, .int tot] G = .ok (.int x) G' ∧ Keep s G G' ∧ 0 ≤ x ∧ x < tot := by
  obtain ⟨x, G', h1, h2⟩ := draw_keep h ht hb
  refine ⟨x, G', ?_, h2⟩
  show (C (d + 3)).cf 15 [.ref s, .int tot] G = _
  rw [cfS d 15 f_15 s_15 5 2 rfl rfl rfl rfl rfl sh_15 rfl]
  exact h1
theorem lst_ne {G : GH} {m n : Nat} {y : ZO} {xs : List Z} (h : lstAt G n = some xs) (hne : m ≠ n) : lstAt (G.set m y) n = some xs := by
  refine lstAt_eq.mpr ?_
  rw [List.getElem?_set_ne hne]; exact lstAt_eq.mp h
theorem ixl {G : GH} {n : Nat} {xs : List Z} {x : Int} (h : lstAt G n = some xs) (h0 : 0 ≤ x) (h1 : x < (xs.length : Int)) : ∃ v, zIx (.ref n) (.int x) G = .ok v G ∧ v ∈ xs := by
  obtain ⟨k, rfl⟩ : ∃ k : Nat, x = k := ⟨x.toNat, by omega⟩
  have hk : k < xs.length := by omega
  refine ⟨xs[k], ?_, List.getElem_mem hk⟩
  show (match (lstAt G n).bind fun xs => atI xs k with | some z => R.ok z G | none => .bad) = _
  have : atI xs (k : Int) = some xs[k] := by
    unfold atI ixN
    simp [hk]
  rw [h, Option.bind_some, this]
/-! ### a drawn table -/
def stI (r : Rt) : DS := (dSeq (dExp (dMth zAppend ["list"] (dVar 5) (dCons (dIx (dVar 2) (dCall r.cf 15 (dCons (dVar 0) (dCons (dC (.int (5))) dNil)))) dNil))) dNop)
structure St5 (s n sg rw_ : Nat) (G0 G : GH) (Sg Rw : List Z) : Prop where
  kp : Keep s G0 G
  str : StrAt G s
  sg : lstAt G sg = some Sg
  rw_ : lstAt G rw_ = some Rw
/-- one more sign -/
theorem stI_ok (d : Nat) {s n sg r2 r5 : Nat} {G0 G : GH} {Sg Rw r : List Z} {a1 a4 a6 : Option Z} (h : St5 s n sg r2 G0 G Sg Rw) (hr : lstAt G r5 = some r) (hS : Sg.length = 5) (gS : Sg.all isGz = true) (h1 : sg ≠ s) (h2 : r2 ≠ s) (h5 : r5 ≠ s) (n1 : r5 ≠ sg) (n2 : r5 ≠ r2) (old : G0.length ≤ r5) (hl : r.length < 1000) :
    ∃ G' g, stI (rt (d + 1)) [some (.ref s), a1, some (.ref sg), some (.ref r2), a4, some (.ref r5), a6] G = .nx [some (.ref s), a1, some (.ref sg), some (.ref r2), a4, some (.ref r5), a6] G' ∧ St5 s n sg r2 G0 G' Sg Rw ∧ lstAt G' r5 = some (r ++ [g]) ∧ isGz g = true := by
  obtain ⟨x, G1, e1, k1, x0, x5⟩ := drawR d (tot := 5) h.str (by decide) (by decide)
  have hsg := k1.lst h.sg h1
  have hr1 := k1.lst hr h5
  obtain ⟨v, hv, hm⟩ := ixl hsg x0 (by rw [hS]; exact x5)
  have gv := List.all_eq_true.mp gS v hm
  have rc := recv_ref hr
  have ap := app_ref (z := v) hr1 (by have := line1000; omega)
  refine ⟨G1.set r5 (.lst (r ++ [v])), v, ?_, ⟨(h.kp.trans k1).set old, ?_, lst_ne hsg n1, lst_ne (k1.lst h.rw_ h2) n2⟩, ?_, gv⟩
  · unfold stI
    simp only [dSeq_ap, dExp_ap, dMth_ap, dv_s, dv_0 nx_ref, R.bind_ok, rc, List.contains_cons, beq_self_eq_true, Bool.true_or, if_true, dCons_ap, dIx_ap, dCall_ap, dC_ap, dNil_ap, e1, hv, ap, R.st_ok, seq_nx, dNop_ap]
  · obtain ⟨a, b, c, q⟩ := k1.str h.str
    exact ⟨a, b, c, lst_ne q h5⟩
  · exact lstAt_set hr1
def stO (r : Rt) : DS := (dSeq (dAsg (dgName 5) (dLst dNil)) (dSeq (dFor (dRng1 (dCons (dVar 1) dNil)) (dgName 6) (stI r)) (dSeq (dExp (dMth zAppend ["list"] (dVar 3) (dCons (dFn (tyZ "tuple") (dCons (dVar 5) dNil)) dNil))) dNop)))
theorem stO_ok (d : Nat) {s n sg r2 : Nat} (hn : n ≤ 100) {G0 G : GH} {Sg Rw : List Z} {a4 a5 a6 : Option Z} (h : St5 s n sg r2 G0 G Sg Rw) (hS : Sg.length = 5) (gS : Sg.all isGz = true) (h1 : sg ≠ s) (h2 : r2 ≠ s) (n3 : r2 ≠ sg) (old : G0.length ≤ r2) (hl : Rw.length < 1000) :
    ∃ G' g b5 b6, stO (rt (d + 1)) [some (.ref s), some (.int (n : Nat)), some (.ref sg), some (.ref r2), a4, a5, a6] G = .nx [some (.ref s), some (.int (n : Nat)), some (.ref sg), some (.ref r2), a4, b5, b6] G' ∧ St5 s n sg r2 G0 G' Sg (Rw ++ [g]) ∧ isRow n g = true := by
  have lt1 : ∀ {m : Nat} {xs : List Z}, lstAt G m = some xs → m < G.length := fun h => (List.getElem?_eq_some_iff.mp (lstAt_eq.mp h)).1
  have ls := h.str.lt
  have l1 := lt1 h.sg
  have l2 := lt1 h.rw_
  have h0 : St5 s n sg r2 G0 (G ++ [.lst []]) Sg Rw := ⟨h.kp.trans Keep.app, h.str.app, lstAt_app h.sg, lstAt_app h.rw_⟩
  obtain ⟨l', G', e1, ⟨x6, rfl⟩, k1, r, k2, k3, k4⟩ := for_pure (g := dgName 6) (body := stI (rt (d + 1))) (rngZ 0 n)
    (fun k l G' => (∃ x6, l = [some (.ref s), some (.int (n : Nat)), some (.ref sg), some (.ref r2), a4, some (.ref G.length), x6]) ∧ St5 s n sg r2 G0 G' Sg Rw ∧ ∃ r, lstAt G' G.length = some r ∧ r.length = k ∧ r.all isGz = true)
    (l := [some (.ref s), some (.int (n : Nat)), some (.ref sg), some (.ref r2), a4, some (.ref G.length), a6]) (G := G ++ [.lst []]) ⟨⟨_, rfl⟩, h0, [], lstAt_new, rfl, rfl⟩ (fun k z l G' hz ⟨⟨x6, hl2⟩, k1, r, k2, k3, k4⟩ => by
      subst hl2
      have hk : k < n := by have := (List.getElem?_eq_some_iff.mp hz).1; rw [rng_len] at this; exact this
      have lG : G0.length ≤ G.length := h.kp.len
      obtain ⟨G2, g, e, q1, q2, q3⟩ := stI_ok d (r5 := G.length) (a1 := some (.int (n : Nat))) (a4 := a4) (a6 := some z) k1 k2 hS gS h1 h2 (by omega) (by omega) (by omega) lG (by omega)
      exact ⟨_, _, _, _, rfl, .inl e, ⟨_, rfl⟩, q1, _, q2, by simp [k3], by simp [k4, q3]⟩)
  rw [rng_len] at e1 k3
  have rc := recv_ref k1.rw_
  have tt := tup_ref k2
  have hl' : Rw.length < sizeLine := by have := line1000; omega
  have ap := app_ref (z := .tup r) k1.rw_ hl'
  refine ⟨G'.set r2 (.lst (Rw ++ [.tup r])), .tup r, some (.ref G.length), x6, ?_, ⟨k1.kp.set old, ?_, lst_ne k1.sg n3, lstAt_set k1.rw_⟩, by simp [isRow, k3, k4]⟩
  · unfold stO
    rw [dSeq_ap, dAsg_ap, dLst_ap, dNil_ap, R.bind_ok, if_pos (small _ (by simp)), newO_ap, R.st_ok, dgName_ap, tgt_nx, seq_nx, dSeq_ap]
    rw [show ([some (Z.ref s), some (Z.int (n : Nat)), some (Z.ref sg), some (Z.ref r2), a4, a5, a6] : L).set 5 (some (Z.ref G.length)) = [some (.ref s), some (.int (n : Nat)), some (.ref sg), some (.ref r2), a4, some (.ref G.length), a6] from rfl]
    rw [dFor_rng (n := n) (G1 := G ++ [.lst []]) rfl hn]
    refine (congrArg (fun s : Zy.S => s.seq _) e1).trans ?_
    simp only [seq_nx, dSeq_ap, dExp_ap, dMth_ap, dv_s, dv_0 nx_ref, R.bind_ok, rc, List.contains_cons, beq_self_eq_true, Bool.true_or, if_true, dCons_ap, dFn_ap, dNil_ap, tt, ap, R.st_ok, dNop_ap]
  · obtain ⟨a, b, c, q⟩ := k1.str
    exact ⟨a, b, c, lst_ne q h2⟩
theorem some_table_ok (d : Nat) {s n : Nat} (hn : n ≤ 100) {G : GH} (hs : StrAt G s) : ∃ f G', (rt (d + 2)).cf 21 [.ref s, .int (n : Nat)] G = .ok (tz n f) G' ∧ Keep s G G' := by
  show ∃ f G', (C (d + 4)).cf 21 [.ref s, .int (n : Nat)] G = _ ∧ _
  rw [show d + 4 = (d + 1) + 3 from rfl, cfS (d + 1) 21 f_21 s_21 7 2 rfl rfl rfl rfl rfl sh_21 rfl]
  show ∃ f G', (s_21 (rt (d + 1)) [some (.ref s), some (.int (n : Nat)), none, none, none, none, none] G).fin = .ok (tz n f) G' ∧ Keep s G G'
  have lt := hs.lt
  let S1 : List Z := [gz 0, gz 1, gz 2, gz 3, gz 4]
  let S2 : List Z := [gz 4, gz 4, gz 4, gz 1, gz 2]
  let S3 : List Z := [gz 2, gz 2, gz 1, gz 4, gz 0]
  let P : GH := G ++ [.lst S1, .lst S2, .lst S3, .lst [.ref G.length, .ref (G.length + 1), .ref (G.length + 2)]]
  have kP : Keep s G P := Keep.app
  have a0 : lstAt P G.length = some S1 := at_sh0
  have a1 : lstAt P (G.length + 1) = some S2 := at_sh
  have a2 : lstAt P (G.length + 2) = some S3 := at_sh
  have a3 : lstAt P (G.length + 3) = some [.ref G.length, .ref (G.length + 1), .ref (G.length + 2)] := at_sh
  obtain ⟨x, G1, e1, k1, x0, x3⟩ := drawR d (tot := 3) (kP.str hs) (by decide) (by decide)
  have hp := k1.lst a3 (by omega)
  obtain ⟨v, hv, hm⟩ := ixl hp x0 (by simpa using x3)
  obtain ⟨sg, Sg, rfl, hS, h5, gS, hsg⟩ : ∃ sg Sg, v = .ref sg ∧ lstAt G1 sg = some Sg ∧ Sg.length = 5 ∧ Sg.all isGz = true ∧ G.length ≤ sg ∧ sg ≤ G.length + 2 := by
    simp only [List.mem_cons, List.not_mem_nil, or_false] at hm
    rcases hm with rfl | rfl | rfl
    · exact ⟨_, S1, rfl, k1.lst a0 (by omega), rfl, by decide, by omega, by omega⟩
    · exact ⟨_, S2, rfl, k1.lst a1 (by omega), rfl, by decide, by omega, by omega⟩
    · exact ⟨_, S3, rfl, k1.lst a2 (by omega), rfl, by decide, by omega, by omega⟩
  have lG1 : G.length + 4 ≤ G1.length := by
    have := k1.len
    have : P.length = G.length + 4 := by simp [P]
    omega
  have h0 : St5 s n sg G1.length G (G1 ++ [.lst []]) Sg [] := ⟨(kP.trans k1).trans Keep.app, (k1.str (kP.str hs)).app, lstAt_app hS, lstAt_new⟩
  obtain ⟨l', G', e2, ⟨x4, x5, x6, rfl⟩, Rw, q1, q2, q3⟩ := for_pure (g := dgName 4) (body := stO (rt (d + 1))) (rngZ 0 n)
    (fun k l G' => (∃ x4 x5 x6, l = [some (.ref s), some (.int (n : Nat)), some (.ref sg), some (.ref G1.length), x4, x5, x6]) ∧ ∃ Rw, St5 s n sg G1.length G G' Sg Rw ∧ Rw.length = k ∧ Rw.all (isRow n) = true)
    (l := [some (.ref s), some (.int (n : Nat)), some (.ref sg), some (.ref G1.length), none, none, none]) (G := G1 ++ [.lst []]) ⟨⟨_, _, _, rfl⟩, [], h0, rfl, rfl⟩ (fun k z l G' hz ⟨⟨x4, x5, x6, hl2⟩, Rw, q1, q2, q3⟩ => by
      subst hl2
      have hk : k < n := by have := (List.getElem?_eq_some_iff.mp hz).1; rw [rng_len] at this; exact this
      obtain ⟨G2, g, b5, b6, e, q4, q5⟩ := stO_ok d hn (a4 := some z) (a5 := x5) (a6 := x6) q1 h5 gS (by omega) (by omega) (by omega) (by omega) (by omega)
      exact ⟨_, _, _, _, rfl, .inl e, ⟨_, _, _, rfl⟩, _, q4, by simp [q2], by simp [q3, q5]⟩)
  rw [rng_len] at e2 q2
  have ht : isTb n (.tup Rw) = true := by simp [isTb, q2, q3]
  obtain ⟨f, hf⟩ := isTb_of ht
  have tt := tup_ref q1.rw_
  rw [hf] at tt
  refine ⟨f, G', ?_, q1.kp⟩
  have l1 : ∀ n, n ≤ 50 → n ≤ sizeLine := fun n h => small n (by omega)
  have sh : s_21 (rt (d + 1)) = (dSeq (dAsg (dgName 2) (dIx (dLst (dCons (dLst (dCons (dC (.str [114, 101, 115, 116, 97, 114, 116])) (dCons (dC (.str [102, 114, 101, 101])) (dCons (dC (.str [112, 97, 105, 100])) (dCons (dC (.str [100, 101, 97, 114])) (dCons (dC (.str [110, 111, 110, 101])) dNil)))))) (dCons (dLst (dCons (dC (.str [110, 111, 110, 101])) (dCons (dC (.str [110, 111, 110, 101])) (dCons (dC (.str [110, 111, 110, 101])) (dCons (dC (.str [102, 114, 101, 101])) (dCons (dC (.str [112, 97, 105, 100])) dNil)))))) (dCons (dLst (dCons (dC (.str [112, 97, 105, 100])) (dCons (dC (.str [112, 97, 105, 100])) (dCons (dC (.str [102, 114, 101, 101])) (dCons (dC (.str [110, 111, 110, 101])) (dCons (dC (.str [114, 101, 115, 116, 97, 114, 116])) dNil)))))) dNil)))) (dCall (rt (d + 1)).cf 15 (dCons (dVar 0) (dCons (dC (.int (3))) dNil))))) (dSeq (dAsg (dgName 3) (dLst dNil)) (dSeq (dFor (dRng1 (dCons (dVar 1) dNil)) (dgName 4) (stO (rt (d + 1)))) (dSeq (dRet (dFn (tyZ "tuple") (dCons (dVar 3) dNil))) dNop)))) := rfl
  rw [sh]
  have ep : (dIx (dLst (dCons (dLst (dCons (dC (.str [114, 101, 115, 116, 97, 114, 116])) (dCons (dC (.str [102, 114, 101, 101])) (dCons (dC (.str [112, 97, 105, 100])) (dCons (dC (.str [100, 101, 97, 114])) (dCons (dC (.str [110, 111, 110, 101])) dNil)))))) (dCons (dLst (dCons (dC (.str [110, 111, 110, 101])) (dCons (dC (.str [110, 111, 110, 101])) (dCons (dC (.str [110, 111, 110, 101])) (dCons (dC (.str [102, 114, 101, 101])) (dCons (dC (.str [112, 97, 105, 100])) dNil)))))) (dCons (dLst (dCons (dC (.str [112, 97, 105, 100])) (dCons (dC (.str [112, 97, 105, 100])) (dCons (dC (.str [102, 114, 101, 101])) (dCons (dC (.str [110, 111, 110, 101])) (dCons (dC (.str [114, 101, 115, 116, 97, 114, 116])) dNil)))))) dNil)))) (dCall (rt (d + 1)).cf 15 (dCons (dVar 0) (dCons (dC (.int (3))) dNil)))) [some (.ref s), some (.int (n : Nat)), none, none, none, none, none] G = .ok (.ref sg) G1 := by
    have e1' : (rt (d + 1)).cf 15 [.ref s, .int 3] (G ++ [.lst S1, .lst S2, .lst S3, .lst [.ref G.length, .ref (G.length + 1), .ref (G.length + 2)]]) = .ok (.int x) G1 := e1
    simp [l1]
    refine (congrArg (fun r : R Z => r.bind _) e1').trans ?_
    exact hv
  rw [dSeq_ap, dAsg_ap, ep, R.st_ok, dgName_ap, tgt_nx, seq_nx, dSeq_ap, dAsg_ap, dLst_ap, dNil_ap, R.bind_ok, if_pos (small _ (by simp)), newO_ap, R.st_ok, dgName_ap, tgt_nx, seq_nx, dSeq_ap]
  rw [show (([some (Z.ref s), some (Z.int (n : Nat)), none, none, none, none, none] : L).set 2 (some (Z.ref sg))).set 3 (some (Z.ref G1.length)) = [some (.ref s), some (.int (n : Nat)), some (.ref sg), some (.ref G1.length), none, none, none] from rfl]
  rw [dFor_rng (n := n) (G1 := G1 ++ [.lst []]) rfl hn]
  refine (congrArg (fun s : Zy.S => (s.seq _).fin) e2).trans ?_
  simp only [seq_nx, dSeq_ap, dRet_ap, dFn_ap, dCons_ap, dNil_ap, dv_s, dv_0 nx_ref, R.bind_ok, tt, R.st_ok, seq_rt, fin_rt]
/-! ### _law_steady -/
theorem steady_ok (d : Nat) {n : Nat} (hn : n ≤ 100) {f : Nat → Nat → Fin 5} {G : GH} : ∃ v E, (rt (d + 3)).cf 22 [tz n f] G = .ok v (G ++ E) ∧ (v = .non ∨ ∃ g, v = tz n g) := by
  show ∃ v E, (C (d + 5)).cf 22 [tz n f] G = _ ∧ _
  rw [show d + 5 = (d + 2) + 3 from rfl, cfS (d + 2) 22 f_22 s_22 3 1 rfl rfl rfl rfl rfl sh_22 rfl]
  show ∃ v E, (s_22 (rt (d + 2)) [some (tz n f), none, none] G).fin = .ok v (G ++ E) ∧ _
  let body : DS := (dSeq (dIfS (uB (dCmp .Eq (dCall (rt (d + 2)).cf 18 (dCons (dVar 1) (dCons (dVar 1) dNil))) (dVar 1))) (dSeq (dRet (dVar 1)) dNop) dNop) (dSeq (dAsg (dgName 1) (dCall (rt (d + 2)).cf 18 (dCons (dVar 1) (dCons (dVar 0) dNil)))) dNop))
  have key := for_stop (g := dgName 2) (body := body) (rngZ 0 (40 : Nat)) (fun k l G' => (∃ g x, l = [some (tz n f), some (tz n g), x]) ∧ ∃ E, G' = G ++ E) (fun k r => ∃ g E, r = .rt (tz n g) (G ++ E)) (l := [some (tz n f), some (tz n f), none]) (G := G) ⟨⟨f, _, rfl⟩, [], (List.append_nil G).symm⟩
    (fun k z l G' hz ⟨⟨g, x, hl⟩, E, hG⟩ => by
      subst hl hG
      have e1 := ltimes_r d n g g (G ++ E) hn
      have e2 := ltimes_r d n g f (G ++ E ++ eL d n g g (G ++ E)) hn
      refine ⟨[some (tz n f), some (tz n g), some z], _, rfl, ?_⟩
      by_cases hb : sameT n (mul n g g) g = true
      · have e : body [some (tz n f), some (tz n g), some z] (G ++ E) = .rt (tz n g) (G ++ (E ++ eL d n g g (G ++ E))) := by
          show ((dIfS _ _ _) _ _).seq _ = _
          simp [dv1_tz, e1, eq_tz, hb]
        exact .inr ⟨by rw [e]; trivial, g, _, e⟩
      · have hb' : sameT n (mul n g g) g = false := by simpa using hb
        have e : body [some (tz n f), some (tz n g), some z] (G ++ E) = .nx [some (tz n f), some (tz n (mul n g f)), some z] (G ++ (E ++ (eL d n g g (G ++ E) ++ eL d n g f (G ++ E ++ eL d n g g (G ++ E))))) := by
          show ((dIfS _ _ _) _ _).seq _ = _
          simp only [List.append_assoc] at e2
          simp [dv1_tz, dv0_tz, e1, eq_tz, hb', e2]
        exact .inl ⟨_, _, .inl e, ⟨_, _, rfl⟩, _, rfl⟩)
  have sh : s_22 (rt (d + 2)) = (dSeq (dAsg (dgName 1) (dVar 0)) (dSeq (dFor (dRng1 (dCons (dC (.int (40))) dNil)) (dgName 2) body) (dSeq (dRet (dC (.non))) dNop))) := rfl
  rw [sh, dSeq_ap, dAsg_ap, dv0_tz, R.st_ok, dgName_ap, tgt_nx, seq_nx, dSeq_ap]
  rw [show ([some (tz n f), none, none] : L).set 1 (some (tz n f)) = [some (tz n f), some (tz n f), none] from rfl, dFor_rng (n := 40) (G1 := G) rfl (by decide)]
  rw [rng_len] at key
  rcases key with ⟨l', G', h1, ⟨g, x, rfl⟩, E, rfl⟩ | ⟨i, hi, hst, g, E, h1⟩
  · refine ⟨.non, E, ?_, .inl rfl⟩
    rw [h1]; rfl
  · refine ⟨tz n g, E, ?_, .inr ⟨g, rfl⟩⟩
    rw [h1]; rfl
end K
end
section
set_option Elab.async false
set_option linter.all false
set_option maxRecDepth 100000
set_option maxHeartbeats 4000000
namespace K
open PySem PySem.Spec PyProof.Rows L2 Zy
/-! ### what only lays new things aside -/
def Pu (l : L) (G0 : GH) (e : DE) (z : Z) : Prop := ∀ E, ∃ E', e l (G0 ++ E) = .ok z (G0 ++ E')
def PuA (l : L) (G0 : GH) (e : DA) (z : List Z) : Prop := ∀ E, ∃ E', e l (G0 ++ E) = .ok z (G0 ++ E')
def PuT (l : L) (G0 : GH) (e : DT) (b : Bool) : Prop := ∀ E, ∃ E', e l (G0 ++ E) = .ok b (G0 ++ E')
def PuS (l : L) (G0 : GH) (s : DS) (l' : L) : Prop := ∀ E, ∃ E', s l (G0 ++ E) = .nx l' (G0 ++ E')
section
variable {l l1 l2 : L} {G0 : GH} {a b : DE} {as : DA} {x y z : Z} {xs : List Z} {t u : DT} {p q : Bool} {s1 s2 : DS}
theorem pu_of (h : ∀ G, a l G = .ok z G) : Pu l G0 a z := fun E => ⟨E, h _⟩
theorem pu_at (h : ∀ E, a l (G0 ++ E) = .ok z (G0 ++ E)) : Pu l G0 a z := fun E => ⟨E, h E⟩
theorem pu_var {i : Nat} (h : l[i]? = some (some z)) (hz : nx z = true) : Pu l G0 (dVar i) z := pu_of fun G => dVar_of h (nx_ne hz)
theorem pu_c : Pu l G0 (dC z) z := pu_of fun _ => rfl
theorem puA_nil : PuA l G0 dNil [] := fun E => ⟨E, rfl⟩
theorem puA_cons (h : Pu l G0 a x) (h2 : PuA l G0 as xs) : PuA l G0 (dCons a as) (x :: xs) := fun E => by
  obtain ⟨E1, e1⟩ := h E
  obtain ⟨E2, e2⟩ := h2 E1
  exact ⟨E2, by rw [dCons_ap, e1, R.bind_ok, e2, R.bind_ok]⟩
theorem pu_call {cf : CF} {k : Nat} (h : PuA l G0 as xs) (hc : ∀ G, ∃ E, cf k xs G = .ok z (G ++ E)) : Pu l G0 (dCall cf k as) z := fun E => by
  obtain ⟨E1, e1⟩ := h E
  obtain ⟨E2, e2⟩ := hc (G0 ++ E1)
  exact ⟨E1 ++ E2, by rw [dCall_ap, e1, R.bind_ok, e2, List.append_assoc]⟩
theorem pu_fn {f : List Z → GH → R Z} (h : PuA l G0 as xs) (hc : ∀ E, ∃ E', f xs (G0 ++ E) = .ok z (G0 ++ E')) : Pu l G0 (dFn f as) z := fun E => by
  obtain ⟨E1, e1⟩ := h E
  obtain ⟨E2, e2⟩ := hc E1
  exact ⟨E2, by rw [dFn_ap, e1, R.bind_ok, e2]⟩
theorem pu_ix (ha : Pu l G0 a x) (hb : Pu l G0 b y) (h : ∀ E, zIx x y (G0 ++ E) = .ok z (G0 ++ E)) : Pu l G0 (dIx a b) z := fun E => by
  obtain ⟨E1, e1⟩ := ha E
  obtain ⟨E2, e2⟩ := hb E1
  exact ⟨E2, by rw [dIx_ap, e1, R.bind_ok, e2, R.bind_ok, h]⟩
theorem pu_bin {op : Operator} (ha : Pu l G0 a x) (hb : Pu l G0 b y) (h : ∀ E, ∃ E', zBin op x y (G0 ++ E) = .ok z (G0 ++ E')) : Pu l G0 (dBin op a b) z := fun E => by
  obtain ⟨E1, e1⟩ := ha E
  obtain ⟨E2, e2⟩ := hb E1
  obtain ⟨E3, e3⟩ := h E2
  exact ⟨E3, by rw [dBin_ap, e1, R.bind_ok, e2, R.bind_ok, e3]⟩
theorem pu_cmp {op : CmpOp} (ha : Pu l G0 a x) (hb : Pu l G0 b y) (h : ∀ E, zCmp op x y (G0 ++ E) = .ok z (G0 ++ E)) : Pu l G0 (dCmp op a b) z := fun E => by
  obtain ⟨E1, e1⟩ := ha E
  obtain ⟨E2, e2⟩ := hb E1
  exact ⟨E2, by rw [dCmp_ap, e1, R.bind_ok, e2, R.bind_ok, h]⟩
theorem pu_tup (h : PuA l G0 as xs) (hl : xs.length ≤ 1000) : Pu l G0 (dTup as) (.tup xs) := fun E => by
  obtain ⟨E1, e1⟩ := h E
  exact ⟨E1, by rw [dTup_ap, e1, R.bind_ok, if_pos (by have := line1000; omega)]⟩
theorem puT_b (h : Pu l G0 a (.bl p)) : PuT l G0 (uB a) p := fun E => by
  obtain ⟨E1, e1⟩ := h E
  exact ⟨E1, by rw [uB_ap, e1, R.bind_ok]⟩
theorem puT_tru (h : Pu l G0 a (.bl p)) : PuT l G0 (dTru a) p := fun E => by
  obtain ⟨E1, e1⟩ := h E
  exact ⟨E1, by rw [dTru_ap, e1, R.bind_ok, truD_bl]⟩
theorem puT_not (h : PuT l G0 t p) : PuT l G0 (uNot t) (!p) := fun E => by
  obtain ⟨E1, e1⟩ := h E
  exact ⟨E1, by rw [uNot_ap, e1, R.bind_ok]⟩
theorem puT_or0 (h : PuT l G0 t false) (h2 : PuT l G0 u q) : PuT l G0 (uOr t u) q := fun E => by
  obtain ⟨E1, e1⟩ := h E
  obtain ⟨E2, e2⟩ := h2 E1
  exact ⟨E2, by rw [uOr_ap, e1, R.bind_ok, if_neg Bool.false_ne_true, e2]⟩
theorem puT_and0 (h : PuT l G0 t false) : PuT l G0 (uAnd t u) false := fun E => by
  obtain ⟨E1, e1⟩ := h E
  exact ⟨E1, by rw [uAnd_ap, e1, R.bind_ok, if_neg Bool.false_ne_true]⟩
theorem puT_and1 (h : PuT l G0 t true) (h2 : PuT l G0 u q) : PuT l G0 (uAnd t u) q := fun E => by
  obtain ⟨E1, e1⟩ := h E
  obtain ⟨E2, e2⟩ := h2 E1
  exact ⟨E2, by rw [uAnd_ap, e1, R.bind_ok, if_pos rfl, e2]⟩
theorem pu_if (ht : PuT l G0 t p) (h1 : p = true → Pu l G0 a z) (h2 : p = false → Pu l G0 b z) : Pu l G0 (dIf t a b) z := fun E => by
  obtain ⟨E1, e1⟩ := ht E
  cases p with
  | true =>
    obtain ⟨E2, e2⟩ := h1 rfl E1
    exact ⟨E2, by rw [dIf_ap, e1, R.bind_ok, if_pos rfl, e2]⟩
  | false =>
    obtain ⟨E2, e2⟩ := h2 rfl E1
    exact ⟨E2, by rw [dIf_ap, e1, R.bind_ok, if_neg Bool.false_ne_true, e2]⟩
theorem puS_no (h : PuT l G0 t false) : PuS l G0 (dIfS t s1 dNop) l := fun E => by
  obtain ⟨E1, e1⟩ := h E
  exact ⟨E1, by rw [dIfS_ap, e1, R.st_ok, if_neg Bool.false_ne_true]; rfl⟩
theorem puS_asg {i : Nat} (h : Pu l G0 a z) : PuS l G0 (dAsg (dgName i) a) (l.set i (some z)) := fun E => by
  obtain ⟨E1, e1⟩ := h E
  exact ⟨E1, by rw [dAsg_ap, e1, R.st_ok]; rfl⟩
theorem puS_seq (h1 : PuS l G0 s1 l1) (h2 : PuS l1 G0 s2 l2) : PuS l G0 (dSeq s1 s2) l2 := fun E => by
  obtain ⟨E1, e1⟩ := h1 E
  obtain ⟨E2, e2⟩ := h2 E1
  exact ⟨E2, by rw [dSeq_ap, e1, seq_nx, e2]⟩
theorem puS_nop : PuS l G0 dNop l := fun E => ⟨E, rfl⟩
/-- a statement first, then the rest, to the end of the def -/
theorem fin_seq {r : R Z} {E : GH} (h1 : PuS l G0 s1 l1) (h2 : ∀ E1, ∃ E', ((s2 l1 (G0 ++ E1)).fin = .ok z (G0 ++ E'))) : ∃ E', ((dSeq s1 s2) l (G0 ++ E)).fin = .ok z (G0 ++ E') := by
  obtain ⟨E1, e1⟩ := h1 E
  obtain ⟨E2, e2⟩ := h2 E1
  exact ⟨E2, by rw [dSeq_ap, e1, seq_nx, e2]⟩
end
theorem nil_of (f : GH → R Z) (G1 : GH) {z : Z} (h : ∀ E, ∃ E', f (G1 ++ E) = .ok z (G1 ++ E')) : ∃ E', f G1 = .ok z (G1 ++ E') := by
  obtain ⟨E', e⟩ := h []
  rw [List.append_nil] at e
  exact ⟨E', e⟩
/-! ### _law_right -/
theorem prod_p (d : Nat) {n : Nat} (h1 : 1 ≤ n) (h8 : n ≤ 8) (f : Nat → Nat → Fin 5) (gs : List (Nat → Nat → Fin 5)) (hl : gs.length ≤ 50) {xs : List Z} (hx : xs = tz n f :: gs.map (tz n)) {z : Z} (hz : z = tz n (gs.foldl (mul n) f)) : ∀ G, ∃ E, (rt (d + 5)).cf 9 xs G = .ok z (G ++ E) := fun G => by
  subst hx hz; exact prod_ex d h1 h8 gs hl
theorem lt_p (d : Nat) {n : Nat} (hn : n ≤ 100) (f g : Nat → Nat → Fin 5) : ∀ G, ∃ E, (rt (d + 2)).cf 18 [tz n f, tz n g] G = .ok (tz n (mul n f g)) (G ++ E) := fun G => ltimes_ex d n f g G hn
theorem idem_p (d : Nat) {n : Nat} (h1 : 1 ≤ n) (h8 : n ≤ 8) (f : Nat → Nat → Fin 5) : ∀ G, ∃ E, (rt (d + 5)).cf 11 [tz n f] G = .ok (.bl (sameT n (mul n f f) f)) (G ++ E) := fun G => ⟨_, idem_r d h1 h8⟩
def trB (r : Rt) : DS := (dSeq (dIfS (uB (dCmp .NotEq (dFn (on1 zRepr) (dCons (dCall r.cf 11 (dCons (dVar 12) dNil)) dNil)) (dFn (on1 zRepr) (dCons (dCmp .Eq (dCall r.cf 18 (dCons (dVar 12) (dCons (dVar 12) dNil))) (dVar 12)) dNil)))) (dSeq (dRet (dC (.bl false))) dNop) dNop) dNop)
theorem trB_ok (d : Nat) {n : Nat} (h1 : 1 ≤ n) (h8 : n ≤ 8) {f : Nat → Nat → Fin 5} {l : L} {G0 : GH} (h : l[12]? = some (some (tz n f))) : PuS l G0 (trB (rt (d + 5))) l := by
  have v : Pu l G0 (dVar 12) (tz n f) := pu_var h rfl
  have r1 : Pu l G0 (dFn (on1 zRepr) (dCons (dCall (rt (d + 5)).cf 11 (dCons (dVar 12) dNil)) dNil)) (.str (rb (sameT n (mul n f f) f))) :=
    pu_fn (puA_cons (pu_call (puA_cons v puA_nil) (idem_p d h1 h8 f)) puA_nil) fun E => ⟨E, repr_bl⟩
  have r2 : Pu l G0 (dFn (on1 zRepr) (dCons (dCmp .Eq (dCall (rt (d + 5)).cf 18 (dCons (dVar 12) (dCons (dVar 12) dNil))) (dVar 12)) dNil)) (.str (rb (sameT n (mul n f f) f))) :=
    pu_fn (puA_cons (pu_cmp (pu_call (puA_cons v (puA_cons v puA_nil)) (lt_p (d + 3) (by omega) f f)) v fun E => eq_tz) puA_nil) fun E => ⟨E, repr_bl⟩
  exact puS_seq (puS_no (puT_b (pu_cmp r1 r2 fun E => by rw [cmp_nes]; simp))) puS_nop
theorem add_lists {G : GH} {m k : Nat} {x y : List Z} (h1 : lstAt G m = some x) (h2 : lstAt G k = some y) (h : x.length + y.length ≤ sizeLine) : zBin .Add (.ref m) (.ref k) G = .ok (.ref G.length) (G ++ [.lst (x ++ y)]) := by
  show (match lstAt G m, lstAt G k with
    | some x, some y => if x.length + y.length ≤ sizeLine then newO (.lst (x ++ y)) G else .bad
    | _, _ => .bad) = _
  rw [h1, h2]
  exact if_pos h
/-- [_law_some_table(stream, size) for turn in range(5)] -/
theorem tabs_ok (d : Nat) {s n : Nat} (hn : n ≤ 100) {G : GH} (hs : StrAt G s) {l : L} (hl : 4 ≤ l.length) (h0 : l[0]? = some (some (.ref s))) (h1 : l[1]? = some (some (.int (n : Nat)))) :
    ∃ (fs : List (Nat → Nat → Fin 5)) (G' : GH), dComp (dRng1 (dCons (dC (.int (5))) dNil)) (.nm 3) dYes (dCall (rt (d + 2)).cf 21 (dCons (dVar 0) (dCons (dVar 1) dNil))) [3] l G = .ok (.ref G.length) G' ∧ lstAt G' G.length = some (fs.map (tz n)) ∧ fs.length = 5 ∧ Keep s G G' := by
  have lt := hs.lt
  obtain ⟨acc, G', e1, e2, e3, kp, fs, rfl, hf⟩ := lc_go (xs := rngZ 0 (5 : Nat)) (i := 3) (e := dCall (rt (d + 2)).cf 21 (dCons (dVar 0) (dCons (dVar 1) dNil))) (l := wipeZ l [3]) (n := G.length) (G0 := G ++ [.lst []]) (fun k acc G' => Keep s G G' ∧ ∃ fs : List (Nat → Nat → Fin 5), acc = fs.map (tz n) ∧ fs.length = k)
    (fun k z acc G' hz ⟨kp, fs, ha, hf⟩ hL => by
      have w0 : ((wipeZ l [3]).set 3 (some z))[0]? = some (some (.ref s)) := by
        unfold wipeZ; rw [List.getElem?_set_ne (by decide)]; unfold wipeZ; rw [List.getElem?_set_ne (by decide)]; exact h0
      have w1 : ((wipeZ l [3]).set 3 (some z))[1]? = some (some (.int (n : Nat))) := by
        unfold wipeZ; rw [List.getElem?_set_ne (by decide)]; unfold wipeZ; rw [List.getElem?_set_ne (by decide)]; exact h1
      obtain ⟨f, G2, q1, q2⟩ := some_table_ok d hn (kp.str hs)
      refine ⟨tz n f, G2, ?_, q2.lst hL (by omega), (kp.trans q2).set (Nat.le_refl _), fs ++ [f], by rw [ha, List.map_append]; rfl, by simp [hf]⟩
      rw [dCall_ap, dCons_ap, dVar_ref w0, R.bind_ok, dCons_ap, dVar_int w1, R.bind_ok, dNil_ap, R.bind_ok, R.bind_ok, R.bind_ok]
      exact q1)
    (by rw [rng_len]; exact small _ (by decide)) ⟨Keep.app, [], rfl, rfl⟩ lstAt_new
  rw [rng_len] at e1 hf
  refine ⟨fs, G', ?_, e2, hf, kp⟩
  have o5 : okR 5 = true := by decide
  rw [dComp_ap, dRng1_ap, dCons_ap, dC_ap, R.bind_ok, dNil_ap, R.bind_ok, R.bind_ok]
  simp only [o5, if_true, R.bind_ok, Wk.len]
  exact e1
theorem right_ok (d : Nat) {s n : Nat} (h1 : 1 ≤ n) (h8 : n ≤ 8) {G : GH} (hs : StrAt G s) : ∃ G', (rt (d + 6)).cf 25 [.ref s, .int (n : Nat)] G = .ok (.bl true) G' ∧ Keep s G G' := by
  have hn : n ≤ 100 := by omega
  show ∃ G', (C (d + 8)).cf 25 [.ref s, .int (n : Nat)] G = _ ∧ _
  rw [show d + 8 = (d + 5) + 3 from rfl, cfS (d + 5) 25 f_25 s_25 13 2 rfl rfl rfl rfl rfl sh_25 rfl]
  obtain ⟨fs, G1, e1, e2, e3, k1⟩ := tabs_ok (d + 3) hn hs (l := stL 13 [.ref s, .int (n : Nat)]) (by simp [stL]) rfl rfl
  suffices ∃ E', ((s_25 (rt (d + 5))) (stL 13 [.ref s, .int (n : Nat)]) G).fin = .ok (.bl true) (G1 ++ E') by
    obtain ⟨E', e⟩ := this
    exact ⟨_, e, k1.trans Keep.app⟩
  match fs, e3 with
  | [f0, f1, f2, f3, f4], _ =>
    obtain ⟨Rp, hR⟩ := repr_tabs (n := n) (m := G.length) h8 (fs := [f0, f1, f2, f3, f4]) (by simp)
    have at_ : ∀ E, lstAt (G1 ++ E) G.length = some ([f0, f1, f2, f3, f4].map (tz n)) := fun E => lstAt_app e2
    let due := mul n (mul n f0 f1) f2
    let last := mul n (mul n due f3) f4
    let lA : L := [some (.ref s), some (.int (n : Nat)), some (.ref G.length), none, some (.str Rp), some (tz n f0), some (tz n f1), some (tz n f2), none, none, none, none, none]
    let lB : L := [some (.ref s), some (.int (n : Nat)), some (.ref G.length), none, some (.str Rp), some (tz n f0), some (tz n f1), some (tz n f2), some (tz n due), some (tz n (mul n f0 f1)), none, none, none]
    let lC : L := [some (.ref s), some (.int (n : Nat)), some (.ref G.length), none, some (.str Rp), some (tz n f0), some (tz n f1), some (tz n f2), some (tz n due), some (tz n (mul n f0 f1)), some (tz n last), none, none]
    have g3 : ∀ l : L, l[2]? = some (some (.ref G.length)) → Pu l G1 (dIx (dVar 2) (dC (.int (3)))) (tz n f3) := fun l h => pu_ix (pu_var h rfl) pu_c fun E => ix_ref (at_ E) rfl
    have g4 : ∀ l : L, l[2]? = some (some (.ref G.length)) → Pu l G1 (dIx (dVar 2) (dC (.int (4)))) (tz n f4) := fun l h => pu_ix (pu_var h rfl) pu_c fun E => ix_ref (at_ E) rfl
    have gR : ∀ l : L, l[2]? = some (some (.ref G.length)) → Pu l G1 (dFn (on1 zRepr) (dCons (dVar 2) dNil)) (.str Rp) := fun l h => pu_fn (puA_cons (pu_var h rfl) puA_nil) fun E => ⟨E, hR _ (at_ E)⟩
    have ne0 : ∀ (f : Nat → Nat → Fin 5) E, zCmp .NotEq (tz n f) (tz n f) (G1 ++ E) = .ok (.bl false) (G1 ++ E) := fun f E => by rw [ne_tz, same_refl]; rfl
    unfold s_25
    rw [dSeq_ap, dAsg_ap, e1, R.st_ok, dgName_ap, tgt_nx, seq_nx]
    rw [show (stL 13 [.ref s, .int (n : Nat)]).set 2 (some (Z.ref G.length)) = [some (.ref s), some (.int (n : Nat)), some (.ref G.length), none, none, none, none, none, none, none, none, none, none] from rfl]
    apply nil_of (G1 := G1)
    intro E
    refine fin_seq (r := .bad) (l1 := lA) (fun E => ?_) fun E => ?_
    · obtain ⟨E1, q⟩ := (show Pu ([some (.ref s), some (.int (n : Nat)), some (.ref G.length), none, none, none, none, none, none, none, none, none, none] : L) G1 (dTup (dCons (dFn (on1 zRepr) (dCons (dVar 2) dNil)) (dCons (dIx (dVar 2) (dC (.int (0)))) (dCons (dIx (dVar 2) (dC (.int (1)))) (dCons (dIx (dVar 2) (dC (.int (2)))) dNil))))) (.tup [.str Rp, tz n f0, tz n f1, tz n f2]) from
        pu_tup (puA_cons (gR _ rfl) (puA_cons (pu_ix (pu_var rfl rfl) pu_c fun E => ix_ref (at_ E) rfl) (puA_cons (pu_ix (pu_var rfl rfl) pu_c fun E => ix_ref (at_ E) rfl) (puA_cons (pu_ix (pu_var rfl rfl) pu_c fun E => ix_ref (at_ E) rfl) puA_nil)))) (by simp)) E
      exact ⟨E1, by rw [dAsg_ap, q, R.st_ok]; rfl⟩
    refine fin_seq (r := .bad) (l1 := lB) (fun E => ?_) fun E => ?_
    · obtain ⟨E1, q⟩ := (show PuA lA G1 (dCons (dCall (rt (d + 5)).cf 18 (dCons (dCall (rt (d + 5)).cf 18 (dCons (dVar 5) (dCons (dVar 6) dNil))) (dCons (dVar 7) dNil))) (dCons (dCall (rt (d + 5)).cf 18 (dCons (dVar 5) (dCons (dVar 6) dNil))) dNil)) [tz n due, tz n (mul n f0 f1)] from
        puA_cons (pu_call (puA_cons (pu_call (puA_cons (pu_var rfl rfl) (puA_cons (pu_var rfl rfl) puA_nil)) (lt_p (d + 3) hn f0 f1)) (puA_cons (pu_var rfl rfl) puA_nil)) (lt_p (d + 3) hn _ f2)) (puA_cons (pu_call (puA_cons (pu_var rfl rfl) (puA_cons (pu_var rfl rfl) puA_nil)) (lt_p (d + 3) hn f0 f1)) puA_nil)) E
      exact ⟨E1, by rw [dPar_ap, q, R.st_ok]; rfl⟩
    refine fin_seq (r := .bad) (l1 := lB) (puS_no (puT_or0 (puT_b (pu_cmp (pu_call (puA_cons (pu_var rfl rfl) puA_nil) (prod_p d h1 h8 f0 [] (by simp) rfl rfl)) (pu_var rfl rfl) (ne0 _)))
      (puT_or0 (puT_b (pu_cmp (pu_call (puA_cons (pu_var rfl rfl) (puA_cons (pu_var rfl rfl) puA_nil)) (prod_p d h1 h8 f0 [f1] (by simp) rfl rfl)) (pu_var rfl rfl) (ne0 _)))
        (puT_b (pu_cmp (pu_call (puA_cons (pu_var rfl rfl) (puA_cons (pu_var rfl rfl) (puA_cons (pu_var rfl rfl) puA_nil))) (prod_p d h1 h8 f0 [f1, f2] (by simp) rfl rfl)) (pu_var rfl rfl) (ne0 _)))))) fun E => ?_
    have as_ : tz n due = tz n ([mul n f1 f2].foldl (mul n) f0) := by
      show tz n (mul n (mul n f0 f1) f2) = tz n (mul n f0 (mul n f1 f2)); rw [mul_assoc]
    refine fin_seq (r := .bad) (l1 := lB) (puS_no (puT_or0 (puT_b (pu_cmp (pu_call (puA_cons (pu_var rfl rfl) (puA_cons (pu_call (puA_cons (pu_var rfl rfl) (puA_cons (pu_var rfl rfl) puA_nil)) (prod_p d h1 h8 f1 [f2] (by simp) rfl rfl)) puA_nil)) (prod_p d h1 h8 f0 [mul n f1 f2] (by simp) rfl as_)) (pu_var rfl rfl) (ne0 _)))
      (puT_b (pu_cmp (pu_call (puA_cons (pu_call (puA_cons (pu_var rfl rfl) (puA_cons (pu_var rfl rfl) puA_nil)) (prod_p d h1 h8 f0 [f1] (by simp) rfl rfl)) (puA_cons (pu_var rfl rfl) puA_nil)) (prod_p d h1 h8 (mul n f0 f1) [f2] (by simp) rfl rfl)) (pu_var rfl rfl) (ne0 _))))) fun E => ?_
    refine fin_seq (r := .bad) (l1 := lC) (puS_asg (pu_call (puA_cons (pu_call (puA_cons (pu_var rfl rfl) (puA_cons (g3 _ rfl) puA_nil)) (lt_p (d + 3) hn due f3)) (puA_cons (g4 _ rfl) puA_nil)) (lt_p (d + 3) hn _ f4))) fun E => ?_
    refine fin_seq (r := .bad) (l1 := lC) (puS_no (puT_or0 (puT_b (pu_cmp (pu_call (puA_cons (pu_var rfl rfl) (puA_cons (pu_var rfl rfl) (puA_cons (pu_var rfl rfl) (puA_cons (g3 _ rfl) (puA_cons (g4 _ rfl) puA_nil))))) (prod_p d h1 h8 f0 [f1, f2, f3, f4] (by simp) rfl rfl)) (pu_var rfl rfl) (ne0 _)))
      (puT_b (pu_cmp (gR _ rfl) (pu_var rfl rfl) fun E => by rw [cmp_nes]; simp)))) fun E => ?_
    obtain ⟨v, Ev, ev, hv⟩ := steady_ok (d + 2) hn (f := f0) (G := G1 ++ E)
    obtain ⟨st, hst, hlen⟩ : ∃ st : List (Nat → Nat → Fin 5), (v = .non ∧ st = [] ∨ ∃ g, v = tz n g ∧ st = [g]) ∧ st.length ≤ 1 := by
      rcases hv with rfl | ⟨g, rfl⟩
      · exact ⟨[], .inl ⟨rfl, rfl⟩, by simp⟩
      · exact ⟨[g], .inr ⟨g, rfl, rfl⟩, by simp⟩
    have nv : nx v = true := by rcases hv with rfl | ⟨g, rfl⟩ <;> rfl
    let lD : L := [some (.ref s), some (.int (n : Nat)), some (.ref G.length), none, some (.str Rp), some (tz n f0), some (tz n f1), some (tz n f2), some (tz n due), some (tz n (mul n f0 f1)), some (tz n last), some v, none]
    rw [dSeq_ap, dAsg_ap, dCall_ap, dCons_ap, show dVar 5 lC (G1 ++ E) = .ok (tz n f0) (G1 ++ E) from dVar_of rfl tz_ex, R.bind_ok, dNil_ap, R.bind_ok, R.bind_ok]
    rw [show (rt (d + 5)).cf 22 [tz n f0] (G1 ++ E) = _ from ev, R.st_ok, dgName_ap, tgt_nx, seq_nx, show lC.set 11 (some v) = lD from rfl]
    -- the list that is walked
    let gs := [f0, f1, f2, f3, f4] ++ [due, last] ++ st
    have it : ∃ E2 m, (dBin .Add (dBin .Add (dVar 2) (dLst (dCons (dVar 8) (dCons (dVar 10) dNil)))) (dIf (uB (dCmp .Is (dVar 11) (dC (.non)))) (dLst dNil) (dLst (dCons (dVar 11) dNil)))) lD (G1 ++ E ++ Ev) = .ok (.ref m) (G1 ++ E2) ∧ lstAt (G1 ++ E2) m = some (gs.map (tz n)) := by
      have v2 : dVar 2 lD (G1 ++ E ++ Ev) = .ok (.ref G.length) (G1 ++ E ++ Ev) := dVar_of rfl (nx_ne rfl)
      have v8 : ∀ G', dVar 8 lD G' = .ok (tz n due) G' := fun G' => dVar_of rfl tz_ex
      have v10 : ∀ G', dVar 10 lD G' = .ok (tz n last) G' := fun G' => dVar_of rfl tz_ex
      have v11 : ∀ G', dVar 11 lD G' = .ok v G' := fun G' => dVar_of rfl (nx_ne nv)
      let X := G1 ++ E ++ Ev
      let X1 := X ++ [ZO.lst [tz n due, tz n last]]
      let X2 := X1 ++ [ZO.lst ([f0, f1, f2, f3, f4].map (tz n) ++ [tz n due, tz n last])]
      have t1 : lstAt X1 G.length = some ([f0, f1, f2, f3, f4].map (tz n)) := lstAt_app (lstAt_app (lstAt_app e2))
      have t2 : lstAt X1 X.length = some [tz n due, tz n last] := lstAt_new
      have a1 := add_lists t1 t2 (small _ (by simp))
      have ei : ∃ k, (dIf (uB (dCmp .Is (dVar 11) (dC (.non)))) (dLst dNil) (dLst (dCons (dVar 11) dNil))) lD X2 = .ok (.ref X2.length) (X2 ++ [.lst (st.map (tz n))]) ∧ k = 0 := by
        refine ⟨0, ?_, rfl⟩
        rcases hst with ⟨rfl, rfl⟩ | ⟨g, rfl, rfl⟩
        · rw [dIf_ap, uB_ap, dCmp_ap, v11]
          rfl
        · rw [dIf_ap, uB_ap, dCmp_ap, v11]
          simp only [R.bind_ok, dC_ap]
          rw [show zCmp .Is (tz n g) .non X2 = .ok (.bl false) X2 from rfl]
          simp only [R.bind_ok, Bool.false_eq_true, if_false, dLst_ap, dCons_ap, v11, dNil_ap]
          rw [if_pos (small _ (by simp)), newO_ap]
          rfl
      obtain ⟨_, ei, _⟩ := ei
      have u1 : lstAt (X2 ++ [.lst (st.map (tz n))]) X1.length = some ([f0, f1, f2, f3, f4].map (tz n) ++ [tz n due, tz n last]) := lstAt_app lstAt_new
      have u2 : lstAt (X2 ++ [.lst (st.map (tz n))]) X2.length = some (st.map (tz n)) := lstAt_new
      have a2 := add_lists u1 u2 (small _ (by simp; omega))
      refine ⟨E ++ Ev ++ [ZO.lst [tz n due, tz n last]] ++ [ZO.lst ([f0, f1, f2, f3, f4].map (tz n) ++ [tz n due, tz n last])] ++ [.lst (st.map (tz n))] ++ [.lst ([f0, f1, f2, f3, f4].map (tz n) ++ [tz n due, tz n last] ++ st.map (tz n))], (X2 ++ [ZO.lst (st.map (tz n))]).length, ?_, ?_⟩
      · rw [dBin_ap, dBin_ap, v2, R.bind_ok, dLst_ap, dCons_ap, v8, R.bind_ok, dCons_ap, v10, R.bind_ok, dNil_ap, R.bind_ok, R.bind_ok, R.bind_ok, if_pos (small _ (by simp)), newO_ap, R.bind_ok]
        refine (congrArg (fun r : R Z => r.bind _) a1).trans ?_
        rw [R.bind_ok, show X1 ++ [ZO.lst ([f0, f1, f2, f3, f4].map (tz n) ++ [tz n due, tz n last])] = X2 from rfl, ei, R.bind_ok, a2]
        simp [X2, X1, X]
      · rw [show G1 ++ (E ++ Ev ++ [ZO.lst [tz n due, tz n last]] ++ [ZO.lst ([f0, f1, f2, f3, f4].map (tz n) ++ [tz n due, tz n last])] ++ [ZO.lst (st.map (tz n))] ++ [ZO.lst ([f0, f1, f2, f3, f4].map (tz n) ++ [tz n due, tz n last] ++ st.map (tz n))]) = X2 ++ [ZO.lst (st.map (tz n))] ++ [ZO.lst ([f0, f1, f2, f3, f4].map (tz n) ++ [tz n due, tz n last] ++ st.map (tz n))] by simp [X2, X1, X], lstAt_new]
        simp [gs]
    obtain ⟨E2, m, i1, i2⟩ := it
    obtain ⟨l', G', w1, ⟨x12, rfl⟩, E3, rfl⟩ := for_live (g := dgName 12) (body := trB (rt (d + 5))) (n := m) (gs.map (tz n)) (fun k l G' => (∃ x12, l = [some (.ref s), some (.int (n : Nat)), some (.ref G.length), none, some (.str Rp), some (tz n f0), some (tz n f1), some (tz n f2), some (tz n due), some (tz n (mul n f0 f1)), some (tz n last), some v, x12]) ∧ ∃ E3, G' = G1 ++ E2 ++ E3)
      (l := lD) (G := G1 ++ E2) ⟨⟨none, rfl⟩, [], (List.append_nil _).symm⟩ (fun k l G' ⟨_, E3, hG⟩ => by rw [hG]; exact lstAt_app i2) (fun k z l G' hz ⟨⟨x12, hl⟩, E3, hG⟩ => by
        subst hl hG
        rw [List.getElem?_map] at hz
        obtain ⟨g, hg, rfl⟩ := Option.map_eq_some_iff.mp hz
        obtain ⟨E4, q⟩ := trB_ok d h1 h8 (f := g) (l := [some (.ref s), some (.int (n : Nat)), some (.ref G.length), none, some (.str Rp), some (tz n f0), some (tz n f1), some (tz n f2), some (tz n due), some (tz n (mul n f0 f1)), some (tz n last), some v, some (tz n g)]) (G0 := G1 ++ E2) rfl E3
        exact ⟨_, _, _, _, rfl, .inl q, ⟨_, rfl⟩, E4, rfl⟩)
    refine ⟨E2 ++ E3, ?_⟩
    rw [dSeq_ap, dFor_ap, dIter_ap, i1, R.bind_ok, toItr_ref i2, R.st_ok]
    simp only [Wk.len]
    refine (congrArg (fun s : Zy.S => (s.seq _).fin) w1).trans ?_
    rw [List.append_assoc]
    rfl
end K
end
section
set_option Elab.async false
set_option linter.all false
set_option maxRecDepth 100000
set_option maxHeartbeats 4000000
namespace K
open PySem PySem.Spec PyProof.Rows L2 Zy
/-! ### _law_error -/
theorem lfS (d : Nat) (th : GH → R Z) (G : GH) : (rt (d + 1)).lf 23 th G = (s_23 { rt d with th := th } [some .ex, none] G).fin := by
  have e : (C (d + 3)).lf 23 th = dFunA tx.T f_23 { rt d with th := th } := by
    show (stepD _ _ _ _ _ _).lf 23 th = _
    unfold stepD
    rfl
  show (C (d + 3)).lf 23 th G = _
  rw [e]
  unfold dFunA
  rw [show f_23.body = b_23 from rfl, sh_23]
  rfl
def tRet : List Nat := [114, 101, 116, 117, 114, 110, 101, 100]
def tTab : List Nat := [116, 97, 98, 108, 101]
def tNum : List Nat := [110, 117, 109, 98, 101, 114, 32]
theorem act_th (d : Nat) {th : GH → R Z} {G : GH} : (dSeq (dExp (dAct 0 th)) dNop) [some .ex, none] G = ((th G).st [some .ex, none] fun _ G1 => .nx [some .ex, none] G1).seq dNop := rfl
theorem err_ret (d : Nat) {th : GH → R Z} {G G' : GH} {z : Z} (h : th G = .ok z G') : (rt (d + 1)).lf 23 th G = .ok (.str tRet) G' := by
  rw [lfS]
  unfold s_23
  rw [dSeq_ap, dTry_ap]
  simp only
  rw [act_th d, h]
  rfl
theorem err_tab (d : Nat) {th : GH → R Z} {G G' : GH} (h : th G = .exc ⟨.own 1, none⟩ G') : (rt (d + 1)).lf 23 th G = .ok (.str tTab) G' := by
  rw [lfS]
  unfold s_23
  rw [dSeq_ap, dTry_ap]
  simp only
  rw [act_th d, h]
  rfl
theorem err_num (d : Nat) {th : GH → R Z} {G G' : GH} {m : Nat} {v : Z} {t : List Nat} (h : th G = .exc ⟨.own 3, some m⟩ G') (hm : G'[m]? = some (.xd [("value", v)])) (hr : zRepr v G' = .ok (.str t) G') (hl : (tNum.length + t.length) ≤ sizeLine) : (rt (d + 1)).lf 23 th G = .ok (.str (tNum ++ t)) G' := by
  have hf : dFld (some ⟨.own 3, some m⟩) tx.T.kept "value" 1 [some .ex, some .ex] G' = .ok v G' ∨ True := .inr trivial
  rw [lfS]
  have e1 : (dSeq (dExp (dAct 0 th)) dNop) [some .ex, none] G = .exc ⟨.own 3, some m⟩ [some .ex, none] G' := by rw [act_th d, h]; rfl
  have k : ((3 : Nat), ("value" : Str)) ∈ tx.T.kept := by decide
  have e2 : ∀ l : L, l[1]? = some (some .ex) → dFld (some ⟨.own 3, some m⟩) tx.T.kept "value" 1 l G' = .ok v G' := fun l hl => by
    unfold dFld
    simp only [hl, hm, List.lookup_cons, beq_self_eq_true, k, if_true]
  have e3 : zBin .Add (.str tNum) (.str t) G' = .ok (.str (tNum ++ t)) G' := if_pos hl
  have e4 : (dBin .Add (dC (.str [110, 117, 109, 98, 101, 114, 32])) (dFn (on1 zRepr) (dCons (dFld (some ⟨.own 3, some m⟩) tx.T.kept "value" 1) dNil))) ((clr [some .ex, none]).set 1 (some .ex)) G' = .ok (.str (tNum ++ t)) G' := by
    rw [dBin_ap, dC_ap, R.bind_ok, dFn_ap, dCons_ap, e2 _ rfl, R.bind_ok, dNil_ap, R.bind_ok, R.bind_ok, on1_ap, hr, R.bind_ok]
    exact e3
  unfold s_23
  rw [dSeq_ap, dTry_ap]
  simp only
  rw [e1]
  have e5 : (dSeq (dRet (dBin .Add (dC (.str [110, 117, 109, 98, 101, 114, 32])) (dFn (on1 zRepr) (dCons (dFld (some ⟨.own 3, some m⟩) tx.T.kept "value" 1) dNil)))) dNop) ((clr [some .ex, none]).set 1 (some .ex)) G' = .rt (.str (tNum ++ t)) G' := by
    rw [dSeq_ap, dRet_ap, e4]; rfl
  show ((S.gone 1 ((dSeq (dRet (dBin .Add (dC (.str [110, 117, 109, 98, 101, 114, 32])) (dFn (on1 zRepr) (dCons (dFld (some ⟨.own 3, some m⟩) tx.T.kept "value" 1) dNil)))) dNop) ((clr [some .ex, none]).set 1 (some .ex)) G')).seq _).fin = _
  rw [e5]
  rfl
/-! ### odd values -/
inductive Lz (m : Nat) : Z → Prop
  | tup (xs : List Z) (h : xs.length ≤ m) (h2 : ∀ x ∈ xs, Lz m x) : Lz m (.tup xs)
  | oth (v : Z) (h : isTupZ v = false) : Lz m v
theorem Lz.mono {m m' : Nat} (hm : m ≤ m') {v : Z} (h : Lz m v) : Lz m' v := by
  induction h with
  | tup xs h h2 ih => exact .tup xs (by omega) ih
  | oth v h => exact .oth v h
theorem Lz.sz {m : Nat} (hm : m ≤ 1000) {v : Z} (h : Lz m v) : Sz v := by
  intro xs e
  subst e
  cases h with
  | tup _ h h2 =>
    refine ⟨by omega, fun x hx gs e => ?_⟩
    subst e
    have := h2 _ hx
    cases this with
    | tup _ h h2 => omega
    | oth _ h => cases h
  | oth _ h => cases h
theorem lz_row {n m : Nat} (h : n ≤ m) {f : Nat → Fin 5} : Lz m (row n f) := .tup _ (by simpa using h) fun x hx => by
  obtain ⟨j, _, rfl⟩ := List.mem_map.mp hx
  exact .oth _ rfl
theorem lz_tz {n m : Nat} (h : n ≤ m) {f : Nat → Nat → Fin 5} : Lz m (tz n f) := .tup _ (by simpa using h) fun x hx => by
  obtain ⟨j, _, rfl⟩ := List.mem_map.mp hx
  exact lz_row h
def ten39 : Int := 10 ^ 39
theorem pow_39 {G : GH} : zBin .Pow (.int 10) (.int 39) G = .ok (.int ten39) G := pow_ap (by decide +kernel)
theorem dmk1 (r : Rt) : ∃ ks zs, ∀ (l : L) (G : GH), (ev tx.T (.dmk (.dcons (.cst (.int (0))) (.cst (.int (1))) .dnil)) r none).e l G = .ok (.ref G.length) (G ++ [.dK ks zs]) := by
  obtain ⟨⟨ks, zs⟩, h⟩ : ∃ p, mkKZ [(.int 0, .int 1)] [] [] = some p := ⟨_, rfl⟩
  refine ⟨ks, zs, fun l G => ?_⟩
  show (match (G ++ [ZO.dK [] []])[G.length]?, mkKZ [(.int 0, .int 1)] [] [] with
    | some (.dK [] []), some (ks, zs) => if [(Z.int 0, Z.int 1)].length ≤ 15 then R.ok (Z.ref G.length) ((G ++ [ZO.dK [] []]).set G.length (.dK ks zs)) else .bad
    | _, _ => .bad) = _
  rw [List.getElem?_append_right (Nat.le_refl _), Nat.sub_self, h]
  show R.ok (Z.ref G.length) ((G ++ [ZO.dK [] []]).set G.length (.dK ks zs)) = _
  rw [set_new]
theorem add_ref {A B : GH} {j k : Nat} {x y : List Z} (h1 : lstAt B j = some x) (h2 : lstAt B k = some y) (h : x.length + y.length ≤ sizeLine) : zBin .Add (.ref (A.length + j)) (.ref (A.length + k)) (A ++ B) = .ok (.ref (A ++ B).length) ((A ++ B) ++ [.lst (x ++ y)]) := add_lists (by rw [at_sh]; exact h1) (by rw [at_sh]; exact h2) h
theorem neg_ap {G : GH} : zNeg (.int 1) G = .ok (.int (-1)) G := rfl
theorem get_sh {A B : GH} {k : Nat} : (A ++ B)[A.length + k]? = B[k]? := by
  rw [List.getElem?_append_right (by omega), Nat.add_sub_cancel_left]
theorem kz_tup1 {s : Nat} {G : GH} {x : Z} (h : Kz s G x) : Kz s G (.tup [x]) := .tup _ fun y hy => by
  obtain rfl := List.mem_singleton.mp hy; exact h
theorem lz_tup1 {m : Nat} (hm : 1 ≤ m) {x : Z} (h : Lz m x) : Lz m (.tup [x]) := .tup _ (by simpa using hm) fun y hy => by
  obtain rfl := List.mem_singleton.mp hy; exact h
theorem other_ok (d : Nat) {G : GH} {s : Nat} (hs : StrAt G s) : ∃ v G', (rt (d + 2)).cf 19 [.ref s] G = .ok v G' ∧ Keep s G G' ∧ Kz s G' v ∧ Lz 5 v := by
  show ∃ v G', (C (d + 4)).cf 19 [.ref s] G = .ok v G' ∧ _
  rw [show d + 4 = (d + 1) + 3 from rfl, cfS (d + 1) 19 f_19 s_19 2 1 rfl rfl rfl rfl rfl sh_19 rfl]
  show ∃ v G', (s_19 (rt (d + 1)) [some (.ref s), none] G).fin = .ok v G' ∧ Keep s G G' ∧ Kz s G' v ∧ Lz 5 v
  obtain ⟨ks, zs, hd⟩ := dmk1 (rt (d + 1))
  have lt := hs.lt
  have z1 : ∀ n, n ≤ 100 → n ≤ sizeLine := small
  unfold s_19
  have ad : ∀ (A B : GH) j k x y, lstAt B j = some x → lstAt B k = some y → x.length + y.length ≤ sizeLine → _ := fun A B j k x y h1 h2 h => add_ref (A := A) (B := B) h1 h2 h
  simp [hd, pow_39, z1, neg_ap]
  simp only [Nat.add_assoc, Nat.reduceAdd]
  rw [ad _ _ _ _ _ _ rfl rfl (small _ (by simp))]
  simp
  generalize hP : (HAppend.hAppend G _ : GH) = P
  have kP : Keep s G P := by rw [← hP]; exact Keep.app
  have hp : lstAt P (G.length + 6) = some [.non, .bl true, .int (-1), .int 0, .int 1, .str [], .str [97], .str [97, 98], .tup [], .ref G.length, .ref (G.length + 1), .tup [.int 0], .tup [.str [97]], .int ten39, .str [110, 101, 118, 101, 114], .tup [.non], .tup [.tup []], .ref (G.length + 3), .ref (G.length + 4)] := by rw [← hP, at_sh]; rfl
  have g0 : P[G.length]? = some (.lst []) := by rw [← hP]; exact get_sh (k := 0)
  have g1 : ∃ ks zs, P[G.length + 1]? = some (.dK ks zs) := by rw [← hP]; exact ⟨_, _, get_sh⟩
  have g3 : ∃ xs, P[G.length + 3]? = some (.lst xs) := by rw [← hP]; exact ⟨_, get_sh⟩
  have g4 : ∃ ks zs, P[G.length + 4]? = some (.dK ks zs) := by rw [← hP]; exact ⟨_, _, get_sh⟩
  have lP : G.length + 6 < P.length := by rw [← hP]; simp
  obtain ⟨x, G1, e1, k1, h0, h1⟩ := drawR d (tot := 19) (kP.str hs) (by decide) (by decide)
  have hp1 := k1.lst hp (by omega)
  obtain ⟨v, hv, hm⟩ := ixl hp1 h0 h1
  have ln := len_ref hp
  have ln' : zLen (.ref (G.length + 6)) P = .ok (.int 19) P := ln
  refine ⟨v, G1, by simp [ln', e1, hv], kP.trans k1, ?_⟩
  clear hp hp1 hv ln ln'
  obtain ⟨ks1, zs1, g1⟩ := g1
  obtain ⟨xs3, g3⟩ := g3
  obtain ⟨ks4, zs4, g4⟩ := g4
  have n0 : Kz s G1 (.ref G.length) := .lst _ _ (by rw [k1.old _ (by omega) (by omega)]; exact g0) (by omega)
  have n1 : Kz s G1 (.ref (G.length + 1)) := .dic _ _ _ (by rw [k1.old _ (by omega) (by omega)]; exact g1) (by omega)
  have n3 : Kz s G1 (.ref (G.length + 3)) := .lst _ _ (by rw [k1.old _ (by omega) (by omega)]; exact g3) (by omega)
  have n4 : Kz s G1 (.ref (G.length + 4)) := .dic _ _ _ (by rw [k1.old _ (by omega) (by omega)]; exact g4) (by omega)
  have t0 : Kz s G1 (.tup []) := .tup _ fun x hx => by cases hx
  have l0 : Lz 5 (.tup []) := .tup _ (by simp) fun x hx => by cases hx
  simp only [List.mem_cons, List.not_mem_nil, or_false] at hm
  rcases hm with rfl | rfl | rfl | rfl | rfl | rfl | rfl | rfl | rfl | rfl | rfl | rfl | rfl | rfl | rfl | rfl | rfl | rfl | rfl
  · exact ⟨.non, .oth _ rfl⟩
  · exact ⟨.bl _, .oth _ rfl⟩
  · exact ⟨.int _, .oth _ rfl⟩
  · exact ⟨.int _, .oth _ rfl⟩
  · exact ⟨.int _, .oth _ rfl⟩
  · exact ⟨.str _, .oth _ rfl⟩
  · exact ⟨.str _, .oth _ rfl⟩
  · exact ⟨.str _, .oth _ rfl⟩
  · exact ⟨t0, l0⟩
  · exact ⟨n0, .oth _ rfl⟩
  · exact ⟨n1, .oth _ rfl⟩
  · exact ⟨kz_tup1 (.int _), lz_tup1 (by decide) (.oth _ rfl)⟩
  · exact ⟨kz_tup1 (.str _), lz_tup1 (by decide) (.oth _ rfl)⟩
  · exact ⟨.int _, .oth _ rfl⟩
  · exact ⟨.str _, .oth _ rfl⟩
  · exact ⟨kz_tup1 .non, lz_tup1 (by decide) (.oth _ rfl)⟩
  · exact ⟨kz_tup1 t0, lz_tup1 (by decide) l0⟩
  · exact ⟨n3, .oth _ rfl⟩
  · exact ⟨n4, .oth _ rfl⟩
end K
end
section
set_option Elab.async false
set_option linter.all false
set_option maxRecDepth 100000
set_option maxHeartbeats 4000000
namespace K
open PySem PySem.Spec PyProof.Rows L2 Zy
theorem cut_lo {α : Type} (n : Nat) (xs : List α) : cutZ xs (some (n : Int)) none = xs.drop n := by
  unfold cutZ
  rw [HT.sIx_none, HT.sIx_nat, Nat.min_def]
  split
  · exact List.take_of_length_le (by rw [List.length_drop]; omega)
  · rw [List.drop_of_length_le (Nat.le_refl _), List.drop_of_length_le (by omega)]; simp
theorem cut_hi {α : Type} (n : Nat) (xs : List α) : cutZ xs none (some (n : Int)) = xs.take n := by
  unfold cutZ
  rw [HT.sIx_none, HT.sIx_nat, List.drop_zero, Nat.sub_zero, Nat.min_def]
  split
  · rfl
  · rw [List.take_of_length_le (Nat.le_refl _), List.take_of_length_le (by omega)]
theorem slc_hi {n : Nat} {xs : List Z} {G : GH} : zSlc (.tup xs) none (some (n : Int)) G = .ok (.tup (xs.take n)) G := by
  show R.ok (Z.tup (cutZ xs none (some (n : Int)))) G = _
  rw [cut_hi]
theorem slc_lo {n : Nat} {xs : List Z} {G : GH} : zSlc (.tup xs) (some (n : Int)) none G = .ok (.tup (xs.drop n)) G := by
  show R.ok (Z.tup (cutZ xs (some (n : Int)) none)) G = _
  rw [cut_lo]
theorem cut_mem {xs : List Z} {lo hi : Option Int} {x : Z} (h : x ∈ cutZ xs lo hi) : x ∈ xs := List.mem_of_mem_drop (List.mem_of_mem_take h)
theorem add_tup {x y : List Z} {G : GH} (h : x.length + y.length ≤ sizeLine) : zBin .Add (.tup x) (.tup y) G = .ok (.tup (x ++ y)) G := if_pos h
theorem add_str {x y : List Nat} {G : GH} (h : x.length + y.length ≤ sizeLine) : zBin .Add (.str x) (.str y) G = .ok (.str (x ++ y)) G := if_pos h
/-- what a changed value is -/
def Ch (s : Nat) (G G' : GH) (v : Z) : Prop := Keep s G G' ∧ Kz s G' v ∧ Lz 11 v
theorem gr_len : ∀ i, (gr i).length ≤ 7 := by decide
/-- a sign changed -/
theorem ch_gr (d : Nat) {G : GH} {s : Nat} (hs : StrAt G s) (i : Fin 5) : ∃ v G', (rt (d + 3)).cf 20 [.ref s, gz i] G = .ok v G' ∧ Ch s G G' v := by
  show ∃ v G', (C (d + 5)).cf 20 [.ref s, gz i] G = .ok v G' ∧ _
  rw [show d + 5 = (d + 2) + 3 from rfl, cfS (d + 2) 20 f_20 s_20 4 2 rfl rfl rfl rfl rfl sh_20 rfl]
  show ∃ v G', (s_20 (rt (d + 2)) [some (.ref s), some (gz i), none, none] G).fin = .ok v G' ∧ _
  have t1 : ∀ G, zIsi (.str (gr i)) (.ty "tuple") G = .ok (.bl false) G := fun G => isi_tup (s := s) (.str _)
  have t2 : ∀ G, zIsi (.str (gr i)) (.ty "int") G = .ok (.bl false) G := fun G => isi_int (s := s) (.str _)
  have t3 : ∀ G, zIsi (.str (gr i)) (.ty "str") G = .ok (.bl true) G := fun G => isi_str (s := s) (.str _)
  have lg : (gr i).length ≤ 7 := gr_len i
  obtain ⟨x, G1, e1, k1, x0, x2⟩ := drawR (d + 1) (tot := 2) hs (by decide) (by decide)
  by_cases hx : x = 0
  · subst hx
    let W : List Z := [.str [97], .str [98], .str [98, 97], .str [122], .str [112, 97, 105, 100], .str [100, 101, 97, 114], .str [102, 114, 101, 101], .str (gr i ++ [97])]
    have kW : Keep s G (G1 ++ [.lst W]) := k1.trans Keep.app
    obtain ⟨y, G2, e2, k2, y0, y8⟩ := drawR (d + 1) (tot := 8) (kW.str hs) (by decide) (by decide)
    have hp : lstAt (G1 ++ [.lst W]) G1.length = some W := lstAt_new
    have lt := hs.lt
    have := k1.len
    have hp2 := k2.lst hp (by omega)
    obtain ⟨v, hv, hm⟩ := ixl hp2 y0 (by simpa [W] using y8)
    have sv : ∃ z, v = .str z := by
      simp only [W, List.mem_cons, List.not_mem_nil, or_false] at hm
      rcases hm with h | h | h | h | h | h | h | h <;> exact ⟨_, h⟩
    obtain ⟨z, rfl⟩ := sv
    refine ⟨.str z, G2, ?_, kW.trans k2, .str _, .oth _ rfl⟩
    have z1 : ∀ n, n ≤ 100 → n ≤ sizeLine := small
    have e3 := add_str (x := gr i) (y := [97]) (G := G1) (small _ (by simp; omega))
    have e2' : (rt (d + 2)).cf 15 [.ref s, .int 8] (G1 ++ [.lst [.str [97], .str [98], .str [98, 97], .str [122], .str [112, 97, 105, 100], .str [100, 101, 97, 114], .str [102, 114, 101, 101], .str (gr i ++ [97])]]) = .ok (.int y) G2 := e2
    have e1' : (rt (d + 2)).cf 15 [.ref s, .int 2] G = .ok (.int 0) G1 := e1
    unfold s_20
    simp [t1, t2, t3, e1', e3, z1, e2', hv]
  · obtain ⟨v, G2, e2, k2, q1, q2⟩ := other_ok d (k1.str hs)
    refine ⟨v, G2, ?_, k1.trans k2, q1, q2.mono (by decide)⟩
    have hb : (x == 0) = false := by simpa using hx
    have e1' : (rt (d + 2)).cf 15 [.ref s, .int 2] G = .ok (.int x) G1 := e1
    unfold s_20
    simp [t1, t2, t3, e1', hb, e2]
/-- a tuple changed -/
theorem ch_tup (d : Nat) {G : GH} {s : Nat} (hs : StrAt G s) {xs : List Z} (hl : xs.length ≤ 10) (hk : ∀ G, ∀ x ∈ xs, Kz s G x) (hz : ∀ x ∈ xs, Lz 10 x)
    (ih : ∀ G, StrAt G s → ∀ x ∈ xs, ∃ v G', (rt (d + 3)).cf 20 [.ref s, x] G = .ok v G' ∧ Ch s G G' v) : ∃ v G', (rt (d + 4)).cf 20 [.ref s, .tup xs] G = .ok v G' ∧ Ch s G G' v := by
  show ∃ v G', (C (d + 6)).cf 20 [.ref s, .tup xs] G = .ok v G' ∧ _
  rw [show d + 6 = (d + 3) + 3 from rfl, cfS (d + 3) 20 f_20 s_20 4 2 rfl rfl rfl rfl rfl sh_20 rfl]
  show ∃ v G', (s_20 (rt (d + 3)) [some (.ref s), some (.tup xs), none, none] G).fin = .ok v G' ∧ _
  have t1 : ∀ G, zIsi (.tup xs) (.ty "tuple") G = .ok (.bl true) G := fun G => isi_tup (s := s) (.tup _ (hk G))
  have t2 : ∀ G, zIsi (.tup xs) (.ty "int") G = .ok (.bl false) G := fun G => isi_int (s := s) (.tup _ (hk G))
  have t3 : ∀ G, zIsi (.tup xs) (.ty "str") G = .ok (.bl false) G := fun G => isi_str (s := s) (.tup _ (hk G))
  have rest : ∀ (G1 : GH), StrAt G1 s → Keep s G G1 → (∀ v G2, (rt (d + 3)).cf 19 [.ref s] G1 = .ok v G2 → (s_20 (rt (d + 3)) [some (.ref s), some (.tup xs), none, none] G).fin = .ok v G2) → ∃ v G', (s_20 (rt (d + 3)) [some (.ref s), some (.tup xs), none, none] G).fin = .ok v G' ∧ Ch s G G' v := fun G1 h1 k1 h => by
    obtain ⟨v, G2, e2, k2, q1, q2⟩ := other_ok (d + 1) h1
    exact ⟨v, G2, h v G2 e2, k1.trans k2, q1, q2.mono (by decide)⟩
  have en : ∀ G, zCmp .NotEq (.tup xs) (.tup []) G = .ok (.bl (!xs.isEmpty)) G := fun G => by cases xs <;> rfl
  cases hx : xs with
  | nil =>
    subst hx
    refine rest G hs Keep.refl fun v G2 e => ?_
    unfold s_20
    simp [t1, t2, t3, en, e]
  | cons x0 xr =>
    have hne : xs.isEmpty = false := by rw [hx]; rfl
    rw [← hx]
    rw [hne] at en
    obtain ⟨x, G1, e1, k1, _, _⟩ := drawR (d + 2) (tot := 4) hs (by decide) (by decide)
    have e1' : (rt (d + 3)).cf 15 [.ref s, .int 4] G = .ok (.int x) G1 := e1
    by_cases hx4 : 0 < x
    · have hlen : 0 < xs.length := by rw [hx]; simp
      obtain ⟨a, G2, e2, k2, a0, a1⟩ := drawR (d + 2) (tot := (xs.length : Int)) (k1.str hs) (by omega) (by omega)
      obtain ⟨w, G3, e3, k3, _, _⟩ := drawR (d + 2) (tot := 6) (k2.str (k1.str hs)) (by decide) (by decide)
      obtain ⟨at_, rfl⟩ : ∃ n : Nat, a = n := ⟨a.toNat, by omega⟩
      have e2' : (rt (d + 3)).cf 15 [.ref s, .int (xs.length : Nat)] G1 = .ok (.int (at_ : Nat)) G2 := e2
      have e3' : (rt (d + 3)).cf 15 [.ref s, .int 6] G2 = .ok (.int w) G3 := e3
      have kk := (k1.trans k2).trans k3
      have hat : at_ < xs.length := by omega
      have h1 : ∀ G, zSlc (.tup xs) (some ((at_ : Int) + 1)) none G = .ok (.tup (xs.drop (at_ + 1))) G := fun G => slc_lo (n := at_ + 1)
      have h2 : ∀ G, zSlc (.tup xs) none (some (at_ : Int)) G = .ok (.tup (xs.take at_)) G := fun G => slc_hi
      have h3 : ∀ G, zSlc (.tup xs) (some (at_ : Int)) (some ((at_ : Int) + 1)) G = .ok (.tup (cutZ xs (some (at_ : Int)) (some ((at_ : Int) + 1)))) G := fun G => rfl
      have h4 : ∀ G, zSlc (.tup xs) (some (at_ : Int)) none G = .ok (.tup (xs.drop at_)) G := fun G => slc_lo
      have c1 := cutZ_len xs (some (at_ : Int)) (some ((at_ : Int) + 1))
      by_cases w0 : w = 0
      · subst w0
        have l1 : (xs.take at_).length + (xs.drop (at_ + 1)).length ≤ sizeLine := small _ (by rw [List.length_take, List.length_drop]; omega)
        refine ⟨.tup (xs.take at_ ++ xs.drop (at_ + 1)), G3, ?_, kk, .tup _ fun y hy => ?_, .tup _ (by rw [List.length_append, List.length_take, List.length_drop]; omega) fun y hy => ?_⟩
        · have e4 := add_tup (G := G3) l1
          unfold s_20
          simp [t1, en, e1', hx4, len_tup, e2', e3', h1, h2, e4]
        · rcases List.mem_append.mp hy with h | h
          · exact hk _ y (List.mem_of_mem_take h)
          · exact hk _ y (List.mem_of_mem_drop h)
        · rcases List.mem_append.mp hy with h | h
          · exact (hz y (List.mem_of_mem_take h)).mono (by decide)
          · exact (hz y (List.mem_of_mem_drop h)).mono (by decide)
      · have hw0 : (w == 0) = false := by simpa using w0
        by_cases w1 : w = 1
        · subst w1
          have lc : (cutZ xs (some (at_ : Int)) (some ((at_ : Int) + 1))).length ≤ 1 := by
            unfold cutZ
            rw [HT.sIx_nat, show ((at_ : Int) + 1) = ((at_ + 1 : Nat) : Int) by omega, HT.sIx_nat, List.length_take]
            omega
          have l1 : (xs.take at_).length + (cutZ xs (some (at_ : Int)) (some ((at_ : Int) + 1))).length ≤ sizeLine := small _ (by rw [List.length_take]; omega)
          have l2 : (xs.take at_ ++ cutZ xs (some (at_ : Int)) (some ((at_ : Int) + 1))).length + (xs.drop at_).length ≤ sizeLine := small _ (by rw [List.length_append, List.length_take, List.length_drop]; omega)
          refine ⟨.tup (xs.take at_ ++ cutZ xs (some (at_ : Int)) (some ((at_ : Int) + 1)) ++ xs.drop at_), G3, ?_, kk, .tup _ fun y hy => ?_, .tup _ (by rw [List.length_append, List.length_append, List.length_take, List.length_drop]; omega) fun y hy => ?_⟩
          · have e4 := add_tup (G := G3) l1
            have e5 := add_tup (G := G3) l2
            unfold s_20
            simp only [dSeq_ap, dIfS_ap, uAnd_ap, dTru_ap, dFn_ap, dCons_ap, dC_ap, dNil_ap, dv_s, dv_0 nx_ref, dv_0 nx_tup, R.bind_ok, on2_ap, on1_ap, t1, truD_bl, if_true, uB_ap, dCmp_ap, dTup_ap, List.length_nil, Nat.zero_le, en, Bool.not_false, dCall_ap, e1', cmp_gt, hx4, decide_true, R.st_ok, dAsg_ap, dgName_ap, List.set_cons_succ, List.set_cons_zero, tgt_nx, seq_nx, len_tup, e2', e3', dv_0 nx_int, cmp_eqi, show ((1 : Int) == 0) = false from rfl, Bool.false_eq_true, if_false, dNop_ap, beq_self_eq_true, dRet_ap, dBin_ap, dSlc_ap, dNoPart_ap, dPart_ap, h2, bin_add, h3, h4, e4, e5, seq_rt, fin_rt]
          · rcases List.mem_append.mp hy with h | h
            · rcases List.mem_append.mp h with h | h
              · exact hk _ y (List.mem_of_mem_take h)
              · exact hk _ y (cut_mem h)
            · exact hk _ y (List.mem_of_mem_drop h)
          · rcases List.mem_append.mp hy with h | h
            · rcases List.mem_append.mp h with h | h
              · exact (hz y (List.mem_of_mem_take h)).mono (by decide)
              · exact (hz y (cut_mem h)).mono (by decide)
            · exact (hz y (List.mem_of_mem_drop h)).mono (by decide)
        · have hw1 : (w == 1) = false := by simpa using w1
          have hi : ∀ G, zIx (.tup xs) (.int (at_ : Nat)) G = .ok xs[at_] G := fun G => by
            show (match (some xs).bind fun xs => atI xs at_ with | some z => R.ok z G | none => .bad) = _
            have : atI xs (at_ : Int) = some xs[at_] := by unfold atI ixN; simp [hat]
            rw [Option.bind_some, this]
          obtain ⟨v, G4, e4, k4, q1, q2⟩ := ih G3 (kk.str hs) xs[at_] (List.getElem_mem hat)
          have l1 : (xs.take at_).length + [v].length ≤ sizeLine := small _ (by rw [List.length_take]; simp; omega)
          have l2 : (xs.take at_ ++ [v]).length + (xs.drop (at_ + 1)).length ≤ sizeLine := small _ (by rw [List.length_append, List.length_take, List.length_drop]; simp; omega)
          refine ⟨.tup (xs.take at_ ++ [v] ++ xs.drop (at_ + 1)), G4, ?_, kk.trans k4, .tup _ fun y hy => ?_, .tup _ (by rw [List.length_append, List.length_append, List.length_take, List.length_drop]; simp; omega) fun y hy => ?_⟩
          · have e5 := add_tup (G := G4) l1
            have e6 := add_tup (G := G4) l2
            unfold s_20
            simp only [dSeq_ap, dIfS_ap, uAnd_ap, dTru_ap, dFn_ap, dCons_ap, dC_ap, dNil_ap, dv_s, dv_0 nx_ref, dv_0 nx_tup, R.bind_ok, on2_ap, on1_ap, t1, truD_bl, if_true, uB_ap, dCmp_ap, dTup_ap, List.length_nil, Nat.zero_le, en, Bool.not_false, dCall_ap, e1', cmp_gt, hx4, decide_true, R.st_ok, dAsg_ap, dgName_ap, List.set_cons_succ, List.set_cons_zero, tgt_nx, seq_nx, len_tup, e2', e3', dv_0 nx_int, cmp_eqi, hw0, hw1, Bool.false_eq_true, if_false, dNop_ap, dRet_ap, dBin_ap, dSlc_ap, dNoPart_ap, dPart_ap, h2, bin_add, h1, dIx_ap, hi, e4, List.length_cons, e5, e6, seq_rt, fin_rt]
            rw [if_pos (small _ (by decide))]
            simp only [R.bind_ok, e5, e6, R.st_ok, seq_rt, fin_rt]
          · rcases List.mem_append.mp hy with h | h
            · rcases List.mem_append.mp h with h | h
              · exact hk _ y (List.mem_of_mem_take h)
              · obtain rfl := List.mem_singleton.mp h; exact q1
            · exact hk _ y (List.mem_of_mem_drop h)
          · rcases List.mem_append.mp hy with h | h
            · rcases List.mem_append.mp h with h | h
              · exact (hz y (List.mem_of_mem_take h)).mono (by decide)
              · obtain rfl := List.mem_singleton.mp h; exact q2
            · exact (hz y (List.mem_of_mem_drop h)).mono (by decide)
    · refine rest G1 (k1.str hs) k1 fun v G2 e => ?_
      have hb : decide (0 < x) = false := by simpa using hx4
      unfold s_20
      simp [t1, t2, t3, en, e1', hb, e]
theorem ch_row (d : Nat) {G : GH} {s n : Nat} (hs : StrAt G s) (hn : n ≤ 10) (f : Nat → Fin 5) : ∃ v G', (rt (d + 4)).cf 20 [.ref s, row n f] G = .ok v G' ∧ Ch s G G' v :=
  ch_tup d hs (by simpa using hn) (fun G x hx => by obtain ⟨j, _, rfl⟩ := List.mem_map.mp hx; exact .str _) (fun x hx => by obtain ⟨j, _, rfl⟩ := List.mem_map.mp hx; exact .oth _ rfl)
    fun G h x hx => by obtain ⟨j, _, rfl⟩ := List.mem_map.mp hx; exact ch_gr d h _
theorem ch_tz (d : Nat) {G : GH} {s n : Nat} (hs : StrAt G s) (hn : n ≤ 10) (f : Nat → Nat → Fin 5) : ∃ v G', (rt (d + 5)).cf 20 [.ref s, tz n f] G = .ok v G' ∧ Ch s G G' v :=
  ch_tup (d + 1) hs (by simpa using hn) (fun G x hx => by obtain ⟨j, _, rfl⟩ := List.mem_map.mp hx; exact kz_row) (fun x hx => by obtain ⟨j, _, rfl⟩ := List.mem_map.mp hx; exact lz_row hn)
    fun G h x hx => by obtain ⟨j, _, rfl⟩ := List.mem_map.mp hx; exact ch_row d h hn _
end K
end
section
set_option Elab.async false
set_option linter.all false
set_option maxRecDepth 100000
set_option maxHeartbeats 4000000
namespace K
open PySem PySem.Spec PyProof.Rows L2 Zy
section
variable {l : L} {G0 : GH} {as : DA} {xs : List Z} {z : Z} {e1 e2 : DE} {t : List Nat} {s1 rest : DS}
theorem pu_callE {cf : CF} {k : Nat} (h : PuA l G0 as xs) (hc : ∀ E, ∃ E', cf k xs (G0 ++ E) = .ok z (G0 ++ E')) : Pu l G0 (dCall cf k as) z := fun E => by
  obtain ⟨E1, e1⟩ := h E
  obtain ⟨E2, e2⟩ := hc E1
  exact ⟨E2, by rw [dCall_ap, e1, R.bind_ok, e2]⟩
theorem zall2 {G : GH} : zall (zeq 39 G) [.str t, .str t] [.str t, .str t] = some true := by
  show (match (some (t == t) : Option Bool), (match (some (t == t) : Option Bool), (some true : Option Bool) with | some a, some b => some (a && b) | _, _ => none) with | some a, some b => some (a && b) | _, _ => none) = _
  simp
/-- found = [..]; found.append(..); if found != [due, due]: .. -/
theorem found_ok (h8 : l[8]? = some (some (.str t))) (h9 : 9 < l.length) (h1 : ∀ E, Pu l (G0 ++ E) e1 (.str t)) (h2 : ∀ E m, Pu (l.set 9 (some (.ref m))) (G0 ++ E) e2 (.str t)) (E : GH) :
    ∃ E' m, (dSeq (dAsg (dgName 9) (dLst (dCons e1 dNil))) (dSeq (dExp (dMth zAppend ["list"] (dVar 9) (dCons e2 dNil))) (dSeq (dIfS (uB (dCmp .NotEq (dVar 9) (dLst (dCons (dVar 8) (dCons (dVar 8) dNil))))) s1 dNop) rest))) l (G0 ++ E) = rest (l.set 9 (some (.ref m))) (G0 ++ E') := by
  obtain ⟨E1, q1⟩ := h1 E []
  rw [List.append_nil] at q1
  let X := G0 ++ E ++ E1
  let l' := l.set 9 (some (.ref X.length))
  obtain ⟨E2, q2⟩ := h2 (E ++ E1 ++ [.lst [.str t]]) X.length []
  rw [List.append_nil] at q2
  have hX : G0 ++ (E ++ E1 ++ [.lst [.str t]]) = X ++ [.lst [.str t]] := by simp [X]
  rw [hX] at q2
  have v9 : l'[9]? = some (some (.ref X.length)) := List.getElem?_set_self h9
  have v8 : l'[8]? = some (some (.str t)) := by show (l.set 9 _)[8]? = _; rw [List.getElem?_set_ne (by decide)]; exact h8
  have a1 : lstAt (X ++ [.lst [.str t]]) X.length = some [.str t] := lstAt_new
  have a2 : lstAt (X ++ [.lst [.str t]] ++ E2) X.length = some [.str t] := lstAt_app a1
  have ap := app_ref (z := .str t) a2 (smallL _ (by simp))
  have rc := recv_ref a1
  have hset : (X ++ [ZO.lst [.str t]] ++ E2).set X.length (.lst ([.str t] ++ [.str t])) = X ++ (.lst [.str t, .str t] :: E2) := by
    rw [List.append_assoc, set_sh0]; rfl
  rw [hset] at ap
  have b1 : lstAt (X ++ (.lst [.str t, .str t] :: E2) ++ [.lst [.str t, .str t]]) X.length = some [.str t, .str t] := lstAt_app at_sh0
  have b2 : lstAt (X ++ (.lst [.str t, .str t] :: E2) ++ [.lst [.str t, .str t]]) (X ++ (ZO.lst [.str t, .str t] :: E2)).length = some [.str t, .str t] := lstAt_new
  have ne := ne_refs b1 b2 zall2
  refine ⟨E ++ E1 ++ (.lst [.str t, .str t] :: E2) ++ [.lst [.str t, .str t]], X.length, ?_⟩
  rw [dSeq_ap, dAsg_ap, dLst_ap, dCons_ap, q1, R.bind_ok, dNil_ap, R.bind_ok, R.bind_ok, if_pos (small _ (by simp)), newO_ap, R.st_ok, dgName_ap, tgt_nx, seq_nx, dSeq_ap, dExp_ap, dMth_ap, dVar_ref v9, R.bind_ok]
  rw [show recvT (G0 ++ E ++ E1 ++ [ZO.lst [Z.str t]]) (.ref (G0 ++ E ++ E1).length) = some "list" from rc]
  simp only [List.contains_cons, beq_self_eq_true, Bool.true_or, if_true, dCons_ap]
  rw [show e2 (l.set 9 (some (Z.ref (G0 ++ E ++ E1).length))) (G0 ++ E ++ E1 ++ [ZO.lst [Z.str t]]) = _ from q2, R.bind_ok, dNil_ap, R.bind_ok, R.bind_ok]
  rw [show zAppend "list" (Z.ref (G0 ++ E ++ E1).length) [Z.str t] (X ++ [ZO.lst [Z.str t]] ++ E2) = _ from ap, R.st_ok, seq_nx, dSeq_ap, dIfS_ap, uB_ap, dCmp_ap, dVar_ref v9, R.bind_ok, dLst_ap, dCons_ap, dVar_str v8, R.bind_ok, dCons_ap, dVar_str v8, R.bind_ok, dNil_ap, R.bind_ok, R.bind_ok, R.bind_ok, if_pos (small _ (by simp)), newO_ap, R.bind_ok, ne]
  simp only [Bool.not_true, R.bind_ok, R.st_ok, Bool.false_eq_true, if_false, dNop_ap, seq_nx]
  simp [X]
end
/-! ### one value -/
def vB1 (r : Rt) : DS := (dSeq (dIfS (uB (dCmp .NotEq (dFn (on1 zRepr) (dCons (dCall r.cf 5 (dCons (dVar 7) (dCons (dVar 6) dNil))) dNil)) (dFn (on1 zRepr) (dCons (dCall r.cf 24 (dCons (dVar 7) (dCons (dVar 6) dNil))) dNil)))) (dSeq (dRet (dC (.bl false))) dNop) dNop) dNop)
theorem vB1_ok (d : Nat) {s : Nat} {l : L} {G0 : GH} {w : Int} {v : Z} (h7 : l[7]? = some (some (.int w))) (h6 : l[6]? = some (some v)) (hw : isInt 1 8 (.int w) = true) (hk : Kz s G0 v) (hs : Sz v) : PuS l G0 (vB1 (rt (d + 3))) l := by
  have v7 : Pu l G0 (dVar 7) (.int w) := pu_var h7 rfl
  have v6 : Pu l G0 (dVar 6) v := pu_var h6 hk.nx
  have r1 : Pu l G0 (dFn (on1 zRepr) (dCons (dCall (rt (d + 3)).cf 5 (dCons (dVar 7) (dCons (dVar 6) dNil))) dNil)) (.str (rb (isTb w v))) :=
    pu_fn (puA_cons (pu_callE (z := .bl (isTb w v)) (puA_cons v7 (puA_cons v6 puA_nil)) fun E => ⟨_, by rw [is_table_r d (hk.app (E := E)) hs hw, List.append_assoc]⟩) puA_nil) fun E => ⟨E, repr_bl⟩
  have r2 : Pu l G0 (dFn (on1 zRepr) (dCons (dCall (rt (d + 3)).cf 24 (dCons (dVar 7) (dCons (dVar 6) dNil))) dNil)) (.str (rb (isTb w v))) :=
    pu_fn (puA_cons (pu_callE (z := .bl (isTb w v)) (puA_cons v7 (puA_cons v6 puA_nil)) fun E => ⟨E, law_table_r (d + 2) (hk.app (E := E))⟩) puA_nil) fun E => ⟨E, repr_bl⟩
  exact puS_seq (puS_no (puT_b (pu_cmp r1 r2 fun E => by rw [cmp_nes]; simp))) puS_nop
/-- the answer of a lambda -/
theorem lam_ret (d : Nat) {th : GH → R Z} {G0 : GH} {z : Z} (h : ∀ E, ∃ E', th (G0 ++ E) = .ok z (G0 ++ E')) : ∀ E, ∃ E', (rt (d + 1)).lf 23 th (G0 ++ E) = .ok (.str tRet) (G0 ++ E') := fun E => by
  obtain ⟨E', e⟩ := h E
  exact ⟨E', err_ret d e⟩
theorem lam_tab (d : Nat) {th : GH → R Z} {G0 : GH} (h : ∀ E, ∃ E', th (G0 ++ E) = .exc ⟨.own 1, none⟩ (G0 ++ E')) : ∀ E, ∃ E', (rt (d + 1)).lf 23 th (G0 ++ E) = .ok (.str tTab) (G0 ++ E') := fun E => by
  obtain ⟨E', e⟩ := h E
  exact ⟨E', err_tab d e⟩
/-- a call in a lambda -/
theorem low_ok (d : Nat) {k : Nat} {l : L} {G0 : GH} {as : DA} {xs : List Z} {z : Z} (ha : ∀ G, as l G = .ok xs G) (h : ∀ G, ∃ E, (rt (d + 5)).cf k xs G = .ok z (G ++ E)) : ∀ E, ∃ E', (dCall (rt (d + 7)).low k as : DE) l (G0 ++ E) = .ok z (G0 ++ E') := fun E => by
  obtain ⟨E', e⟩ := h (G0 ++ E)
  refine ⟨E ++ E', ?_⟩
  rw [dCall_ap, ha, R.bind_ok, ← List.append_assoc]
  exact e
theorem low_exc (d : Nat) {k : Nat} {l : L} {G0 : GH} {as : DA} {xs : List Z} (ha : ∀ G, as l G = .ok xs G) (h : ∀ E, ∃ E', (rt (d + 5)).cf k xs (G0 ++ E) = .exc ⟨.own 1, none⟩ (G0 ++ E ++ E')) : ∀ E, ∃ E', (dCall (rt (d + 7)).low k as : DE) l (G0 ++ E) = .exc ⟨.own 1, none⟩ (G0 ++ E') := fun E => by
  obtain ⟨E', e⟩ := h E
  refine ⟨E ++ E', ?_⟩
  rw [dCall_ap, ha, R.bind_ok, ← List.append_assoc]
  exact e
def fnd (e1 e2 : DE) (rest : DS) : DS := (dSeq (dAsg (dgName 9) (dLst (dCons e1 dNil))) (dSeq (dExp (dMth zAppend ["list"] (dVar 9) (dCons e2 dNil))) (dSeq (dIfS (uB (dCmp .NotEq (dVar 9) (dLst (dCons (dVar 8) (dCons (dVar 8) dNil))))) (dSeq (dRet (dC (.bl false))) dNop) dNop) rest)))
def vB (r : Rt) : DS := (dSeq (dFor (dIter (dTup (dCons (dVar 1) (dCons (dBin .Add (dVar 1) (dC (.int (1)))) (dCons (dC (.int (1))) dNil))))) (dgName 7) (vB1 r)) (dSeq (dAsg (dgName 8) (dIf (dTru (dCall r.cf 24 (dCons (dVar 1) (dCons (dVar 6) dNil)))) (dC (.str tRet)) (dC (.str tTab))))
  (fnd (fun l G => r.lf 23 (fun G' => ((dCall r.low 9 (dCons (dVar 2) (dCons (dVar 6) dNil))) : DE) l G') G) (fun l G => r.lf 23 (fun G' => ((dCall r.low 9 (dCons (dVar 2) (dCons (dVar 2) (dCons (dVar 6) dNil)))) : DE) l G') G)
    (dSeq (dAsg (dgName 7) (dIf (dTru (dFn (on2 zIsi) (dCons (dVar 6) (dCons (dC (.ty "tuple")) dNil)))) (dFn (on1 zLen) (dCons (dVar 6) dNil)) (dC (.int (0))))) (dSeq (dAsg (dgName 8) (dIf (uAnd (uB (dChn .Lt .Lt (dC (.int (0))) (dVar 7) (dC (.int (9))))) (dTru (dCall r.cf 24 (dCons (dVar 7) (dCons (dVar 6) dNil))))) (dC (.str tRet)) (dC (.str tTab))))
      (fnd (fun l G => r.lf 23 (fun G' => ((dCall r.low 9 (dCons (dVar 6) dNil)) : DE) l G') G) (fun l G => r.lf 23 (fun G' => ((dCall r.low 11 (dCons (dVar 6) dNil)) : DE) l G') G) dNop))))))
def due (b : Bool) : List Nat := if b then tRet else tTab
def lenZ : Z → Int
  | .tup xs => xs.length
  | _ => 0
theorem vB_ok (d : Nat) {s n : Nat} (h1 : 1 ≤ n) (h7 : n ≤ 7) {f : Nat → Nat → Fin 5} {G0 : GH} {v : Z} {a0 a3 a4 a5 a7 a8 a9 a10 : Option Z} (hk : Kz s G0 v) (hs : Sz v) (E : GH) :
    ∃ E' b7 b8 b9, vB (rt (d + 7)) [a0, some (.int (n : Nat)), some (tz n f), a3, a4, a5, some v, a7, a8, a9, a10] (G0 ++ E) = .nx [a0, some (.int (n : Nat)), some (tz n f), a3, a4, a5, some v, b7, b8, b9, a10] (G0 ++ E') := by
  have h8 : n ≤ 8 := by omega
  -- the three widths
  obtain ⟨l1, X, w1, ⟨x7, rfl⟩, E1, rfl⟩ := for_pure (g := dgName 7) (body := vB1 (rt (d + 7))) [.int (n : Nat), .int ((n : Int) + 1), .int 1] (fun k l G' => (∃ x7, l = [a0, some (.int (n : Nat)), some (tz n f), a3, a4, a5, some v, x7, a8, a9, a10]) ∧ ∃ E1, G' = G0 ++ E1)
    (l := [a0, some (.int (n : Nat)), some (tz n f), a3, a4, a5, some v, a7, a8, a9, a10]) (G := G0 ++ E) ⟨⟨_, rfl⟩, _, rfl⟩ (fun k z l G' hz ⟨⟨x7, hl⟩, E1, hG⟩ => by
      subst hl hG
      obtain ⟨w, rfl, hw⟩ : ∃ w : Int, z = .int w ∧ isInt 1 8 (.int w) = true := by
        have hm := List.mem_of_getElem? hz
        simp only [List.mem_cons, List.not_mem_nil, or_false] at hm
        rcases hm with rfl | rfl | rfl
        · exact ⟨_, rfl, by simp [isInt]; omega⟩
        · exact ⟨_, rfl, by simp [isInt]; omega⟩
        · exact ⟨_, rfl, by simp [isInt]⟩
      obtain ⟨E2, q⟩ := vB1_ok (d + 4) (l := [a0, some (.int (n : Nat)), some (tz n f), a3, a4, a5, some v, some (.int w), a8, a9, a10]) rfl rfl hw hk hs E1
      exact ⟨_, _, _, _, rfl, .inl q, ⟨_, rfl⟩, E2, rfl⟩)
  -- due
  let b1 := isTb n v
  obtain ⟨E2, w2⟩ := (show PuS [a0, some (.int (n : Nat)), some (tz n f), a3, a4, a5, some v, x7, a8, a9, a10] G0 (dAsg (dgName 8) (dIf (dTru (dCall (rt (d + 7)).cf 24 (dCons (dVar 1) (dCons (dVar 6) dNil)))) (dC (.str tRet)) (dC (.str tTab)))) [a0, some (.int (n : Nat)), some (tz n f), a3, a4, a5, some v, x7, some (.str (due b1)), a9, a10] from
    puS_asg (pu_if (p := b1) (puT_tru (pu_callE (puA_cons (pu_var rfl rfl) (puA_cons (pu_var rfl hk.nx) puA_nil)) fun E => ⟨E, law_table_r (d + 6) (hk.app (E := E))⟩)) (fun h => by rw [h]; exact pu_c) (fun h => by rw [h]; exact pu_c))) E1
  -- the first pair of calls
  have vv6 : ∀ (l : L) G, l[6]? = some (some v) → dVar 6 l G = .ok v G := fun l G h => dVar_of h (nx_ne hk.nx)
  have vv2 : ∀ (l : L) G, l[2]? = some (some (tz n f)) → dVar 2 l G = .ok (tz n f) G := fun l G h => dVar_of h tz_ex
  have A1 : ∀ (l : L), l[2]? = some (some (tz n f)) → l[6]? = some (some v) → ∀ G, (dCons (dVar 2) (dCons (dVar 6) dNil)) l G = .ok [tz n f, v] G := fun l h2 h6 G => by
    rw [dCons_ap, vv2 l G h2, R.bind_ok, dCons_ap, vv6 l G h6]; rfl
  have A2 : ∀ (l : L), l[2]? = some (some (tz n f)) → l[6]? = some (some v) → ∀ G, (dCons (dVar 2) (dCons (dVar 2) (dCons (dVar 6) dNil))) l G = .ok [tz n f, tz n f, v] G := fun l h2 h6 G => by
    rw [dCons_ap, vv2 l G h2, R.bind_ok, dCons_ap, vv2 l G h2, R.bind_ok, dCons_ap, vv6 l G h6]; rfl
  have A3 : ∀ (l : L), l[6]? = some (some v) → ∀ G, (dCons (dVar 6) dNil) l G = .ok [v] G := fun l h6 G => by
    rw [dCons_ap, vv6 l G h6]; rfl
  have P1 : ∀ (l : L), l[2]? = some (some (tz n f)) → l[6]? = some (some v) → ∀ E, Pu l (G0 ++ E) (fun l G => (rt (d + 7)).lf 23 (fun G' => ((dCall (rt (d + 7)).low 9 (dCons (dVar 2) (dCons (dVar 6) dNil))) : DE) l G') G) (.str (due b1)) := fun l h2 h6 E => by
    cases hb : b1 with
    | true =>
      obtain ⟨g, rfl⟩ := isTb_of hb
      exact lam_ret (d + 6) (low_ok d (A1 l h2 h6) (prod_p d h1 h8 f [g] (by simp) rfl rfl))
    | false => exact lam_tab (d + 6) (low_exc d (A1 l h2 h6) fun E2 => (prod_bad d h1 h8 ((hk.app (E := E)).app (E := E2)) hs hb).1)
  have P2 : ∀ (l : L), l[2]? = some (some (tz n f)) → l[6]? = some (some v) → ∀ E, Pu l (G0 ++ E) (fun l G => (rt (d + 7)).lf 23 (fun G' => ((dCall (rt (d + 7)).low 9 (dCons (dVar 2) (dCons (dVar 2) (dCons (dVar 6) dNil)))) : DE) l G') G) (.str (due b1)) := fun l h2 h6 E => by
    cases hb : b1 with
    | true =>
      obtain ⟨g, rfl⟩ := isTb_of hb
      exact lam_ret (d + 6) (low_ok d (A2 l h2 h6) (prod_p d h1 h8 f [f, g] (by simp) rfl rfl))
    | false => exact lam_tab (d + 6) (low_exc d (A2 l h2 h6) fun E2 => (prod_bad d h1 h8 ((hk.app (E := E)).app (E := E2)) hs hb).2)
  let b2 := anyTb v
  have P3 : ∀ (l : L), l[6]? = some (some v) → ∀ E, Pu l (G0 ++ E) (fun l G => (rt (d + 7)).lf 23 (fun G' => ((dCall (rt (d + 7)).low 9 (dCons (dVar 6) dNil)) : DE) l G') G) (.str (due b2)) := fun l h6 E => by
    cases hb : b2 with
    | true =>
      obtain ⟨m, g, rfl, m1, m8⟩ := anyTb_of hb
      exact lam_ret (d + 6) (low_ok d (A3 l h6) (prod_p d m1 m8 g [] (by simp) rfl rfl))
    | false => exact lam_tab (d + 6) (low_exc d (A3 l h6) fun E2 => prod_none d ((hk.app (E := E)).app (E := E2)) hs hb)
  have P4 : ∀ (l : L), l[6]? = some (some v) → ∀ E, Pu l (G0 ++ E) (fun l G => (rt (d + 7)).lf 23 (fun G' => ((dCall (rt (d + 7)).low 11 (dCons (dVar 6) dNil)) : DE) l G') G) (.str (due b2)) := fun l h6 E => by
    cases hb : b2 with
    | true =>
      obtain ⟨m, g, rfl, m1, m8⟩ := anyTb_of hb
      exact lam_ret (d + 6) (low_ok d (A3 l h6) (idem_p d m1 m8 g))
    | false => exact lam_tab (d + 6) (low_exc d (A3 l h6) fun E2 => idem_bad d ((hk.app (E := E)).app (E := E2)) hs hb)
  obtain ⟨E3, m3, w3⟩ := found_ok (G0 := G0) (t := due b1) (l := [a0, some (.int (n : Nat)), some (tz n f), a3, a4, a5, some v, x7, some (.str (due b1)), a9, a10]) rfl (by simp) (P1 _ rfl rfl) (fun E m => P2 _ rfl rfl E) E2
    (s1 := (dSeq (dRet (dC (.bl false))) dNop)) (rest := (dSeq (dAsg (dgName 7) (dIf (dTru (dFn (on2 zIsi) (dCons (dVar 6) (dCons (dC (.ty "tuple")) dNil)))) (dFn (on1 zLen) (dCons (dVar 6) dNil)) (dC (.int (0))))) (dSeq (dAsg (dgName 8) (dIf (uAnd (uB (dChn .Lt .Lt (dC (.int (0))) (dVar 7) (dC (.int (9))))) (dTru (dCall (rt (d + 7)).cf 24 (dCons (dVar 7) (dCons (dVar 6) dNil))))) (dC (.str tRet)) (dC (.str tTab))))
      (fnd (fun l G => (rt (d + 7)).lf 23 (fun G' => ((dCall (rt (d + 7)).low 9 (dCons (dVar 6) dNil)) : DE) l G') G) (fun l G => (rt (d + 7)).lf 23 (fun G' => ((dCall (rt (d + 7)).low 11 (dCons (dVar 6) dNil)) : DE) l G') G) dNop))))
  -- wide, due
  have isi : ∀ E, zIsi v (.ty "tuple") (G0 ++ E) = .ok (.bl (isTupZ v)) (G0 ++ E) := fun E => isi_tup (hk.app (E := E))
  obtain ⟨E4, w4⟩ := (show PuS [a0, some (.int (n : Nat)), some (tz n f), a3, a4, a5, some v, x7, some (.str (due b1)), some (.ref m3), a10] G0 (dAsg (dgName 7) (dIf (dTru (dFn (on2 zIsi) (dCons (dVar 6) (dCons (dC (.ty "tuple")) dNil)))) (dFn (on1 zLen) (dCons (dVar 6) dNil)) (dC (.int (0))))) [a0, some (.int (n : Nat)), some (tz n f), a3, a4, a5, some v, some (.int (lenZ v)), some (.str (due b1)), some (.ref m3), a10] from
    puS_asg (pu_if (p := isTupZ v) (puT_tru (pu_fn (puA_cons (pu_var rfl hk.nx) (puA_cons pu_c puA_nil)) fun E => ⟨E, isi E⟩)) (fun h => pu_fn (puA_cons (pu_var rfl hk.nx) puA_nil) fun E => ⟨E, by cases v <;> first | rfl | cases h⟩) (fun h => by
      have : lenZ v = 0 := by cases v <;> first | rfl | cases h
      rw [this]; exact pu_c))) E3
  obtain ⟨E5, w5⟩ := (show PuS [a0, some (.int (n : Nat)), some (tz n f), a3, a4, a5, some v, some (.int (lenZ v)), some (.str (due b1)), some (.ref m3), a10] G0 (dAsg (dgName 8) (dIf (uAnd (uB (dChn .Lt .Lt (dC (.int (0))) (dVar 7) (dC (.int (9))))) (dTru (dCall (rt (d + 7)).cf 24 (dCons (dVar 7) (dCons (dVar 6) dNil))))) (dC (.str tRet)) (dC (.str tTab)))) [a0, some (.int (n : Nat)), some (tz n f), a3, a4, a5, some v, some (.int (lenZ v)), some (.str (due b2)), some (.ref m3), a10] from by
    refine puS_asg (pu_if (p := b2) ?_ (fun h => by rw [h]; exact pu_c) (fun h => by rw [h]; exact pu_c))
    have ch : Pu [a0, some (.int (n : Nat)), some (tz n f), a3, a4, a5, some v, some (.int (lenZ v)), some (.str (due b1)), some (.ref m3), a10] G0 (dChn .Lt .Lt (dC (.int (0))) (dVar 7) (dC (.int (9)))) (.bl (decide (0 < lenZ v ∧ lenZ v < 9))) := fun E => ⟨E, by
      rw [dChn_ap, dC_ap, R.bind_ok, dVar_of (z := .int (lenZ v)) rfl (nx_ne rfl), R.bind_ok, cmp_lt, R.bind_ok]
      by_cases h0 : 0 < lenZ v
      · by_cases h9 : lenZ v < 9 <;> simp [h0, h9]
      · simp [h0]⟩
    have tb : PuT [a0, some (.int (n : Nat)), some (tz n f), a3, a4, a5, some v, some (.int (lenZ v)), some (.str (due b1)), some (.ref m3), a10] G0 (dTru (dCall (rt (d + 7)).cf 24 (dCons (dVar 7) (dCons (dVar 6) dNil)))) (isTb (lenZ v) v) := puT_tru (pu_callE (puA_cons (pu_var rfl rfl) (puA_cons (pu_var rfl hk.nx) puA_nil)) fun E => ⟨E, law_table_r (d + 6) (hk.app (E := E))⟩)
    by_cases h : 0 < lenZ v ∧ lenZ v < 9
    · have hb : b2 = isTb (lenZ v) v := by
        show anyTb v = _
        cases v with
        | tup rs =>
          have h' : 0 < (rs.length : Int) ∧ (rs.length : Int) < 9 := h
          show (decide (1 ≤ rs.length ∧ rs.length ≤ 8) && isTb rs.length (.tup rs)) = isTb rs.length (.tup rs)
          rw [decide_eq_true (show 1 ≤ rs.length ∧ rs.length ≤ 8 by omega), Bool.true_and]
        | _ => exact absurd h.1 (by simp [lenZ])
      rw [hb]
      have ch' := puT_b ch
      rw [decide_eq_true h] at ch'
      exact puT_and1 ch' tb
    · have hb : b2 = false := by
        show anyTb v = _
        cases v with
        | tup rs =>
          have h' : ¬ (0 < (rs.length : Int) ∧ (rs.length : Int) < 9) := h
          show (decide (1 ≤ rs.length ∧ rs.length ≤ 8) && isTb rs.length (.tup rs)) = false
          rw [decide_eq_false (show ¬ (1 ≤ rs.length ∧ rs.length ≤ 8) by omega), Bool.false_and]
        | _ => rfl
      rw [hb]
      have ch' := puT_b ch
      rw [decide_eq_false h] at ch'
      exact puT_and0 ch') E4
  obtain ⟨E6, m6, w6⟩ := found_ok (G0 := G0) (t := due b2) (l := [a0, some (.int (n : Nat)), some (tz n f), a3, a4, a5, some v, some (.int (lenZ v)), some (.str (due b2)), some (.ref m3), a10]) rfl (by simp) (P3 _ rfl) (fun E m => P4 _ rfl E) E5
    (s1 := (dSeq (dRet (dC (.bl false))) dNop)) (rest := dNop)
  refine ⟨E6, some (.int (lenZ v)), some (.str (due b2)), some (.ref m6), ?_⟩
  have it : (dTup (dCons (dVar 1) (dCons (dBin .Add (dVar 1) (dC (.int (1)))) (dCons (dC (.int (1))) dNil)))) [a0, some (.int (n : Nat)), some (tz n f), a3, a4, a5, some v, a7, a8, a9, a10] (G0 ++ E) = .ok (.tup [.int (n : Nat), .int ((n : Int) + 1), .int 1]) (G0 ++ E) := by
    have s3 : 3 ≤ sizeLine := small _ (by decide)
    simp [s3]
  unfold vB
  rw [dSeq_ap, dFor_ap, dIter_ap, it, R.bind_ok, toItr_tup, R.st_ok]
  simp only [Wk.len]
  rw [w1, seq_nx, dSeq_ap, w2, seq_nx]
  refine Eq.trans w3 ?_
  rw [show ([a0, some (Z.int (n : Nat)), some (tz n f), a3, a4, a5, some v, x7, some (Z.str (due b1)), a9, a10] : L).set 9 (some (Z.ref m3)) = [a0, some (.int (n : Nat)), some (tz n f), a3, a4, a5, some v, x7, some (.str (due b1)), some (.ref m3), a10] from rfl]
  rw [dSeq_ap, w4, seq_nx, dSeq_ap, w5, seq_nx]
  exact w6
end K
end
section
set_option Elab.async false
set_option linter.all false
set_option maxRecDepth 100000
set_option maxHeartbeats 4000000
namespace K
open PySem PySem.Spec PyProof.Rows L2 Zy
theorem Kz.setl {s n : Nat} {G : GH} {v : Z} {ys zs : List Z} (h : Kz s G v) (hn : lstAt G n = some zs) : Kz s (G.set n (.lst ys)) v := by
  have ln := (List.getElem?_eq_some_iff.mp (lstAt_eq.mp hn)).1
  induction h with
  | non => exact .non
  | bl b => exact .bl b
  | int i => exact .int i
  | str x => exact .str x
  | tup xs h ih => exact .tup xs ih
  | lst m xs h hs =>
    by_cases e : n = m
    · subst e; exact .lst n ys (List.getElem?_set_self ln) hs
    · exact .lst m xs (by rw [List.getElem?_set_ne e]; exact h) hs
  | dic m ks xs h hs =>
    by_cases e : n = m
    · subst e; exact .lst n ys (List.getElem?_set_self ln) hs
    · exact .dic m ks xs (by rw [List.getElem?_set_ne e]; exact h) hs
/-- all of a list's values are known and small -/
def Ok (s : Nat) (G : GH) (xs : List Z) : Prop := ∀ x ∈ xs, Kz s G x ∧ Lz 11 x
theorem Ok.keep {s : Nat} {G G' : GH} {xs : List Z} (h : Ok s G xs) (k : Keep s G G') : Ok s G' xs := fun x hx => ⟨(h x hx).1.keep k, (h x hx).2⟩
theorem Ok.setl {s n : Nat} {G : GH} {xs ys zs : List Z} (h : Ok s G xs) (hn : lstAt G n = some zs) : Ok s (G.set n (.lst ys)) xs := fun x hx => ⟨(h x hx).1.setl hn, (h x hx).2⟩
theorem Ok.app {s : Nat} {G : GH} {xs ys : List Z} (h : Ok s G xs) (h2 : Ok s G ys) : Ok s G (xs ++ ys) := fun x hx => by
  rcases List.mem_append.mp hx with h3 | h3
  · exact h x h3
  · exact h2 x h3
theorem Ok.one {s : Nat} {G : GH} {x : Z} (h : Kz s G x) (h2 : Lz 11 x) : Ok s G [x] := fun y hy => by
  obtain rfl := List.mem_singleton.mp hy; exact ⟨h, h2⟩
theorem Ok.cons {s : Nat} {G : GH} {x : Z} {xs : List Z} (h : Kz s G x) (h2 : Lz 11 x) (h3 : Ok s G xs) : Ok s G (x :: xs) := fun y hy => by
  rcases List.mem_cons.mp hy with rfl | hy
  · exact ⟨h, h2⟩
  · exact h3 y hy
theorem Ok.nil {s : Nat} {G : GH} : Ok s G [] := fun y hy => by cases hy
/-- [list(row) for row in table] -/
theorem lists_ok {s n : Nat} (hn : n ≤ 100) {f : Nat → Nat → Fin 5} {G : GH} (hs : s < G.length) {l : L} (hl : 5 ≤ l.length) (h2 : l[2]? = some (some (tz n f))) :
    ∃ acc G', dComp (dIter (dVar 2)) (.nm 4) dYes (dFn (tyZ "list") (dCons (dVar 4) dNil)) [4] l G = .ok (.ref G.length) G' ∧ lstAt G' G.length = some acc ∧ acc.length = n ∧ Keep s G G' ∧ Ok s G' acc := by
  obtain ⟨acc, G', e1, e2, e3, kp, ok⟩ := lc_go (xs := (List.range n).map fun i => row n (f i)) (i := 4) (e := dFn (tyZ "list") (dCons (dVar 4) dNil)) (l := wipeZ l [4]) (n := G.length) (G0 := G ++ [.lst []]) (fun k acc G' => Keep s G G' ∧ Ok s G' acc)
    (fun k z acc G' hz ⟨kp, ok⟩ hL => by
      rw [List.getElem?_map] at hz
      obtain ⟨i, hi, rfl⟩ := Option.map_eq_some_iff.mp hz
      have e0 : dVar 4 ((wipeZ l [4]).set 4 (some (row n (f i)))) G' = .ok (row n (f i)) G' := dVar_of (List.getElem?_set_self (by simp [wipeZ]; omega)) row_ex
      have hL2 : lstAt (G' ++ [.lst ((List.range n).map fun j => gz (f i j))]) G.length = some acc := lstAt_app hL
      have k2 : Keep s G (G' ++ [.lst ((List.range n).map fun j => gz (f i j))]) := kp.trans Keep.app
      have kn : Kz s (G' ++ [.lst ((List.range n).map fun j => gz (f i j))]) (.ref G'.length) := .lst _ _ (by rw [List.getElem?_append_right (Nat.le_refl _), Nat.sub_self]; rfl) (by have := kp.len; omega)
      refine ⟨.ref G'.length, G' ++ [.lst ((List.range n).map fun j => gz (f i j))], ?_, hL2, k2.set (Nat.le_refl _), ((ok.keep Keep.app).app (.one kn (.oth _ rfl))).setl hL2⟩
      rw [dFn_ap, dCons_ap, e0]; rfl)
    (by simp; exact small _ hn) ⟨Keep.app, .nil⟩ lstAt_new
  rw [List.length_map, List.length_range] at e3
  refine ⟨acc, G', ?_, e2, e3, kp, ok⟩
  rw [dComp_ap, dIter_ap, dVar_of h2 tz_ex, R.bind_ok, toItr_tz]
  simp only [R.bind_ok, Wk.len]
  exact e1
/-- [_law_changed(stream, table) for turn in range(6)] -/
theorem changes_ok (d : Nat) {s n : Nat} (hn : n ≤ 10) {f : Nat → Nat → Fin 5} {G : GH} (hs : StrAt G s) {l : L} (hl : 6 ≤ l.length) (h0 : l[0]? = some (some (.ref s))) (h2 : l[2]? = some (some (tz n f))) :
    ∃ acc G', dComp (dRng1 (dCons (dC (.int (6))) dNil)) (.nm 5) dYes (dCall (rt (d + 5)).cf 20 (dCons (dVar 0) (dCons (dVar 2) dNil))) [5] l G = .ok (.ref G.length) G' ∧ lstAt G' G.length = some acc ∧ acc.length = 6 ∧ Keep s G G' ∧ Ok s G' acc := by
  have lt := hs.lt
  obtain ⟨acc, G', e1, e2, e3, kp, ok⟩ := lc_go (xs := rngZ 0 (6 : Nat)) (i := 5) (e := dCall (rt (d + 5)).cf 20 (dCons (dVar 0) (dCons (dVar 2) dNil))) (l := wipeZ l [5]) (n := G.length) (G0 := G ++ [.lst []]) (fun k acc G' => Keep s G G' ∧ Ok s G' acc)
    (fun k z acc G' hz ⟨kp, ok⟩ hL => by
      have w0 : ((wipeZ l [5]).set 5 (some z))[0]? = some (some (.ref s)) := by
        unfold wipeZ; rw [List.getElem?_set_ne (by decide)]; unfold wipeZ; rw [List.getElem?_set_ne (by decide)]; exact h0
      have w2 : ((wipeZ l [5]).set 5 (some z))[2]? = some (some (tz n f)) := by
        unfold wipeZ; rw [List.getElem?_set_ne (by decide)]; unfold wipeZ; rw [List.getElem?_set_ne (by decide)]; exact h2
      obtain ⟨v, G2, q1, q2, q3, q4⟩ := ch_tz d (kp.str hs) hn f
      have hL2 := q2.lst hL (by omega)
      refine ⟨v, G2, ?_, hL2, (kp.trans q2).set (Nat.le_refl _), ((ok.keep q2).app (.one q3 q4)).setl hL2⟩
      rw [dCall_ap, dCons_ap, dVar_ref w0, R.bind_ok, dCons_ap, dVar_of w2 tz_ex, R.bind_ok, dNil_ap, R.bind_ok, R.bind_ok, R.bind_ok]
      exact q1)
    (by rw [rng_len]; exact small _ (by decide)) ⟨Keep.app, .nil⟩ lstAt_new
  rw [rng_len] at e1 e3
  refine ⟨acc, G', ?_, e2, e3, kp, ok⟩
  have o6 : okR 6 = true := by decide
  rw [dComp_ap, dRng1_ap, dCons_ap, dC_ap, R.bind_ok, dNil_ap, R.bind_ok, R.bind_ok]
  simp only [o6, if_true, R.bind_ok, Wk.len]
  exact e1
/-- the odd sizes -/
theorem repr_pd {v : Z} {G : GH} {d : PyData} (h : pd 20 G v = some d) (ok : okD d = true) : zRepr v G = .ok (.str d.shown.cps.toList) G := by
  unfold zRepr
  rw [h]
  simp only [ok, if_true]
def oddE (r : Rt) : DE := dIx (dLst (dCons (dC (.int (0))) (dCons (dC (.int (9))) (dCons (dNeg (dC (.int (1)))) (dCons (dC (.non)) (dCons (dC (.bl true)) (dCons (dC (.str [50])) (dCons (dTup (dCons (dC (.int (1))) dNil)) (dCons (dLst (dCons (dC (.int (1))) dNil)) (dCons (dBin .Pow (dC (.int (10))) (dC (.int (39)))) dNil)))))))))) (dCall r.cf 15 (dCons (dVar 0) (dCons (dC (.int (9))) dNil)))
theorem odd_ok (d : Nat) {s : Nat} {G : GH} (hs : StrAt G s) {l : L} (h0 : l[0]? = some (some (.ref s))) : ∃ v G' t, oddE (rt (d + 1)) l G = .ok v G' ∧ Keep s G G' ∧ Kz s G' v ∧ isInt 1 8 v = false ∧ t.length ≤ 100 ∧ ∀ E, zRepr v (G' ++ E) = .ok (.str t) (G' ++ E) := by
  have lt := hs.lt
  let W : List Z := [.int 0, .int 9, .int (-1), .non, .bl true, .str [50], .tup [.int 1], .ref G.length, .int ten39]
  let P : GH := G ++ [.lst [.int 1], .lst W]
  have kP : Keep s G P := Keep.app
  have a0 : lstAt P G.length = some [.int 1] := at_sh0
  have a1 : lstAt P (G.length + 1) = some W := at_sh
  obtain ⟨x, G1, e1, k1, x0, x9⟩ := drawR d (tot := 9) (kP.str hs) (by decide) (by decide)
  have hp := k1.lst a1 (by omega)
  have h0' := k1.lst a0 (by omega)
  obtain ⟨v, hv, hm⟩ := ixl hp x0 (by simpa [W] using x9)
  have s9 : ∀ n, n ≤ 100 → n ≤ sizeLine := small
  have ev : oddE (rt (d + 1)) l G = .ok v G1 := by
    have e1' : (rt (d + 1)).cf 15 [.ref s, .int 9] (G ++ [.lst [.int 1], .lst [.int 0, .int 9, .int (-1), .non, .bl true, .str [50], .tup [.int 1], .ref G.length, .int ten39]]) = .ok (.int x) G1 := e1
    have v0 : ∀ G', dVar 0 l G' = .ok (.ref s) G' := fun G' => dVar_of h0 (fun q => nomatch q)
    unfold oddE
    simp [s9, pow_39, neg_ap, v0]
    refine (congrArg (fun r : R Z => r.bind _) e1').trans ?_
    exact hv
  refine ⟨v, G1, ?_⟩
  have fin : ∀ dd : PyData, Kz s G1 v → isInt 1 8 v = false → (∀ E, pd 20 (G1 ++ E) v = some dd) → okD dd = true → dd.shown.cps.toList.length ≤ 100 → ∃ t, oddE (rt (d + 1)) l G = .ok v G1 ∧ Keep s G G1 ∧ Kz s G1 v ∧ isInt 1 8 v = false ∧ t.length ≤ 100 ∧ ∀ E, zRepr v (G1 ++ E) = .ok (.str t) (G1 ++ E) :=
    fun dd q1 q2 q3 q4 q5 => ⟨_, ev, kP.trans k1, q1, q2, q5, fun E => repr_pd (q3 E) q4⟩
  simp only [W, List.mem_cons, List.not_mem_nil, or_false] at hm
  rcases hm with rfl | rfl | rfl | rfl | rfl | rfl | rfl | rfl | rfl
  · exact fin (.int 0) (.int _) (by decide) (fun E => rfl) (by decide +kernel) (by decide +kernel)
  · exact fin (.int 9) (.int _) (by decide) (fun E => rfl) (by decide +kernel) (by decide +kernel)
  · exact fin (.int (-1)) (.int _) (by decide) (fun E => rfl) (by decide +kernel) (by decide +kernel)
  · exact fin .none .non rfl (fun E => rfl) (by decide +kernel) (by decide +kernel)
  · exact fin (.bool true) (.bl _) rfl (fun E => rfl) (by decide +kernel) (by decide +kernel)
  · exact fin (.str ⟨#[50]⟩) (.str _) rfl (fun E => rfl) (by decide +kernel) (by decide +kernel)
  · exact fin (.tuple [.int 1]) (kz_tup1 (.int _)) rfl (fun E => rfl) (by decide +kernel) (by decide +kernel)
  · refine fin (.list [.int 1]) (.lst _ _ (lstAt_eq.mp h0') (by omega)) rfl (fun E => ?_) (by decide +kernel) (by decide +kernel)
    show (match (lstAt (G1 ++ E) G.length).map Kd.lst with | some k => pdK (pd 19 (G1 ++ E)) (G1 ++ E) k | none => pdD (pd 19 (G1 ++ E)) (G1 ++ E) (.ref G.length)) = _
    rw [lstAt_app h0']
    rfl
  · exact fin (.int ten39) (.int _) (by decide +kernel) (fun E => rfl) (by decide +kernel) (by decide +kernel)
end K
end
section
set_option Elab.async false
set_option linter.all false
set_option maxRecDepth 100000
set_option maxHeartbeats 4000000
namespace K
open PySem PySem.Spec PyProof.Rows L2 Zy
def val1 : DE := dLst (dCons (dVar 2) (dCons (dSlc (dVar 2) dNoPart (dPart (dNeg (dC (.int (1)))))) (dCons (dBin .Add (dVar 2) (dSlc (dVar 2) dNoPart (dPart (dC (.int (1)))))) (dCons (dFn (tyZ "list") (dCons (dVar 2) dNil)) (dCons (dFn (tyZ "tuple") (dCons (dComp (dIter (dVar 2)) (.nm 4) dYes (dFn (tyZ "list") (dCons (dVar 4) dNil)) [4]) dNil)) (dCons (dC (.non)) (dCons (dTup dNil) (dCons (dC (.str [116, 97, 98, 108, 101])) dNil))))))))
theorem val1_ok {s n : Nat} (hn : n ≤ 7) {f : Nat → Nat → Fin 5} {G : GH} (hs : StrAt G s) {l : L} (hl : 5 ≤ l.length) (h2 : l[2]? = some (some (tz n f))) :
    ∃ V m G', val1 l G = .ok (.ref m) G' ∧ lstAt G' m = some V ∧ V.length ≤ 20 ∧ m ≠ s ∧ Keep s G G' ∧ Ok s G' V := by
  have lt := hs.lt
  let xs : List Z := (List.range n).map fun i => row n (f i)
  let G1 : GH := G ++ [.lst xs]
  obtain ⟨acc, G2, e1, e2, e3, k2, ok2⟩ := lists_ok (n := n) (by omega) (f := f) (G := G1) (s := s) (by simp [G1]; omega) hl h2
  have kk : Keep s G G2 := (Keep.app (E := [.lst xs])).trans k2
  have v2 : ∀ G', dVar 2 l G' = .ok (tz n f) G' := fun G' => dVar_of h2 tz_ex
  have lx : xs.length = n := by simp [xs]
  have s1 : ∀ G', zSlc (tz n f) none (some (-1)) G' = .ok (.tup (cutZ xs none (some (-1)))) G' := fun G' => rfl
  have s2 : ∀ G', zSlc (tz n f) none (some 1) G' = .ok (.tup (xs.take 1)) G' := fun G' => slc_hi (n := 1)
  have a1 : ∀ G', zBin .Add (tz n f) (.tup (xs.take 1)) G' = .ok (.tup (xs ++ xs.take 1)) G' := fun G' => add_tup (small _ (by rw [lx, List.length_take]; omega))
  have li : tyZ "list" [tz n f] G = .ok (.ref G.length) G1 := rfl
  have tt := tup_ref e2
  have kx : ∀ G', ∀ x ∈ xs, Kz s G' x ∧ Lz 11 x := fun G' x hx => by
    obtain ⟨i, _, rfl⟩ := List.mem_map.mp hx
    exact ⟨kz_row, lz_row (by omega)⟩
  refine ⟨[tz n f, .tup (cutZ xs none (some (-1))), .tup (xs ++ xs.take 1), .ref G.length, .tup acc, .non, .tup [], .str [116, 97, 98, 108, 101]], G2.length, G2 ++ [.lst [tz n f, .tup (cutZ xs none (some (-1))), .tup (xs ++ xs.take 1), .ref G.length, .tup acc, .non, .tup [], .str [116, 97, 98, 108, 101]]], ?_, lstAt_new, by simp, by have := kk.len; omega, kk.trans Keep.app, ?_⟩
  · unfold val1
    rw [dLst_ap, dCons_ap, v2, R.bind_ok, dCons_ap, dSlc_ap, v2, R.bind_ok, dNoPart_ap, R.bind_ok, dPart_ap, dNeg_ap, dC_ap, R.bind_ok, neg_ap, R.bind_ok]
    simp only [R.bind_ok, s1]
    rw [dCons_ap, dBin_ap, v2, R.bind_ok, dSlc_ap, v2, R.bind_ok, dNoPart_ap, R.bind_ok, dPart_ap, dC_ap, R.bind_ok]
    simp only [R.bind_ok, s2, a1]
    rw [dCons_ap, dFn_ap, dCons_ap, v2, R.bind_ok, dNil_ap, R.bind_ok, R.bind_ok, li, R.bind_ok, dCons_ap, dFn_ap, dCons_ap, e1, R.bind_ok, dNil_ap, R.bind_ok, R.bind_ok, tt, R.bind_ok]
    rw [dCons_ap, dC_ap, R.bind_ok, dCons_ap, dTup_ap, dNil_ap, R.bind_ok, if_pos (small _ (by simp)), R.bind_ok, dCons_ap, dC_ap, R.bind_ok, dNil_ap, R.bind_ok, R.bind_ok, R.bind_ok, R.bind_ok, R.bind_ok, R.bind_ok, R.bind_ok, R.bind_ok, R.bind_ok, if_pos (small _ (by simp))]
    rfl
  · have kn : Kz s G1 (.ref G.length) := .lst _ xs (by rw [List.getElem?_append_right (Nat.le_refl _), Nat.sub_self]; rfl) (by omega)
    refine Ok.keep (G := G2) ?_ Keep.app
    refine .cons kz_tz (lz_tz (by omega)) (.cons (.tup _ fun x hx => (kx G2 x (cut_mem hx)).1) (.tup _ (by have := cutZ_len xs none (some (-1)); omega) fun x hx => (kx G2 x (cut_mem hx)).2) (.cons (.tup _ fun x hx => ?_) (.tup _ (by rw [List.length_append, List.length_take]; omega) fun x hx => ?_) (.cons (kn.keep k2) (.oth _ rfl) (.cons (.tup _ fun x hx => (ok2 x hx).1) (.tup _ (by omega) fun x hx => (ok2 x hx).2) (.cons .non (.oth _ rfl) (.cons (.tup _ fun x hx => by cases hx) (.tup _ (by simp) fun x hx => by cases hx) (.cons (.str _) (.oth _ rfl) .nil)))))))
    · rcases List.mem_append.mp hx with h | h
      · exact (kx G2 x h).1
      · exact (kx G2 x (List.mem_of_mem_take h)).1
    · rcases List.mem_append.mp hx with h | h
      · exact (kx G2 x h).2
      · exact (kx G2 x (List.mem_of_mem_take h)).2
def val2 (r : Rt) : DE := dBin .Add (dBin .Add (dVar 3) (dComp (dRng1 (dCons (dC (.int (6))) dNil)) (.nm 5) dYes (dCall r.cf 20 (dCons (dVar 0) (dCons (dVar 2) dNil))) [5])) (dLst (dCons (dCall r.cf 19 (dCons (dVar 0) dNil)) (dCons (dIx (dVar 2) (dC (.int (0)))) (dCons (dTup (dCons (dVar 2) dNil)) dNil))))
theorem val2_ok (d : Nat) {s n m : Nat} (h1 : 1 ≤ n) (hn : n ≤ 7) {f : Nat → Nat → Fin 5} {G : GH} {V : List Z} (hs : StrAt G s) (hV : lstAt G m = some V) (lV : V.length ≤ 20) (hm : m ≠ s) (ok : Ok s G V) {l : L} (hl : 6 ≤ l.length) (h0 : l[0]? = some (some (.ref s))) (h2 : l[2]? = some (some (tz n f))) (h3 : l[3]? = some (some (.ref m))) :
    ∃ W k G', val2 (rt (d + 5)) l G = .ok (.ref k) G' ∧ lstAt G' k = some W ∧ W.length ≤ 50 ∧ Keep s G G' ∧ Ok s G' W := by
  have lt := hs.lt
  obtain ⟨A, G1, e1, e2, e3, k1, okA⟩ := changes_ok d (n := n) (by omega) (f := f) hs hl h0 h2
  have hV1 := k1.lst hV hm
  have ad := add_lists hV1 e2 (small _ (by omega))
  let G2 : GH := G1 ++ [.lst (V ++ A)]
  have k2 : Keep s G G2 := k1.trans Keep.app
  obtain ⟨v, G3, q1, q2, q3, q4⟩ := other_ok (d + 3) (k2.str hs)
  have hVA : lstAt G3 G1.length = some (V ++ A) := q2.lst lstAt_new (by have := k1.len; omega)
  let B : List Z := [v, row n (f 0), .tup [tz n f]]
  let G4 : GH := G3 ++ [.lst B]
  have u1 : lstAt G4 G1.length = some (V ++ A) := lstAt_app hVA
  have u2 : lstAt G4 G3.length = some B := lstAt_new
  have ad2 := add_lists u1 u2 (small _ (by simp [B]; omega))
  have k3 : Keep s G G3 := k2.trans q2
  refine ⟨V ++ A ++ B, G4.length, G4 ++ [.lst (V ++ A ++ B)], ?_, lstAt_new, by simp [B]; omega, k3.trans (Keep.app.trans Keep.app), ?_⟩
  · have v0 : ∀ G', dVar 0 l G' = .ok (.ref s) G' := fun G' => dVar_of h0 (fun q => nomatch q)
    have v2 : ∀ G', dVar 2 l G' = .ok (tz n f) G' := fun G' => dVar_of h2 tz_ex
    have v3 : dVar 3 l G = .ok (.ref m) G := dVar_of h3 (fun q => nomatch q)
    have ix : ∀ G', zIx (tz n f) (.int 0) G' = .ok (row n (f 0)) G' := fun G' => ix_tz (k := 0) (by omega)
    unfold val2
    rw [dBin_ap, dBin_ap, v3, R.bind_ok, e1, R.bind_ok, ad, R.bind_ok, dLst_ap, dCons_ap, dCall_ap, dCons_ap, v0, R.bind_ok, dNil_ap, R.bind_ok, R.bind_ok]
    rw [show (rt (d + 5)).cf 19 [.ref s] (G1 ++ [.lst (V ++ A)]) = _ from q1, R.bind_ok, dCons_ap, dIx_ap, v2, R.bind_ok, dC_ap, R.bind_ok, ix, R.bind_ok, dCons_ap, dTup_ap, dCons_ap, v2, R.bind_ok, dNil_ap, R.bind_ok, R.bind_ok, if_pos (small _ (by simp)), R.bind_ok, dNil_ap, R.bind_ok, R.bind_ok, R.bind_ok, R.bind_ok, if_pos (small _ (by simp)), newO_ap, R.bind_ok]
    exact ad2
  · refine Ok.keep (G := G3) ?_ (Keep.app.trans Keep.app)
    exact ((ok.keep k3).app ((okA.keep Keep.app).keep q2)).app (.cons q3 (q4.mono (by decide)) (.cons kz_row (lz_row (by omega)) (.cons (kz_tup1 kz_tz) (lz_tup1 (by decide) (lz_tz (by omega))) .nil)))
def lamI (r : Rt) : DE := fun l G => r.lf 23 (fun G' => ((dCall r.low 5 (dCons (dVar 10) (dCons (dVar 2) dNil))) : DE) l G') G
theorem values_ok (d : Nat) {s n : Nat} (h1 : 1 ≤ n) (h7 : n ≤ 7) {G : GH} (hs : StrAt G s) : ∃ G', (rt (d + 8)).cf 26 [.ref s, .int (n : Nat)] G = .ok (.bl true) G' ∧ Keep s G G' := by
  show ∃ G', (C (d + 10)).cf 26 [.ref s, .int (n : Nat)] G = _ ∧ _
  rw [show d + 10 = (d + 7) + 3 from rfl, cfS (d + 7) 26 f_26 s_26 11 2 rfl rfl rfl rfl rfl sh_26 rfl]
  show ∃ G', (s_26 (rt (d + 7)) [some (.ref s), some (.int (n : Nat)), none, none, none, none, none, none, none, none, none] G).fin = .ok (.bl true) G' ∧ Keep s G G'
  obtain ⟨f, G1, t1, k1⟩ := some_table_ok (d + 5) (n := n) (by omega) hs
  obtain ⟨V, m, G2, t2, hV, lV, hm, k2, ok2⟩ := val1_ok h7 (f := f) (k1.str hs) (l := [some (.ref s), some (.int (n : Nat)), some (tz n f), none, none, none, none, none, none, none, none]) (by simp) rfl
  have k12 := k1.trans k2
  obtain ⟨W, k, G3, t3, hW, lW, k3, ok3⟩ := val2_ok (d + 2) h1 h7 (f := f) (k12.str hs) hV lV hm ok2 (l := [some (.ref s), some (.int (n : Nat)), some (tz n f), some (.ref m), none, none, none, none, none, none, none]) (by simp) rfl rfl rfl
  have k13 := k12.trans k3
  obtain ⟨l', X, w1, ⟨x6, x7, x8, x9, rfl⟩, E, rfl⟩ := for_live (g := dgName 6) (body := vB (rt (d + 7))) (n := k) W (fun i l G' => (∃ x6 x7 x8 x9, l = [some (.ref s), some (.int (n : Nat)), some (tz n f), some (.ref k), none, none, x6, x7, x8, x9, none]) ∧ ∃ E, G' = G3 ++ E)
    (l := [some (.ref s), some (.int (n : Nat)), some (tz n f), some (.ref k), none, none, none, none, none, none, none]) (G := G3) ⟨⟨_, _, _, _, rfl⟩, [], (List.append_nil _).symm⟩ (fun i l G' ⟨_, E, hG⟩ => by rw [hG]; exact lstAt_app hW) (fun i z l G' hz ⟨⟨x6, x7, x8, x9, hl⟩, E, hG⟩ => by
      subst hl hG
      have hz' := ok3 z (List.mem_of_getElem? hz)
      obtain ⟨E', b7, b8, b9, q⟩ := vB_ok d h1 h7 (f := f) (a0 := some (.ref s)) (a3 := some (.ref k)) (a4 := none) (a5 := none) (a7 := x7) (a8 := x8) (a9 := x9) (a10 := none) hz'.1 (hz'.2.sz (by decide)) E
      exact ⟨_, _, _, _, rfl, .inl q, ⟨_, _, _, _, rfl⟩, E', rfl⟩)
  have k4 : Keep s G (G3 ++ E) := k13.trans Keep.app
  obtain ⟨v, G5, t, o1, k5, o2, o3, o4, o5⟩ := odd_ok (d + 6) (k4.str hs) (l := [some (.ref s), some (.int (n : Nat)), some (tz n f), some (.ref k), none, none, x6, x7, x8, x9, none]) rfl
  let lZ : L := [some (.ref s), some (.int (n : Nat)), some (tz n f), some (.ref k), none, none, x6, x7, x8, x9, some v]
  have th : (dCall (rt (d + 7)).low 5 (dCons (dVar 10) (dCons (dVar 2) dNil)) : DE) lZ G5 = .exc ⟨.own 3, some G5.length⟩ (G5 ++ [.xd [("value", v)]]) := by
    rw [dCall_ap, dCons_ap, dVar_of (z := v) rfl (nx_ne o2.nx), R.bind_ok, dCons_ap, dVar_of (z := tz n f) rfl tz_ex, R.bind_ok, dNil_ap, R.bind_ok, R.bind_ok, R.bind_ok]
    exact is_table_bad (d + 3) o2 (by rfl) o3
  have hl := line1000
  have en := err_num (d + 6) (th := fun G' => (dCall (rt (d + 7)).low 5 (dCons (dVar 10) (dCons (dVar 2) dNil)) : DE) lZ G') th (by rw [List.getElem?_append_right (Nat.le_refl _), Nat.sub_self]; rfl) (o5 _) (by simp [tNum]; omega)
  refine ⟨G5 ++ [.xd [("value", v)]], ?_, (k4.trans k5).trans Keep.app⟩
  have sh : s_26 (rt (d + 7)) = (dSeq (dAsg (dgName 2) (dCall (rt (d + 7)).cf 21 (dCons (dVar 0) (dCons (dVar 1) dNil)))) (dSeq (dAsg (dgName 3) val1) (dSeq (dAsg (dgName 3) (val2 (rt (d + 7)))) (dSeq (dFor (dIter (dVar 3)) (dgName 6) (vB (rt (d + 7)))) (dSeq (dAsg (dgName 10) (oddE (rt (d + 7)))) (dSeq (dRet (dCmp .Eq (lamI (rt (d + 7))) (dBin .Add (dC (.str [110, 117, 109, 98, 101, 114, 32])) (dFn (on1 zRepr) (dCons (dVar 10) dNil))))) dNop)))))) := rfl
  rw [sh, dSeq_ap, dAsg_ap, dCall_ap, dCons_ap, dVar_ref rfl, R.bind_ok, dCons_ap, dVar_int (x := (n : Int)) rfl, R.bind_ok, dNil_ap, R.bind_ok, R.bind_ok, R.bind_ok]
  rw [show (rt (d + 7)).cf 21 [.ref s, .int (n : Nat)] G = _ from t1, R.st_ok, dgName_ap, tgt_nx, seq_nx, dSeq_ap, dAsg_ap]
  rw [show ([some (Z.ref s), some (Z.int (n : Nat)), none, none, none, none, none, none, none, none, none] : L).set 2 (some (tz n f)) = [some (.ref s), some (.int (n : Nat)), some (tz n f), none, none, none, none, none, none, none, none] from rfl, t2, R.st_ok, dgName_ap, tgt_nx, seq_nx, dSeq_ap, dAsg_ap]
  rw [show ([some (Z.ref s), some (Z.int (n : Nat)), some (tz n f), none, none, none, none, none, none, none, none] : L).set 3 (some (Z.ref m)) = [some (.ref s), some (.int (n : Nat)), some (tz n f), some (.ref m), none, none, none, none, none, none, none] from rfl]
  rw [show val2 (rt (d + 7)) [some (.ref s), some (.int (n : Nat)), some (tz n f), some (.ref m), none, none, none, none, none, none, none] G2 = _ from t3, R.st_ok, dgName_ap, tgt_nx, seq_nx, dSeq_ap, dFor_ap, dIter_ap]
  rw [show ([some (Z.ref s), some (Z.int (n : Nat)), some (tz n f), some (Z.ref m), none, none, none, none, none, none, none] : L).set 3 (some (Z.ref k)) = [some (.ref s), some (.int (n : Nat)), some (tz n f), some (.ref k), none, none, none, none, none, none, none] from rfl, dVar_ref rfl, R.bind_ok, toItr_ref hW, R.st_ok]
  simp only [Wk.len]
  rw [w1, seq_nx, dSeq_ap, dAsg_ap]
  rw [show oddE (rt (d + 7)) [some (.ref s), some (.int (n : Nat)), some (tz n f), some (.ref k), none, none, x6, x7, x8, x9, none] (G3 ++ E) = _ from o1, R.st_ok, dgName_ap, tgt_nx, seq_nx]
  rw [show ([some (Z.ref s), some (Z.int (n : Nat)), some (tz n f), some (Z.ref k), none, none, x6, x7, x8, x9, none] : L).set 10 (some v) = lZ from rfl, dSeq_ap, dRet_ap, dCmp_ap]
  rw [show lamI (rt (d + 7)) lZ G5 = .ok (.str (tNum ++ t)) (G5 ++ [.xd [("value", v)]]) from en, R.bind_ok, dBin_ap, dC_ap, R.bind_ok, dFn_ap, dCons_ap, dVar_of (z := v) rfl (nx_ne o2.nx), R.bind_ok, dNil_ap, R.bind_ok, R.bind_ok, on1_ap, o5, R.bind_ok]
  rw [show zBin .Add (.str [110, 117, 109, 98, 101, 114, 32]) (.str t) (G5 ++ [.xd [("value", v)]]) = .ok (.str (tNum ++ t)) (G5 ++ [.xd [("value", v)]]) from if_pos (by simp; omega), R.bind_ok, cmp_eqs]
  simp
end K
end
section
set_option Elab.async false
set_option linter.all false
set_option maxRecDepth 100000
set_option maxHeartbeats 4000000
namespace K
open PySem PySem.Spec PyProof.Rows L2 Zy
/-! ### pumped -/
def md (f : Nat → Nat → Fin 5) (k j : Nat) : Fin 5 := if j = k then (if f k k = 2 then 3 else f k k) else 4
theorem gr2 (i : Fin 5) : (gr i == [112, 97, 105, 100]) = (i == 2) := by revert i; decide
theorem enum_tz {n : Nat} {f : Nat → Nat → Fin 5} {k : Nat} {z : Z} (h : (enumZ ((List.range n).map fun j => row n (f j)))[k]? = some z) : k < n ∧ z = .tup [.int (k : Nat), row n (f k)] := by
  rw [enumZ_get] at h
  obtain ⟨x, hx, rfl⟩ := Option.map_eq_some_iff.mp h
  rw [List.getElem?_map] at hx
  obtain ⟨k', hk, rfl⟩ := Option.map_eq_some_iff.mp hx
  obtain ⟨rfl, h1⟩ := range_nth hk
  exact ⟨h1, rfl⟩
theorem pm_comp {n : Nat} (hn : n ≤ 100) {k : Nat} {g : Fin 5} {l : L} {G : GH} (hl : 7 ≤ l.length) (h1 : l[1]? = some (some (.int (n : Nat)))) (h3 : l[3]? = some (some (.int (k : Nat)))) (h5 : l[5]? = some (some (gz g))) :
    dComp (dRng1 (dCons (dVar 1) dNil)) (.nm 6) dYes (dIf (uB (dCmp .Eq (dVar 6) (dVar 3))) (dVar 5) (dC (.str [110, 111, 110, 101]))) [6] l G = .ok (.ref G.length) (G ++ [.lst ((List.range n).map fun j => gz (if j = k then g else 4))]) := by
  obtain ⟨acc, G', e1, e2, e3, rfl, rfl⟩ := lc_go (xs := rngZ 0 n) (i := 6) (e := dIf (uB (dCmp .Eq (dVar 6) (dVar 3))) (dVar 5) (dC (.str [110, 111, 110, 101]))) (l := wipeZ l [6]) (n := G.length) (G0 := G ++ [.lst []]) (fun t acc G' => acc = (List.range t).map (fun j => gz (if j = k then g else 4)) ∧ G' = G ++ [.lst acc])
    (fun t z acc G' hz hp hL => by
      obtain ⟨rfl, rfl⟩ := hp
      obtain rfl := rng_nth hz
      have w : (wipeZ l [6]).length = l.length := by simp [wipeZ]
      have w6 : ((wipeZ l [6]).set 6 (some (.int (t : Nat))))[6]? = some (some (.int (t : Nat))) := List.getElem?_set_self (by omega)
      have w3 : ((wipeZ l [6]).set 6 (some (.int (t : Nat))))[3]? = some (some (.int (k : Nat))) := by
        unfold wipeZ; rw [List.getElem?_set_ne (by decide)]; unfold wipeZ; rw [List.getElem?_set_ne (by decide)]; exact h3
      have w5 : ((wipeZ l [6]).set 6 (some (.int (t : Nat))))[5]? = some (some (gz g)) := by
        unfold wipeZ; rw [List.getElem?_set_ne (by decide)]; unfold wipeZ; rw [List.getElem?_set_ne (by decide)]; exact h5
      refine ⟨gz (if t = k then g else 4), _, ?_, hL, ?_, ?_⟩
      · rw [dIf_ap, uB_ap, dCmp_ap, dVar_int w6, R.bind_ok, dVar_int w3, R.bind_ok, cmp_eqi, R.bind_ok]
        by_cases h : t = k
        · subst h
          simp only [beq_self_eq_true, R.bind_ok, if_true]
          exact dVar_str w5
        · have hb : ((t : Int) == (k : Int)) = false := beq_eq_false_iff_ne.mpr fun e => h (by omega)
          simp only [hb, R.bind_ok, Bool.false_eq_true, if_false, if_neg h]
          rfl
      · rw [List.range_succ, List.map_append]; rfl
      · rw [set_new])
    (by rw [rng_len]; exact small _ hn) ⟨rfl, rfl⟩ lstAt_new
  rw [rng_len] at e1
  have ok := okR_n hn
  rw [dComp_ap, dRng1_ap, dCons_ap, dVar_int h1, R.bind_ok, dNil_ap, R.bind_ok, R.bind_ok]
  simp only [ok, if_true, R.bind_ok, Wk.len, rng_len]
  exact e1
def pmB : DS := (dSeq (dAsg (dgName 5) (dIf (uB (dCmp .Eq (dIx (dVar 4) (dVar 3)) (dC (.str [112, 97, 105, 100])))) (dC (.str [100, 101, 97, 114])) (dIx (dVar 4) (dVar 3)))) (dSeq (dExp (dMth zAppend ["list"] (dVar 2) (dCons (dFn (tyZ "tuple") (dCons (dComp (dRng1 (dCons (dVar 1) dNil)) (.nm 6) dYes (dIf (uB (dCmp .Eq (dVar 6) (dVar 3))) (dVar 5) (dC (.str [110, 111, 110, 101]))) [6]) dNil)) dNil))) dNop))
theorem pumped_in_ex (d : Nat) {n : Nat} (hn : n ≤ 100) {f : Nat → Nat → Fin 5} {G : GH} : ∃ E, (rt (d + 3)).cf 12 [tz n f] G = .ok (tz n (mul n (mul n f (md f)) f)) (G ++ E) := by
  show ∃ E, (C (d + 5)).cf 12 [tz n f] G = _
  rw [show d + 5 = (d + 2) + 3 from rfl, cfS (d + 2) 12 f_12 s_12 7 1 rfl rfl rfl rfl rfl sh_12 rfl]
  show ∃ E, (s_12 (rt (d + 2)) [some (tz n f), none, none, none, none, none, none] G).fin = _
  obtain ⟨l', X, w1, ⟨x3, x4, x5, x6, rfl⟩, E, rfl⟩ := for_pure (g := dgTup 2 (dgCons (dgName 3) (dgCons (dgName 4) dgNil))) (body := pmB) (enumZ ((List.range n).map fun i => row n (f i))) (fun k l G' => (∃ x3 x4 x5 x6, l = [some (tz n f), some (.int (n : Nat)), some (.ref G.length), x3, x4, x5, x6]) ∧ ∃ E, G' = G ++ (.lst ((List.range k).map fun i => row n (md f i)) :: E))
    (l := [some (tz n f), some (.int (n : Nat)), some (.ref G.length), none, none, none, none]) (G := G ++ [.lst []]) ⟨⟨_, _, _, _, rfl⟩, [], rfl⟩ (fun k z l G' hz ⟨⟨x3, x4, x5, x6, hl⟩, E, hG⟩ => by
      subst hl hG
      obtain ⟨hk, rfl⟩ := enum_tz hz
      let g : Fin 5 := if f k k = 2 then 3 else f k k
      let X : GH := G ++ (.lst ((List.range k).map fun i => row n (md f i)) :: E)
      have e1 := ix_row (f := f k) (G := X) hk
      have ec := pm_comp hn (k := k) (g := g) (l := [some (tz n f), some (.int (n : Nat)), some (.ref G.length), some (.int (k : Nat)), some (row n (f k)), some (gz g), x6]) (G := X) (by simp) rfl rfl rfl
      have er : ((List.range n).map fun j => gz (if j = k then g else 4)) = (List.range n).map fun j => gz (md f k j) := rfl
      have tt := tup_ref (show lstAt (X ++ [.lst ((List.range n).map fun j => gz (md f k j))]) X.length = _ from lstAt_new)
      have hs : ((List.range k).map fun i => row n (md f i)).length < sizeLine := by rw [List.length_map, List.length_range]; exact smallL _ (by omega)
      have p := push_at (G := G) (E := E ++ [.lst ((List.range n).map fun j => gz (md f k j))]) (z := row n (md f k)) hs
      have r := recv_at (G := G) (E := E) (xs := (List.range k).map fun i => row n (md f i))
      have hX : X ++ [.lst ((List.range n).map fun j => gz (md f k j))] = G ++ (.lst ((List.range k).map fun i => row n (md f i)) :: (E ++ [.lst ((List.range n).map fun j => gz (md f k j))])) := by simp [X]
      refine ⟨[some (tz n f), some (.int (n : Nat)), some (.ref G.length), some (.int (k : Nat)), some (row n (f k)), x5, x6], X, [some (tz n f), some (.int (n : Nat)), some (.ref G.length), some (.int (k : Nat)), some (row n (f k)), some (gz g), x6], _, rfl, .inl ?_, ⟨_, _, _, _, rfl⟩, E ++ [.lst ((List.range n).map fun j => gz (md f k j))], rfl⟩
      have v4 : dVar 4 [some (tz n f), some (Z.int (n : Nat)), some (Z.ref G.length), some (Z.int (k : Nat)), some (row n (f k)), x5, x6] X = .ok (row n (f k)) X := dVar_of rfl row_ex
      have v3 : dVar 3 [some (tz n f), some (Z.int (n : Nat)), some (Z.ref G.length), some (Z.int (k : Nat)), some (row n (f k)), x5, x6] X = .ok (.int (k : Nat)) X := dVar_of rfl (fun q => nomatch q)
      have eg : (dIf (uB (dCmp .Eq (dIx (dVar 4) (dVar 3)) (dC (.str [112, 97, 105, 100])))) (dC (.str [100, 101, 97, 114])) (dIx (dVar 4) (dVar 3))) [some (tz n f), some (.int (n : Nat)), some (.ref G.length), some (.int (k : Nat)), some (row n (f k)), x5, x6] X = .ok (gz g) X := by
        rw [dIf_ap, uB_ap, dCmp_ap, dIx_ap, v4, R.bind_ok, v3, R.bind_ok, e1, R.bind_ok, dC_ap, R.bind_ok, cmp_eqs, R.bind_ok, gr2]
        by_cases h : f k k = 2
        · have hb : (f k k == 2) = true := by simpa using h
          simp only [hb, R.bind_ok, if_true, g, if_pos h]; rfl
        · have hb : (f k k == 2) = false := by simpa using h
          simp only [hb, R.bind_ok, Bool.false_eq_true, if_false, g, if_neg h]
          rw [dIx_ap, v4, R.bind_ok, v3, R.bind_ok, e1]
      unfold pmB
      rw [dSeq_ap, dAsg_ap, eg, R.st_ok, dgName_ap, tgt_nx, seq_nx, dSeq_ap, dExp_ap, dMth_ap]
      rw [show ([some (tz n f), some (Z.int (n : Nat)), some (Z.ref G.length), some (Z.int (k : Nat)), some (row n (f k)), x5, x6] : L).set 5 (some (gz g)) = [some (tz n f), some (.int (n : Nat)), some (.ref G.length), some (.int (k : Nat)), some (row n (f k)), some (gz g), x6] from rfl, dVar_ref rfl, R.bind_ok]
      rw [show recvT X (.ref G.length) = some "list" from r]
      simp only [List.contains_cons, beq_self_eq_true, Bool.true_or, if_true, dCons_ap, dFn_ap]
      rw [ec, R.bind_ok, dNil_ap, R.bind_ok, R.bind_ok, er, tt, R.bind_ok, dNil_ap, R.bind_ok, R.bind_ok, hX]
      rw [show (Z.tup ((List.range n).map fun j => gz (md f k j))) = row n (md f k) from rfl, p, R.st_ok, seq_nx]
      rw [List.range_succ, List.map_append]; rfl)
  have el : (enumZ ((List.range n).map fun i => row n (f i))).length = n := by unfold enumZ; simp
  rw [el] at w1
  have ht : lstAt (G ++ (ZO.lst ((List.range n).map fun i => row n (md f i)) :: E)) G.length = some ((List.range n).map fun i => row n (md f i)) := at_sh0
  have tt := tup_ref ht
  let X2 : GH := G ++ (ZO.lst ((List.range n).map fun i => row n (md f i)) :: E)
  obtain ⟨E2, q2⟩ := times_ex d n f (md f) X2 hn
  obtain ⟨E3, q3⟩ := times_ex d n (mul n f (md f)) f (X2 ++ E2) hn
  refine ⟨(ZO.lst ((List.range n).map fun i => row n (md f i)) :: E) ++ E2 ++ E3, ?_⟩
  have sh : s_12 (rt (d + 2)) = (dSeq (dAsg (dgName 1) (dFn (on1 zLen) (dCons (dVar 0) dNil))) (dSeq (dAsg (dgName 2) (dLst dNil)) (dSeq (dFor (dEnum (dCons (dVar 0) dNil)) (dgTup 2 (dgCons (dgName 3) (dgCons (dgName 4) dgNil))) pmB) (dSeq (dRet (dCall (rt (d + 2)).cf 8 (dCons (dCall (rt (d + 2)).cf 8 (dCons (dVar 0) (dCons (dFn (tyZ "tuple") (dCons (dVar 2) dNil)) dNil))) (dCons (dVar 0) dNil)))) dNop)))) := rfl
  rw [sh, dSeq_ap, dAsg_ap, dFn_ap, dCons_ap, dv0_tz, R.bind_ok, dNil_ap, R.bind_ok, R.bind_ok, on1_ap, len_tz, R.st_ok, dgName_ap, tgt_nx, seq_nx, dSeq_ap, dAsg_ap, dLst_ap, dNil_ap, R.bind_ok, if_pos (small _ (by simp)), newO_ap, R.st_ok, dgName_ap, tgt_nx, seq_nx, dSeq_ap, dFor_ap, dEnum_ap, dCons_ap]
  rw [show (([some (tz n f), none, none, none, none, none, none] : L).set 1 (some (Z.int (n : Nat)))).set 2 (some (Z.ref G.length)) = [some (tz n f), some (.int (n : Nat)), some (.ref G.length), none, none, none, none] from rfl, dv0_tz, R.bind_ok, dNil_ap, R.bind_ok, R.bind_ok]
  simp only [toItr_tz, Option.bind_some, enumW, R.st_ok, Wk.len, el]
  rw [w1]
  have v0 : ∀ G', dVar 0 [some (tz n f), some (Z.int (n : Nat)), some (Z.ref G.length), x3, x4, x5, x6] G' = .ok (tz n f) G' := fun G' => dVar_of rfl tz_ex
  rw [seq_nx, dSeq_ap, dRet_ap, dCall_ap, dCons_ap, dCall_ap, dCons_ap, v0, R.bind_ok, dCons_ap, dFn_ap, dCons_ap, dVar_ref rfl, R.bind_ok, dNil_ap, R.bind_ok, R.bind_ok, tt, R.bind_ok, dNil_ap, R.bind_ok, R.bind_ok, R.bind_ok]
  rw [show (Z.tup ((List.range n).map fun i => row n (md f i))) = tz n (md f) from rfl, q2, R.bind_ok, dCons_ap, v0, R.bind_ok, dNil_ap, R.bind_ok, R.bind_ok, R.bind_ok, q3]
  simp [X2]
theorem pumped_ok (d : Nat) {n : Nat} (h1 : 1 ≤ n) (h8 : n ≤ 8) {f : Nat → Nat → Fin 5} (hi : sameT n (mul n f f) f = true) (G : GH) : ∃ E, (rt (d + 5)).cf 13 [tz n f] G = .ok (tz n (mul n (mul n f (md f)) f)) (G ++ E) := by
  show ∃ E, (C (d + 7)).cf 13 [tz n f] G = _
  rw [show d + 7 = (d + 4) + 3 from rfl, cfS (d + 4) 13 f_13 s_13 1 1 rfl rfl rfl rfl rfl sh_13 rfl]
  show ∃ E, (s_13 (rt (d + 4)) [some (tz n f)] G).fin = _
  have e := any_r d (G := G) (kz_tz (s := 0) (n := n) (f := f)) (sz_tz (by omega)) (any_tz h1 h8)
  have e2 := idem_in_r (d + 1) (n := n) (by omega) (f := f) (G := G ++ eA d (tz n f) G)
  rw [hi] at e2
  obtain ⟨E3, e3⟩ := pumped_in_ex (d + 1) (n := n) (by omega) (f := f) (G := G ++ eA d (tz n f) G ++ eT (d + 1) n f f (G ++ eA d (tz n f) G))
  refine ⟨eA d (tz n f) G ++ eT (d + 1) n f f (G ++ eA d (tz n f) G) ++ E3, ?_⟩
  unfold s_13
  simp only [dSeq_ap, dExp_ap, dCall_ap, dCons_ap, dv0_tz, R.bind_ok, dNil_ap, e, R.st_ok, seq_nx, dIfS_ap, uNot_ap, dTru_ap, e2, truD_bl, Bool.not_true, Bool.false_eq_true, if_false, dNop_ap, dRet_ap, e3, seq_rt, fin_rt]
  simp
theorem pumped_bad (d : Nat) {s : Nat} {G : GH} {v : Z} (hk : Kz s G v) (hs : Sz v) (h : anyTb v = false) : ∃ E, (rt (d + 5)).cf 13 [v] G = .exc ⟨.own 1, none⟩ (G ++ E) := by
  show ∃ E, (C (d + 7)).cf 13 [v] G = _
  rw [show d + 7 = (d + 4) + 3 from rfl, cfS (d + 4) 13 f_13 s_13 1 1 rfl rfl rfl rfl rfl sh_13 rfl]
  show ∃ E, (s_13 (rt (d + 4)) [some v] G).fin = _
  obtain ⟨E, e⟩ := any_bad d hk hs h
  have e0 : ∀ G', dVar 0 [some v] G' = .ok v G' := fun G' => dVar_of rfl (nx_ne hk.nx)
  refine ⟨E, ?_⟩
  unfold s_13
  simp [e0, e]
end K
end
section
set_option Elab.async false
set_option linter.all false
set_option maxRecDepth 100000
set_option maxHeartbeats 4000000
namespace K
open PySem PySem.Spec PyProof.Rows L2 Zy
/-! ### the written tables -/
def cp (k i j : Nat) : Fin 5 := if j = (i + k + 1) % 8 then (if 8 ≤ i + k + 1 then 2 else 1) else 4
def dg (i j : Nat) : Fin 5 := if i = j then 2 else 4
theorem row_congr {n : Nat} {f g : Nat → Fin 5} (h : ∀ j, j < n → f j = g j) : row n f = row n g := by
  unfold row
  congr 1
  refine List.map_congr_left fun j hj => ?_
  rw [h j (List.mem_range.mp hj)]
theorem tz_congr {n : Nat} {f g : Nat → Nat → Fin 5} (h : ∀ i j, i < n → j < n → f i j = g i j) : tz n f = tz n g := by
  unfold tz
  congr 1
  refine List.map_congr_left fun i hi => ?_
  exact row_congr fun j hj => h i j (List.mem_range.mp hi) hj
theorem cp_step : ∀ (k : Fin 7) (i j : Fin 8), mul 8 (cp k) (cp 0) i j = cp (k + 1) i j := by decide +kernel
theorem cp_mul {k : Nat} (hk : k < 7) : tz 8 (mul 8 (cp k) (cp 0)) = tz 8 (cp (k + 1)) := tz_congr fun i j hi hj => cp_step ⟨k, hk⟩ ⟨i, hi⟩ ⟨j, hj⟩
theorem cp_due : tz 8 (cp 7) = tz 8 dg := tz_congr fun i j hi hj => (show ∀ i j : Fin 8, cp 7 i j = dg i j by decide +kernel) ⟨i, hi⟩ ⟨j, hj⟩
theorem idem_dg : sameT 8 (mul 8 dg dg) dg = true := by decide +kernel
theorem idem_cp : sameT 8 (mul 8 (cp 0) (cp 0)) (cp 0) = false := by decide +kernel
theorem pump_dg : mul 8 (mul 8 dg (md dg)) dg 3 3 = 3 := by decide +kernel
theorem circ : ∀ i j : Fin 8, (if (i : Nat) ≠ 7 ∨ (j : Nat) ≠ 0 then (if (((j : Nat) : Int) == (((i : Nat) : Int) + 1).fmod 8) = true then (1 : Fin 5) else 4) else 2) = cp 0 i j := by decide +kernel
/-- one of two texts -/
theorem pick2 {a b : List Nat} {idx : DE} {l : L} {p : Bool} (h : ∀ G, idx l G = .ok (.int (b2z p)) G) (G : GH) : ∃ E, dIx (dLst (dCons (dC (.str a)) (dCons (dC (.str b)) dNil))) idx l G = .ok (.str (if p then b else a)) (G ++ E) := by
  refine ⟨[.lst [.str a, .str b]], ?_⟩
  rw [dIx_ap, dLst_ap, dCons_ap, dC_ap, R.bind_ok, dCons_ap, dC_ap, R.bind_ok, dNil_ap, R.bind_ok, R.bind_ok, R.bind_ok, if_pos (small _ (by simp)), newO_ap, R.bind_ok, h, R.bind_ok]
  refine ix_ref lstAt_new ?_
  cases p <;> rfl
/-- a comprehension over a range whose turns only lay aside -/
theorem comp_rng {n i0 : Nat} {a : DA} {e : DE} {l : L} {G : GH} (F : Nat → Z) (hn : n ≤ 100) (he : ∀ t, t < n → ∀ G', ∃ E, e ((wipeZ l [i0]).set i0 (some (.int (t : Nat)))) G' = .ok (F t) (G' ++ E)) (ha : a l G = .ok [.int (n : Nat)] G) :
    ∃ E, dComp (dRng1 a) (.nm i0) dYes e [i0] l G = .ok (.ref G.length) (G ++ (.lst ((List.range n).map F) :: E)) := by
  obtain ⟨acc, G', e1, e2, e3, rfl, E, rfl⟩ := lc_go (xs := rngZ 0 n) (i := i0) (e := e) (l := wipeZ l [i0]) (n := G.length) (G0 := G ++ [.lst []]) (fun t acc G' => acc = (List.range t).map F ∧ ∃ E, G' = G ++ (.lst acc :: E))
    (fun t z acc G' hz ⟨ha, E, hG⟩ hL => by
      subst ha hG
      have ht : t < n := by have := (List.getElem?_eq_some_iff.mp hz).1; rw [rng_len] at this; exact this
      obtain rfl := rng_nth hz
      obtain ⟨E2, q⟩ := he t ht (G ++ (.lst ((List.range t).map F) :: E))
      refine ⟨F t, _, q, lstAt_app hL, by rw [List.range_succ, List.map_append]; rfl, E ++ E2, ?_⟩
      rw [List.append_assoc, List.cons_append, set_sh0]; rfl)
    (by rw [rng_len]; exact small _ hn) ⟨rfl, [], rfl⟩ lstAt_new
  rw [rng_len] at e1
  refine ⟨E, ?_⟩
  have ok := okR_n hn
  rw [dComp_ap, dRng1_ap, ha, R.bind_ok]
  simp only [ok, if_true, R.bind_ok, Wk.len, rng_len]
  rw [rng_len] at *
  exact e1
def wE : DE := (dIf (uOr (uB (dCmp .NotEq (dVar 1) (dC (.int (7))))) (uB (dCmp .NotEq (dVar 2) (dC (.int (0)))))) (dIx (dLst (dCons (dC (.str [110, 111, 110, 101])) (dCons (dC (.str [102, 114, 101, 101])) dNil))) (dFn (tyZ "int") (dCons (dCmp .Eq (dVar 2) (dBin .Mod (dBin .Add (dVar 1) (dC (.int (1)))) (dC (.int (8))))) dNil))) (dC (.str [112, 97, 105, 100])))
theorem wE_ok {i j : Nat} (hi : i < 8) (hj : j < 8) {l : L} (h1 : l[1]? = some (some (.int (i : Nat)))) (h2 : l[2]? = some (some (.int (j : Nat)))) (G : GH) : ∃ E, wE l G = .ok (gz (cp 0 i j)) (G ++ E) := by
  have v1 : ∀ G, dVar 1 l G = .ok (.int (i : Nat)) G := fun G => dVar_int h1
  have v2 : ∀ G, dVar 2 l G = .ok (.int (j : Nat)) G := fun G => dVar_int h2
  have c := circ ⟨i, hi⟩ ⟨j, hj⟩
  simp only at c
  have idx : ∀ G, (dFn (tyZ "int") (dCons (dCmp .Eq (dVar 2) (dBin .Mod (dBin .Add (dVar 1) (dC (.int (1)))) (dC (.int (8))))) dNil)) l G = .ok (.int (b2z ((j : Int) == ((i : Int) + 1).fmod 8))) G := fun G => by
    rw [dFn_ap, dCons_ap, dCmp_ap, v2, R.bind_ok, dBin_ap, dBin_ap, v1, R.bind_ok, dC_ap, R.bind_ok, bin_add, R.bind_ok, dC_ap, R.bind_ok, bin_mod (by decide), R.bind_ok, cmp_eqi, R.bind_ok, dNil_ap, R.bind_ok, R.bind_ok, int_bl]
  unfold wE
  rw [dIf_ap, uOr_ap, uB_ap, dCmp_ap, v1, R.bind_ok, dC_ap, R.bind_ok, cmp_nei, R.bind_ok, R.bind_ok]
  by_cases h7 : i = 7
  · have b7 : ((i : Int) == 7) = true := by rw [h7]; rfl
    rw [b7]
    simp only [Bool.not_true, Bool.false_eq_true, if_false, uB_ap, dCmp_ap, v2, R.bind_ok, dC_ap, cmp_nei]
    by_cases h0 : j = 0
    · have b0 : ((j : Int) == 0) = true := by rw [h0]; rfl
      rw [b0]
      simp only [Bool.not_true, Bool.false_eq_true, if_false]
      rw [if_neg (by omega)] at c
      exact ⟨[], by rw [← c]; simp; rfl⟩
    · have b0 : ((j : Int) == 0) = false := beq_eq_false_iff_ne.mpr fun e => h0 (by omega)
      rw [b0]
      simp only [Bool.not_false, if_true]
      rw [if_pos (.inr h0)] at c
      obtain ⟨E, q⟩ := pick2 (a := [110, 111, 110, 101]) (b := [102, 114, 101, 101]) idx G
      refine ⟨E, q.trans ?_⟩
      rw [← c]
      split <;> rfl
  · have b7 : ((i : Int) == 7) = false := beq_eq_false_iff_ne.mpr fun e => h7 (by omega)
    rw [b7]
    simp only [Bool.not_false, if_true, R.bind_ok]
    rw [if_pos (.inl h7)] at c
    obtain ⟨E, q⟩ := pick2 (a := [110, 111, 110, 101]) (b := [102, 114, 101, 101]) idx G
    refine ⟨E, q.trans ?_⟩
    rw [← c]
    split <;> rfl
def wB : DS := (dSeq (dExp (dMth zAppend ["list"] (dVar 0) (dCons (dFn (tyZ "tuple") (dCons (dComp (dRng1 (dCons (dC (.int (8))) dNil)) (.nm 2) dYes wE [2]) dNil)) dNil))) dNop)
theorem wB_ok {G E : GH} {i : Nat} (hi : i < 8) {R : List Z} (hR : R.length ≤ 50) {a2 a3 a4 a5 a6 a7 a8 : Option Z} : ∃ E', wB [some (.ref G.length), some (.int (i : Nat)), a2, a3, a4, a5, a6, a7, a8] (G ++ (.lst R :: E)) = .nx [some (.ref G.length), some (.int (i : Nat)), a2, a3, a4, a5, a6, a7, a8] (G ++ (.lst (R ++ [row 8 (cp 0 i)]) :: E')) := by
  let X : GH := G ++ (.lst R :: E)
  obtain ⟨E2, q⟩ := comp_rng (n := 8) (i0 := 2) (a := dCons (dC (.int (8))) dNil) (e := wE) (l := [some (.ref G.length), some (.int (i : Nat)), a2, a3, a4, a5, a6, a7, a8]) (G := X) (fun j => gz (cp 0 i j)) (by decide) (fun t ht G' => wE_ok hi ht rfl rfl G') rfl
  have tt := tup_ref (show lstAt (X ++ (ZO.lst ((List.range 8).map fun j => gz (cp 0 i j)) :: E2)) X.length = some ((List.range 8).map fun j => gz (cp 0 i j)) from at_sh0)
  have hX : X ++ (ZO.lst ((List.range 8).map fun j => gz (cp 0 i j)) :: E2) = G ++ (.lst R :: (E ++ (.lst ((List.range 8).map fun j => gz (cp 0 i j)) :: E2))) := by simp [X]
  have p := push_at (G := G) (E := E ++ (.lst ((List.range 8).map fun j => gz (cp 0 i j)) :: E2)) (xs := R) (z := row 8 (cp 0 i)) (smallL _ (by omega))
  have r := recv_at (G := G) (E := E) (xs := R)
  refine ⟨E ++ (.lst ((List.range 8).map fun j => gz (cp 0 i j)) :: E2), ?_⟩
  unfold wB
  rw [dSeq_ap, dExp_ap, dMth_ap, dVar_ref rfl, Zy.R.bind_ok, r]
  simp only [List.contains_cons, beq_self_eq_true, Bool.true_or, if_true, dCons_ap, dFn_ap]
  rw [q, Zy.R.bind_ok, dNil_ap, Zy.R.bind_ok, Zy.R.bind_ok, tt, Zy.R.bind_ok, dNil_ap, Zy.R.bind_ok, Zy.R.bind_ok, hX]
  rw [show (Z.tup ((List.range 8).map fun j => gz (cp 0 i j))) = row 8 (cp 0 i) from rfl, p]
  rfl
end K
end
section
set_option Elab.async false
set_option linter.all false
set_option maxRecDepth 100000
set_option maxHeartbeats 4000000
namespace K
open PySem PySem.Spec PyProof.Rows L2 Zy
def dE : DE := (dFn (tyZ "tuple") (dCons (dComp (dRng1 (dCons (dC (.int (8))) dNil)) (.nm 2) dYes (dIx (dLst (dCons (dC (.str [110, 111, 110, 101])) (dCons (dC (.str [112, 97, 105, 100])) dNil))) (dFn (tyZ "int") (dCons (dCmp .Eq (dVar 1) (dVar 2)) dNil))) [2]) dNil))
theorem dE_ok {i : Nat} {l : L} (hl : 3 ≤ l.length) (h1 : l[1]? = some (some (.int (i : Nat)))) (G : GH) : ∃ E, dE l G = .ok (row 8 (dg i)) (G ++ E) := by
  obtain ⟨E, q⟩ := comp_rng (n := 8) (i0 := 2) (a := dCons (dC (.int (8))) dNil) (e := dIx (dLst (dCons (dC (.str [110, 111, 110, 101])) (dCons (dC (.str [112, 97, 105, 100])) dNil))) (dFn (tyZ "int") (dCons (dCmp .Eq (dVar 1) (dVar 2)) dNil))) (l := l) (G := G) (fun j => gz (dg i j)) (by decide) (fun t ht G' => by
      have w1 : ((wipeZ l [2]).set 2 (some (.int (t : Nat))))[1]? = some (some (.int (i : Nat))) := by
        unfold wipeZ; rw [List.getElem?_set_ne (by decide)]; unfold wipeZ; rw [List.getElem?_set_ne (by decide)]; exact h1
      have w2 : ((wipeZ l [2]).set 2 (some (.int (t : Nat))))[2]? = some (some (.int (t : Nat))) := List.getElem?_set_self (by simp [wipeZ]; omega)
      obtain ⟨E, q⟩ := pick2 (a := [110, 111, 110, 101]) (b := [112, 97, 105, 100]) (p := ((i : Int) == (t : Int))) (idx := dFn (tyZ "int") (dCons (dCmp .Eq (dVar 1) (dVar 2)) dNil)) (l := (wipeZ l [2]).set 2 (some (.int (t : Nat)))) (fun G => by
        rw [dFn_ap, dCons_ap, dCmp_ap, dVar_int w1, R.bind_ok, dVar_int w2, R.bind_ok, cmp_eqi, R.bind_ok, dNil_ap, R.bind_ok, R.bind_ok, int_bl]) G'
      refine ⟨E, q.trans ?_⟩
      by_cases h : i = t
      · subst h; simp [dg, gr]
      · have hb : ((i : Int) == (t : Int)) = false := beq_eq_false_iff_ne.mpr fun e => h (by omega)
        simp [hb, dg, h, gr]) rfl
  refine ⟨.lst ((List.range 8).map fun j => gz (dg i j)) :: E, ?_⟩
  unfold dE
  rw [dFn_ap, dCons_ap, q, R.bind_ok, dNil_ap, R.bind_ok, R.bind_ok, tup_ref at_sh0]
  rfl
def nineE : DE := (dFn (tyZ "tuple") (dCons (dBin .Mult (dLst (dCons (dBin .Mult (dTup (dCons (dC (.str [102, 114, 101, 101])) dNil)) (dC (.int (9)))) dNil)) (dC (.int (9)))) dNil))
theorem mul_lst {G : GH} {m : Nat} {x : List Z} {j : Int} (h : lstAt G m = some x) (hj : (decide (-(2 ^ 63) ≤ j) && decide (j < 2 ^ 63) && decide (x.length * j.toNat ≤ sizeLine)) = true) : zBin .Mult (.ref m) (.int j) G = .ok (.ref G.length) (G ++ [.lst (List.replicate j.toNat x).flatten]) := by
  show (match lstAt G m with
    | some x => if decide (-(2 ^ 63) ≤ j) && decide (j < 2 ^ 63) && decide (x.length * j.toNat ≤ sizeLine) then newO (.lst (List.replicate j.toNat x).flatten) G else .bad
    | _ => .bad) = _
  rw [h]
  exact if_pos hj
theorem nine_ok (l : L) (G : GH) : ∃ E, nineE l G = .ok (tz 9 fun _ _ => 1) (G ++ E) := by
  have m1 : ∀ G, zBin .Mult (.tup [.str [102, 114, 101, 101]]) (.int 9) G = .ok (row 9 fun _ => 1) G := fun G => rfl
  have hj : (decide (-(2 ^ 63) ≤ (9 : Int)) && decide ((9 : Int) < 2 ^ 63) && decide ([row 9 fun _ => 1].length * (9 : Int).toNat ≤ sizeLine)) = true := by
    rw [show (decide (([row 9 fun _ => 1].length * (9 : Int).toNat) ≤ sizeLine)) = true from decide_eq_true (small _ (by decide))]
    decide
  have m2 := mul_lst (G := G ++ [.lst [row 9 fun _ => 1]]) (m := G.length) (x := [row 9 fun _ => 1]) (j := 9) lstAt_new hj
  refine ⟨[.lst [row 9 fun _ => 1]] ++ [.lst (List.replicate (9 : Int).toNat [row 9 fun _ => 1]).flatten], ?_⟩
  unfold nineE
  rw [dFn_ap, dCons_ap, dBin_ap, dLst_ap, dCons_ap, dBin_ap, dTup_ap, dCons_ap, dC_ap, R.bind_ok, dNil_ap, R.bind_ok, R.bind_ok, if_pos (small _ (by simp)), R.bind_ok, dC_ap, R.bind_ok, m1, R.bind_ok, dNil_ap, R.bind_ok, R.bind_ok, if_pos (small _ (by simp)), newO_ap, R.bind_ok, dC_ap, R.bind_ok, m2, R.bind_ok, dNil_ap, R.bind_ok, R.bind_ok]
  rw [tup_ref lstAt_new, List.append_assoc]
  rfl
/-- found.append(_law_error(..)) -/
theorem app_lam {l : L} {X E : GH} {acc : List Z} {e : DE} (h8 : l[8]? = some (some (.ref X.length))) (hl : acc.length ≤ 50) (h : ∀ E, ∃ E', e l (X ++ E) = .ok (.str tTab) (X ++ E ++ E')) : ∃ E', dExp (dMth zAppend ["list"] (dVar 8) (dCons e dNil)) l (X ++ (.lst acc :: E)) = .nx l (X ++ (.lst (acc ++ [.str tTab]) :: E')) := by
  obtain ⟨E2, q⟩ := h (.lst acc :: E)
  have p := push_at (G := X) (E := E ++ E2) (xs := acc) (z := .str tTab) (smallL _ (by omega))
  have r := recv_at (G := X) (E := E) (xs := acc)
  refine ⟨E ++ E2, ?_⟩
  rw [dExp_ap, dMth_ap, dVar_ref h8, R.bind_ok, r]
  simp only [List.contains_cons, beq_self_eq_true, Bool.true_or, if_true, dCons_ap]
  rw [q, R.bind_ok, dNil_ap, R.bind_ok, R.bind_ok, List.append_assoc, List.cons_append, p]
  rfl
theorem lam_tab2 (d : Nat) {th : GH → R Z} {X : GH} (h : ∀ E, ∃ E', th (X ++ E) = .exc ⟨.own 1, none⟩ (X ++ E ++ E')) : ∀ E, ∃ E', (rt (d + 1)).lf 23 th (X ++ E) = .ok (.str tTab) (X ++ E ++ E') := fun E => by
  obtain ⟨E', e⟩ := h E
  exact ⟨E', err_tab d e⟩
theorem low2 (d : Nat) {k : Nat} {l : L} {X : GH} {as : DA} {xs : List Z} (ha : ∀ G, as l G = .ok xs G) (h : ∀ G, ∃ E', (rt (d + 5)).cf k xs G = .exc ⟨.own 1, none⟩ (G ++ E')) : ∀ E, ∃ E', (dCall (rt (d + 7)).low k as : DE) l (X ++ E) = .exc ⟨.own 1, none⟩ (X ++ E ++ E') := fun E => by
  obtain ⟨E', e⟩ := h (X ++ E)
  refine ⟨E', ?_⟩
  rw [dCall_ap, ha, R.bind_ok]
  exact e
def wP (r : Rt) : DS := (dSeq (dAsg (dgName 4) (dCall r.cf 9 (dCons (dVar 4) (dCons (dVar 3) dNil)))) dNop)
theorem eq4 {G : GH} {a b : Nat} (ha : lstAt G a = some [.str tTab, .str tTab, .str tTab, .str tTab]) (hb : lstAt G b = some [.str tTab, .str tTab, .str tTab, .str tTab]) : zCmp .Eq (.ref a) (.ref b) G = .ok (.bl true) G := eq_refs ha hb rfl

def nn : Nat → Nat → Fin 5 := fun _ _ => 1
def wl (s : Nat) (x1 x2 x3 x4 x5 x6 x7 x8 : Option Z) : L := [some (.ref s), x1, x2, x3, x4, x5, x6, x7, x8]
def rowsS : DS := dFor (dRng1 (dCons (dC (.int (8))) dNil)) (dgName 1) wB
def bothS : DS := dAsg (dgTup 2 (dgCons (dgName 3) (dgCons (dgName 4) dgNil))) (dTup (dCons (dFn (tyZ "tuple") (dCons (dVar 0) dNil)) (dCons (dFn (tyZ "tuple") (dCons (dVar 0) dNil)) dNil)))
theorem rows_ok (G : GH) : ∃ x1 x2 E, rowsS (wl G.length none none none none none none none none) (G ++ [.lst []]) = .nx (wl G.length x1 x2 none none none none none none) (G ++ (.lst ((List.range 8).map fun i => row 8 (cp 0 i)) :: E)) := by
  obtain ⟨l', X, w1, ⟨x1, x2, rfl⟩, E1, rfl⟩ := for_pure (g := dgName 1) (body := wB) (rngZ 0 (8 : Nat)) (fun k l G' => (∃ x1 x2, l = [some (.ref G.length), x1, x2, none, none, none, none, none, none]) ∧ ∃ E, G' = G ++ (.lst ((List.range k).map fun i => row 8 (cp 0 i)) :: E))
    (l := [some (.ref G.length), none, none, none, none, none, none, none, none]) (G := G ++ [.lst []]) ⟨⟨_, _, rfl⟩, [], rfl⟩ (fun k z l G' hz ⟨⟨x1, x2, hl⟩, E, hG⟩ => by
      subst hl hG
      have hk : k < 8 := by have := (List.getElem?_eq_some_iff.mp hz).1; rw [rng_len] at this; exact this
      obtain rfl := rng_nth hz
      obtain ⟨E', q⟩ := wB_ok (G := G) (E := E) hk (R := (List.range k).map fun i => row 8 (cp 0 i)) (by simp; omega) (a2 := x2) (a3 := none) (a4 := none) (a5 := none) (a6 := none) (a7 := none) (a8 := none)
      exact ⟨_, _, _, _, rfl, .inl q, ⟨_, _, rfl⟩, E', by rw [List.range_succ, List.map_append]; rfl⟩)
  rw [rng_len] at w1
  refine ⟨x1, x2, E1, ?_⟩
  unfold rowsS wl
  rw [dFor_rng (n := 8) (G1 := G ++ [.lst []]) rfl (by decide), w1]
theorem both_ok {s : Nat} {G : GH} {R : List Z} {x1 x2 : Option Z} (h : lstAt G s = some R) : bothS (wl s x1 x2 none none none none none none) G = .nx (wl s x1 x2 (some (.tup R)) (some (.tup R)) none none none none) G := by
  have tr := tup_ref h
  have v : ∀ l : L, l[0]? = some (some (.ref s)) → (dFn (tyZ "tuple") (dCons (dVar 0) dNil)) l G = .ok (.tup R) G := fun l hl => by
    rw [dFn_ap, dCons_ap, dVar_ref hl, Zy.R.bind_ok, dNil_ap, Zy.R.bind_ok, Zy.R.bind_ok, tr]
  unfold bothS wl
  rw [dAsg_ap, dTup_ap, dCons_ap, v _ rfl, Zy.R.bind_ok, dCons_ap, v _ rfl, Zy.R.bind_ok, dNil_ap, Zy.R.bind_ok, Zy.R.bind_ok, Zy.R.bind_ok, if_pos (small _ (by simp)), Zy.R.st_ok]
  rfl
def initS : DS := dAsg (dgName 0) (dLst dNil)
theorem init_ok (G : GH) : initS [none, none, none, none, none, none, none, none, none] G = .nx (wl G.length none none none none none none none none) (G ++ [.lst []]) := by
  unfold initS
  rw [dAsg_ap, dLst_ap, dNil_ap, R.bind_ok, if_pos (small _ (by simp)), newO_ap, R.st_ok, dgName_ap]
  rfl
def powS (r : Rt) : DS := dFor (dRng1 (dCons (dC (.int (7))) dNil)) (dgName 5) (wP r)
theorem pow_gen {r : Rt} {T : Nat → Z} (hn : ∀ k, nx (T k) = true) (h : ∀ k, k < 7 → ∀ G, ∃ E, r.cf 9 [T k, T 0] G = .ok (T (k + 1)) (G ++ E)) (s : Nat) (x1 x2 : Option Z) (G : GH) : ∃ x5 E, powS r (wl s x1 x2 (some (T 0)) (some (T 0)) none none none none) G = .nx (wl s x1 x2 (some (T 0)) (some (T 7)) x5 none none none) (G ++ E) := by
  obtain ⟨l', X, w2, ⟨x5, rfl⟩, E2, rfl⟩ := for_pure (g := dgName 5) (body := wP r) (rngZ 0 (7 : Nat)) (fun k l G' => (∃ x5, l = wl s x1 x2 (some (T 0)) (some (T k)) x5 none none none) ∧ ∃ E, G' = G ++ E)
    (l := wl s x1 x2 (some (T 0)) (some (T 0)) none none none none) (G := G) ⟨⟨_, rfl⟩, [], (List.append_nil _).symm⟩ (fun k z l G' hz ⟨⟨x5, hl⟩, E, hG⟩ => by
      subst hl hG
      have hk : k < 7 := by have := (List.getElem?_eq_some_iff.mp hz).1; rw [rng_len] at this; exact this
      obtain ⟨E', q⟩ := (show PuS (wl s x1 x2 (some (T 0)) (some (T k)) (some z) none none none) G (wP r) (wl s x1 x2 (some (T 0)) (some (T (k + 1))) (some z) none none none) from
        puS_seq (puS_asg (pu_call (puA_cons (pu_var (i := 4) rfl (hn _)) (puA_cons (pu_var (i := 3) rfl (hn _)) puA_nil)) (h k hk))) puS_nop) E
      exact ⟨_, _, _, _, rfl, .inl q, ⟨_, rfl⟩, E', rfl⟩)
  rw [rng_len] at w2
  refine ⟨x5, E2, ?_⟩
  unfold powS
  rw [dFor_rng (n := 7) (G1 := G) rfl (by decide), w2]
theorem foldl1 {α β : Type} (f : β → α → β) (b : β) (a : α) : [a].foldl f b = f b a := rfl
theorem pow_ok (d : Nat) (s : Nat) (x1 x2 : Option Z) (G : GH) : ∃ x5 E, powS (rt (d + 7)) (wl s x1 x2 (some (tz 8 (cp 0))) (some (tz 8 (cp 0))) none none none none) G = .nx (wl s x1 x2 (some (tz 8 (cp 0))) (some (tz 8 dg)) x5 none none none) (G ++ E) := by
  have h := pow_gen (r := rt (d + 7)) (T := fun k => tz 8 (cp k)) (fun k => rfl) (fun k hk G => by
    obtain ⟨E, e⟩ := prod_ex (d + 2) (n := 8) (f := cp k) (G := G) (by decide) (by decide) [cp 0] (by simp)
    rw [foldl1, cp_mul hk] at e
    exact ⟨E, e⟩) s x1 x2 G
  simp only [cp_due] at h
  exact h
end K
end
section
set_option Elab.async false
set_option linter.all false
set_option maxRecDepth 100000
set_option maxHeartbeats 1000000
namespace K
open PySem PySem.Spec PyProof.Rows L2 Zy
def dueS : DS := dAsg (dgName 6) (dFn (tyZ "tuple") (dCons (dComp (dRng1 (dCons (dC (.int (8))) dNil)) (.nm 1) dYes dE [1]) dNil))
theorem due_ok (s : Nat) (x1 x2 x3 x4 x5 : Option Z) (G : GH) : ∃ E, dueS (wl s x1 x2 x3 x4 x5 none none none) G = .nx (wl s x1 x2 x3 x4 x5 (some (tz 8 dg)) none none) (G ++ E) := by
  obtain ⟨E3, w3⟩ := comp_rng (n := 8) (i0 := 1) (a := dCons (dC (.int (8))) dNil) (e := dE) (l := wl s x1 x2 x3 x4 x5 none none none) (G := G) (fun i => row 8 (dg i)) (by decide) (fun t ht G' => dE_ok (by simp [wipeZ, wl]) rfl G') rfl
  refine ⟨.lst ((List.range 8).map fun i => row 8 (dg i)) :: E3, ?_⟩
  have t3 := tup_ref (show lstAt (G ++ (.lst ((List.range 8).map fun i => row 8 (dg i)) :: E3)) G.length = some ((List.range 8).map fun i => row 8 (dg i)) from at_sh0)
  unfold dueS
  rw [dAsg_ap, dFn_ap, dCons_ap, w3, R.bind_ok, dNil_ap, R.bind_ok, R.bind_ok, t3, R.st_ok, dgName_ap]
  rfl
def tstT (r : Rt) : DT := (uOr (uB (dCmp .NotEq (dVar 4) (dVar 6))) (uOr (uNot (dTru (dCall r.cf 11 (dCons (dVar 4) dNil)))) (uOr (dTru (dCall r.cf 11 (dCons (dVar 3) dNil))) (uB (dCmp .NotEq (dIx (dIx (dCall r.cf 13 (dCons (dVar 4) dNil)) (dC (.int (3)))) (dC (.int (3)))) (dC (.str [100, 101, 97, 114])))))))
def wD (s : Nat) (x1 x2 x5 x7 x8 : Option Z) (a b : Z) : L := wl s x1 x2 (some a) (some b) x5 (some b) x7 x8
theorem tst1 (d : Nat) {f : Nat → Nat → Fin 5} {l : L} {i : Nat} {G : GH} {b : Bool} (h : l[i]? = some (some (tz 8 f))) (hb : sameT 8 (mul 8 f f) f = b) : PuT l G (dTru (dCall (rt (d + 7)).cf 11 (dCons (dVar i) dNil))) b := by
  have := puT_tru (pu_call (l := l) (G0 := G) (puA_cons (pu_var (i := i) h rfl) puA_nil) (idem_p (d + 2) (n := 8) (by decide) (by decide) f))
  rw [hb] at this
  exact this
theorem tst2 (d : Nat) {f : Nat → Nat → Fin 5} {l : L} {i : Nat} {G : GH} (h : l[i]? = some (some (tz 8 f))) (hb : sameT 8 (mul 8 f f) f = true) (hp : mul 8 (mul 8 f (md f)) f 3 3 = 3) : PuT l G (uB (dCmp .NotEq (dIx (dIx (dCall (rt (d + 7)).cf 13 (dCons (dVar i) dNil)) (dC (.int (3)))) (dC (.int (3)))) (dC (.str [100, 101, 97, 114])))) false := by
  refine puT_b (pu_cmp (pu_ix (pu_ix (pu_call (puA_cons (pu_var h rfl) puA_nil) (pumped_ok (d + 2) (n := 8) (by decide) (by decide) hb)) pu_c fun E => ix_tz (k := 3) (by decide)) pu_c fun E => ix_row (k := 3) (by decide)) pu_c fun E => ?_)
  rw [cmp_nes, hp]; rfl
theorem tst_gen (d : Nat) {f g : Nat → Nat → Fin 5} {l : L} {G : GH} (h3 : l[3]? = some (some (tz 8 g))) (h4 : l[4]? = some (some (tz 8 f))) (h6 : l[6]? = some (some (tz 8 f))) (hf : sameT 8 (mul 8 f f) f = true) (hg : sameT 8 (mul 8 g g) g = false) (hp : mul 8 (mul 8 f (md f)) f 3 3 = 3) : PuT l G (tstT (rt (d + 7))) false := by
  refine puT_or0 (puT_b (pu_cmp (pu_var h4 rfl) (pu_var h6 rfl) fun E => by rw [ne_tz, same_refl]; rfl)) (puT_or0 ?_ (puT_or0 (tst1 d h3 hg) (tst2 d h4 hf hp)))
  exact puT_not (tst1 d h4 hf)
theorem tst_ok (d : Nat) (s : Nat) (x1 x2 x5 x7 x8 : Option Z) (G : GH) : ∃ E, tstT (rt (d + 7)) (wl s x1 x2 (some (tz 8 (cp 0))) (some (tz 8 dg)) x5 (some (tz 8 dg)) x7 x8) G = .ok false (G ++ E) := by
  obtain ⟨E, e⟩ := tst_gen d (l := wl s x1 x2 (some (tz 8 (cp 0))) (some (tz 8 dg)) x5 (some (tz 8 dg)) x7 x8) (G := G) (f := dg) (g := cp 0) rfl rfl rfl idem_dg idem_cp pump_dg []
  rw [List.append_nil] at e
  exact ⟨E, e⟩
def lm (r : Rt) (k : Nat) (as : DA) : DE := fun l G => r.lf 23 (fun G' => ((dCall r.low k as) : DE) l G') G
def a7 : DA := dCons (dVar 7) dNil
def a4 : DA := (dCons (dTup (dCons (dTup (dCons (dC (.str [102, 114, 101, 101])) dNil)) dNil)) (dCons (dVar 4) dNil))
theorem a7_ok {l : L} {z : Z} (h : l[7]? = some (some z)) (hz : nx z = true) (G : GH) : a7 l G = .ok [z] G := by
  unfold a7
  rw [dCons_ap, dVar_of h (nx_ne hz), R.bind_ok, dNil_ap, R.bind_ok]
theorem a4_ok {l : L} {z : Z} (h : l[4]? = some (some z)) (hz : nx z = true) (G : GH) : a4 l G = .ok [tz 1 nn, z] G := by
  have one : Z.tup [.tup [.str [102, 114, 101, 101]]] = tz 1 nn := rfl
  unfold a4
  rw [dCons_ap, dTup_ap, dCons_ap, dTup_ap, dCons_ap, dC_ap, R.bind_ok, dNil_ap, R.bind_ok, R.bind_ok, if_pos (small _ (by simp)), R.bind_ok, dNil_ap, R.bind_ok, R.bind_ok, if_pos (small _ (by simp)), R.bind_ok, dCons_ap, dVar_of h (nx_ne hz), R.bind_ok, dNil_ap, R.bind_ok, R.bind_ok, one]
theorem lm_ok (d : Nat) {k : Nat} {as : DA} {l : L} {xs : List Z} (X : GH) (ha : ∀ G, as l G = .ok xs G) (h : ∀ G, ∃ E', (rt (d + 5)).cf k xs G = .exc ⟨.own 1, none⟩ (G ++ E')) : ∀ E, ∃ E', lm (rt (d + 7)) k as l (X ++ E) = .ok (.str tTab) (X ++ E ++ E') :=
  lam_tab2 (d + 6) (low2 d ha h)
theorem bad9 : anyTb (tz 9 nn) = false := by decide +kernel
theorem q_prod (d : Nat) {l : L} {z : Z} (X : GH) (h : l[7]? = some (some z)) (hz : nx z = true) (k9 : ∀ G, Kz 0 G z) (z9 : Sz z) (hb : anyTb z = false) : ∀ E, ∃ E', lm (rt (d + 7)) 9 a7 l (X ++ E) = .ok (.str tTab) (X ++ E ++ E') := lm_ok d X (a7_ok h hz) fun G => prod_none d (k9 G) z9 hb
theorem q_idem (d : Nat) {l : L} {z : Z} (X : GH) (h : l[7]? = some (some z)) (hz : nx z = true) (k9 : ∀ G, Kz 0 G z) (z9 : Sz z) (hb : anyTb z = false) : ∀ E, ∃ E', lm (rt (d + 7)) 11 a7 l (X ++ E) = .ok (.str tTab) (X ++ E ++ E') := lm_ok d X (a7_ok h hz) fun G => idem_bad d (k9 G) z9 hb
theorem q_pump (d : Nat) {l : L} {z : Z} (X : GH) (h : l[7]? = some (some z)) (hz : nx z = true) (k9 : ∀ G, Kz 0 G z) (z9 : Sz z) (hb : anyTb z = false) : ∀ E, ∃ E', lm (rt (d + 7)) 13 a7 l (X ++ E) = .ok (.str tTab) (X ++ E ++ E') := lm_ok d X (a7_ok h hz) fun G => pumped_bad d (k9 G) z9 hb
theorem q_mix (d : Nat) {l : L} {z : Z} (X : GH) (h : l[4]? = some (some z)) (hz : nx z = true) (k9 : ∀ G, Kz 0 G z) (z9 : Sz z) (hb : isTb 1 z = false) : ∀ E, ∃ E', lm (rt (d + 7)) 9 a4 l (X ++ E) = .ok (.str tTab) (X ++ E ++ E') :=
  lm_ok d X (a4_ok h hz) fun G => (prod_bad d (n := 1) (by decide) (by decide) (f := nn) (v := z) (G := G) (s := 0) (k9 G) z9 hb).1
end K
end
section
set_option Elab.async false
set_option linter.all false
set_option maxRecDepth 100000
set_option maxHeartbeats 1000000
namespace K
open PySem PySem.Spec PyProof.Rows L2 Zy
def ansE (r : Rt) : DE := (dAnd (dCmp .Eq (dVar 8) (dBin .Mult (dLst (dCons (dC (.str [116, 97, 98, 108, 101])) dNil)) (dC (.int (4))))) (dAnd (dCall r.cf 5 (dCons (dC (.int (8))) (dCons (dVar 3) dNil))) (dNot (dCall r.cf 5 (dCons (dC (.int (8))) (dCons (dVar 7) dNil))))))
theorem ans_ok (d : Nat) {l : L} {X E : GH} {a b : Z} (h8 : l[8]? = some (some (.ref X.length))) (h3 : l[3]? = some (some a)) (h7 : l[7]? = some (some b)) (na : nx a = true) (nb : nx b = true) (ka : ∀ G, Kz 0 G a) (sa : Sz a) (ta : isTb 8 a = true) (kb : ∀ G, Kz 0 G b) (sb : Sz b) (tb : isTb 8 b = false) :
    ∃ E', ansE (rt (d + 7)) l (X ++ (.lst [.str tTab, .str tTab, .str tTab, .str tTab] :: E)) = .ok (.bl true) (X ++ E') := by
  obtain ⟨Y, hY⟩ : ∃ Y : GH, Y = X ++ (.lst [.str tTab, .str tTab, .str tTab, .str tTab] :: E) := ⟨_, rfl⟩
  have c0 : lstAt Y X.length = some [.str tTab, .str tTab, .str tTab, .str tTab] := by rw [hY]; exact at_sh0
  have hj : (decide (-(2 ^ 63) ≤ (4 : Int)) && decide ((4 : Int) < 2 ^ 63) && decide ([Z.str tTab].length * (4 : Int).toNat ≤ sizeLine)) = true := by
    rw [show (decide (([Z.str tTab].length * (4 : Int).toNat) ≤ sizeLine)) = true from decide_eq_true (small _ (by decide))]
    decide
  obtain ⟨Y1, hY1⟩ : ∃ Y1 : GH, Y1 = Y ++ [.lst [.str tTab]] := ⟨_, rfl⟩
  have cY : lstAt Y1 Y.length = some [.str tTab] := by rw [hY1]; exact lstAt_new
  have m4 := mul_lst (G := Y1) (m := Y.length) (x := [.str tTab]) (j := 4) cY hj
  obtain ⟨Y2, hY2⟩ : ∃ Y2 : GH, Y2 = Y1 ++ [.lst [.str tTab, .str tTab, .str tTab, .str tTab]] := ⟨_, rfl⟩
  have c1 : lstAt Y2 X.length = some [.str tTab, .str tTab, .str tTab, .str tTab] := by rw [hY2, hY1]; exact lstAt_app (lstAt_app c0)
  have c2 : lstAt Y2 Y1.length = some [.str tTab, .str tTab, .str tTab, .str tTab] := by rw [hY2]; exact lstAt_new
  have m5 : zBin .Mult (.ref Y.length) (.int 4) Y1 = .ok (.ref Y1.length) Y2 := by rw [hY2]; exact m4
  have ce := eq4 c1 c2
  have i8 := is_table_r (d + 4) (s := 0) (G := Y2) (size := 8) (v := a) (ka _) sa (by decide)
  rw [ta] at i8
  have i9 := is_table_r (d + 4) (s := 0) (G := Y2 ++ eI (d + 4) 8 a Y2) (size := 8) (v := b) (kb _) sb (by decide)
  rw [tb] at i9
  have hE : ∃ E', Y2 ++ eI (d + 4) 8 a Y2 ++ eI (d + 4) 8 b (Y2 ++ eI (d + 4) 8 a Y2) = X ++ E' := by
    generalize eI (d + 4) 8 b (Y2 ++ eI (d + 4) 8 a Y2) = F2
    generalize eI (d + 4) 8 a Y2 = F1
    rw [hY2, hY1, hY]
    simp only [List.append_assoc, List.cons_append]
    exact ⟨_, rfl⟩
  obtain ⟨E', hE⟩ := hE
  have v8 : dVar 8 l Y = .ok (.ref X.length) Y := dVar_of h8 (fun q => nomatch q)
  have v3 : ∀ G', dVar 3 l G' = .ok a G' := fun G' => dVar_of h3 (nx_ne na)
  have v7 : ∀ G', dVar 7 l G' = .ok b G' := fun G' => dVar_of h7 (nx_ne nb)
  have el : (dLst (dCons (dC (.str [116, 97, 98, 108, 101])) dNil)) l Y = .ok (.ref Y.length) Y1 := by
    rw [dLst_ap, dCons_ap, dC_ap, R.bind_ok, dNil_ap, R.bind_ok, R.bind_ok, if_pos (small _ (by simp)), newO_ap, hY1]; rfl
  refine ⟨E', ?_⟩
  rw [← hY, ← hE]
  unfold ansE
  rw [dAnd_ap, dCmp_ap, v8, R.bind_ok, dBin_ap, el, R.bind_ok, dC_ap, R.bind_ok, m5, R.bind_ok]
  refine (congrArg (fun r : R Z => r.bind _) ce).trans ?_
  simp only [R.bind_ok, truD_bl, if_true, dAnd_ap, dCall_ap, dCons_ap, dC_ap, v3, dNil_ap, i8, dNot_ap, v7, i9, Bool.not_false]
end K
end
section
set_option Elab.async false
set_option linter.all false
set_option maxRecDepth 100000
set_option maxHeartbeats 1000000
namespace K
open PySem PySem.Spec PyProof.Rows L2 Zy
def addS (e : DE) : DS := dExp (dMth zAppend ["list"] (dVar 8) (dCons e dNil))
def f1S (r : Rt) : DS := dAsg (dgName 8) (dLst (dCons (lm r 9 a7) dNil))
theorem first_ok {e : DE} {l : L} {X : GH} (h : ∃ E', e l X = .ok (.str tTab) (X ++ E')) : ∃ E', dAsg (dgName 8) (dLst (dCons e dNil)) l X = .nx (l.set 8 (some (.ref (X ++ E').length))) (X ++ E' ++ [.lst [.str tTab]]) := by
  obtain ⟨E', q⟩ := h
  refine ⟨E', ?_⟩
  rw [dAsg_ap, dLst_ap, dCons_ap, q, R.bind_ok, dNil_ap, R.bind_ok, R.bind_ok, if_pos (small _ (by simp)), newO_ap, R.st_ok, dgName_ap]
  rfl
def four (r : Rt) (rest : DS) : DS := dSeq (f1S r) (dSeq (addS (lm r 11 a7)) (dSeq (addS (lm r 9 a4)) (dSeq (addS (lm r 13 a7)) rest)))
theorem four_ok (d : Nat) (s : Nat) (x1 x2 x5 : Option Z) {a t b : Z} (na : nx t = true) (nb : nx b = true) (kt : ∀ G, Kz 0 G t) (st : Sz t) (tt : isTb 1 t = false) (kb : ∀ G, Kz 0 G b) (sb : Sz b) (tb : anyTb b = false) (G : GH) (rest : DS) :
    ∃ E E', four (rt (d + 7)) rest (wl s x1 x2 (some a) (some t) x5 (some t) (some b) none) G = rest (wl s x1 x2 (some a) (some t) x5 (some t) (some b) (some (.ref (G ++ E).length))) (G ++ E ++ (.lst [.str tTab, .str tTab, .str tTab, .str tTab] :: E')) := by
  obtain ⟨E1, w1⟩ := first_ok (e := lm (rt (d + 7)) 9 a7) (l := wl s x1 x2 (some a) (some t) x5 (some t) (some b) none) (X := G) (by
    obtain ⟨E', q⟩ := q_prod d (l := wl s x1 x2 (some a) (some t) x5 (some t) (some b) none) (z := b) G rfl nb kb sb tb []
    rw [List.append_nil] at q
    exact ⟨E', q⟩)
  obtain ⟨lF, hlF⟩ : ∃ lF, lF = wl s x1 x2 (some a) (some t) x5 (some t) (some b) (some (.ref (G ++ E1).length)) := ⟨_, rfl⟩
  have g4 : lF[4]? = some (some t) := by rw [hlF]; rfl
  have g7 : lF[7]? = some (some b) := by rw [hlF]; rfl
  have g8 : lF[8]? = some (some (.ref (G ++ E1).length)) := by rw [hlF]; rfl
  obtain ⟨E2, w2⟩ := app_lam (l := lF) (X := G ++ E1) (E := []) (acc := [.str tTab]) g8 (by simp) (q_idem d (G ++ E1) g7 nb kb sb tb)
  obtain ⟨E3, w3⟩ := app_lam (l := lF) (X := G ++ E1) (E := E2) (acc := [.str tTab] ++ [.str tTab]) g8 (by simp) (q_mix d (G ++ E1) g4 na kt st tt)
  obtain ⟨E4, w4⟩ := app_lam (l := lF) (X := G ++ E1) (E := E3) (acc := [.str tTab] ++ [.str tTab] ++ [.str tTab]) g8 (by simp) (q_pump d (G ++ E1) g7 nb kb sb tb)
  refine ⟨E1, E4, ?_⟩
  unfold four f1S addS
  rw [dSeq_ap, w1, seq_nx, show (wl s x1 x2 (some a) (some t) x5 (some t) (some b) none).set 8 (some (.ref (G ++ E1).length)) = lF from hlF.symm ▸ rfl, dSeq_ap, w2, seq_nx, dSeq_ap, w3, seq_nx, dSeq_ap, w4, seq_nx, ← hlF]
  rfl
theorem written_ok (d : Nat) (G : GH) : ∃ E, (rt (d + 8)).cf 27 [] G = .ok (.bl true) (G ++ E) := by
  show ∃ E, (C (d + 10)).cf 27 [] G = _
  rw [show d + 10 = (d + 7) + 3 from rfl, cfS (d + 7) 27 f_27 s_27 9 0 rfl rfl rfl rfl rfl sh_27 rfl]
  show ∃ E, (s_27 (rt (d + 7)) [none, none, none, none, none, none, none, none, none] G).fin = _
  have sh : s_27 (rt (d + 7)) = dSeq initS (dSeq rowsS (dSeq bothS (dSeq (powS (rt (d + 7))) (dSeq dueS (dSeq (dIfS (tstT (rt (d + 7))) (dSeq (dRet (dC (.bl false))) dNop) dNop) (dSeq (dAsg (dgName 7) nineE) (four (rt (d + 7)) (dSeq (dRet (ansE (rt (d + 7)))) dNop)))))))) := rfl
  obtain ⟨x1, x2, E1, w1⟩ := rows_ok G
  have w2 := both_ok (s := G.length) (G := G ++ (.lst ((List.range 8).map fun i => row 8 (cp 0 i)) :: E1)) (x1 := x1) (x2 := x2) at_sh0
  rw [show Z.tup ((List.range 8).map fun i => row 8 (cp 0 i)) = tz 8 (cp 0) from rfl] at w2
  generalize (ZO.lst ((List.range 8).map fun i => row 8 (cp 0 i)) :: E1 : GH) = F1 at w1 w2
  obtain ⟨x5, F2, w3⟩ := pow_ok d G.length x1 x2 (G ++ F1)
  obtain ⟨F3, w4⟩ := due_ok G.length x1 x2 (some (tz 8 (cp 0))) (some (tz 8 dg)) x5 (G ++ F1 ++ F2)
  obtain ⟨F4, w5⟩ := tst_ok d G.length x1 x2 x5 none none (G ++ F1 ++ F2 ++ F3)
  obtain ⟨F5, w6⟩ := nine_ok (wl G.length x1 x2 (some (tz 8 (cp 0))) (some (tz 8 dg)) x5 (some (tz 8 dg)) none none) (G ++ F1 ++ F2 ++ F3 ++ F4)
  obtain ⟨F6, F7, w7⟩ := four_ok d G.length x1 x2 x5 (a := tz 8 (cp 0)) (t := tz 8 dg) (b := tz 9 nn) rfl rfl (fun _ => kz_tz) (sz_tz (by decide)) (isTb_len (by decide)) (fun _ => kz_tz) (sz_tz (by decide)) bad9 (G ++ F1 ++ F2 ++ F3 ++ F4 ++ F5) (dSeq (dRet (ansE (rt (d + 7)))) dNop)
  obtain ⟨F8, w8⟩ := ans_ok d (l := wl G.length x1 x2 (some (tz 8 (cp 0))) (some (tz 8 dg)) x5 (some (tz 8 dg)) (some (tz 9 nn)) (some (.ref (G ++ F1 ++ F2 ++ F3 ++ F4 ++ F5 ++ F6).length))) (X := G ++ F1 ++ F2 ++ F3 ++ F4 ++ F5 ++ F6) (E := F7) (a := tz 8 (cp 0)) (b := tz 9 nn) rfl rfl rfl rfl rfl (fun _ => kz_tz) (sz_tz (by decide)) isTb_tz (fun _ => kz_tz) (sz_tz (by decide)) (isTb_len (by decide))
  rw [sh, dSeq_ap, init_ok, seq_nx, dSeq_ap, w1, seq_nx, dSeq_ap, w2, seq_nx, dSeq_ap, w3, seq_nx, dSeq_ap, w4, seq_nx, dSeq_ap, dIfS_ap, w5, R.st_ok, if_neg Bool.false_ne_true, dNop_ap, seq_nx, dSeq_ap, dAsg_ap, w6, R.st_ok, dgName_ap, tgt_nx, seq_nx]
  rw [show (wl G.length x1 x2 (some (tz 8 (cp 0))) (some (tz 8 dg)) x5 (some (tz 8 dg)) none none).set 7 (some (tz 9 fun _ _ => 1)) = wl G.length x1 x2 (some (tz 8 (cp 0))) (some (tz 8 dg)) x5 (some (tz 8 dg)) (some (tz 9 nn)) none from rfl, w7, dSeq_ap, dRet_ap, w8, R.st_ok, seq_rt, fin_rt]
  exact ⟨F1 ++ (F2 ++ (F3 ++ (F4 ++ (F5 ++ (F6 ++ F8))))), by simp only [List.append_assoc]⟩
end K
end
section
set_option Elab.async false
set_option linter.all false
set_option maxRecDepth 100000
set_option maxHeartbeats 1000000
namespace K
open PySem PySem.Spec PyProof.Rows L2 Zy
theorem streamR (d : Nat) {G : GH} {ns : List Int} {at_ : Nat} : ∃ a b, (rt (d + 1)).cf 14 [.rol (ns.map .int), .int at_] G = .ok (.ref G.length) (G ++ [.lst [.int a, .int b, .int 0]]) := by
  obtain ⟨a, b, h⟩ := stream_ok (G := G) (ns := ns) (at_ := at_)
  refine ⟨a, b, ?_⟩
  show (C (d + 3)).cf 14 [.rol (ns.map .int), .int at_] G = _
  rw [cfS d 14 f_14 s_14 5 2 rfl rfl rfl rfl rfl sh_14 rfl]
  exact h
def turnS (r : Rt) : DS := (dSeq (dAsg (dgName 4) (dBin .Add (dC (.int (1))) (dCall r.cf 15 (dCons (dVar 2) (dCons (dC (.int (7))) dNil))))) (dSeq (dIfS (uOr (uNot (dTru (dCall r.cf 25 (dCons (dVar 2) (dCons (dVar 4) dNil))))) (uNot (dTru (dCall r.cf 26 (dCons (dVar 2) (dCons (dVar 4) dNil)))))) (dSeq (dRet (dC (.bl false))) dNop) dNop) dNop))
def lw (ns : List Int) (a1 a2 a3 a4 : Option Z) : L := [some (.rol (ns.map .int)), a1, a2, a3, a4]
theorem turn_ok (d : Nat) {ns : List Int} {a1 a3 a4 : Option Z} {s : Nat} {G : GH} (hs : StrAt G s) : ∃ G' b4, turnS (rt (d + 8)) (lw ns a1 (some (.ref s)) a3 a4) G = .nx (lw ns a1 (some (.ref s)) a3 b4) G' ∧ StrAt G' s := by
  obtain ⟨x, G1, e1, k1, x0, x7⟩ := drawR (d + 7) (tot := 7) hs (by decide) (by decide)
  obtain ⟨n, rfl⟩ : ∃ n : Nat, x = n := ⟨x.toNat, by omega⟩
  have hs1 := k1.str hs
  obtain ⟨G2, e2, k2⟩ := right_ok (d + 2) (n := n + 1) (by omega) (by omega) hs1
  have hs2 := k2.str hs1
  obtain ⟨G3, e3, k3⟩ := values_ok d (n := n + 1) (by omega) (by omega) hs2
  refine ⟨G3, some (.int ((n + 1 : Nat) : Int)), ?_, k3.str hs2⟩
  have v2 : ∀ (b4 : Option Z) G, dVar 2 (lw ns a1 (some (.ref s)) a3 b4) G = .ok (.ref s) G := fun b4 G => dVar_ref rfl
  have v4 : ∀ G, dVar 4 (lw ns a1 (some (.ref s)) a3 (some (.int ((n + 1 : Nat) : Int)))) G = .ok (.int ((n + 1 : Nat) : Int)) G := fun G => dVar_int rfl
  have e1' : (rt (d + 8)).cf 15 [.ref s, .int 7] G = .ok (.int n) G1 := e1
  have e2' : (rt (d + 8)).cf 25 [.ref s, .int ((n + 1 : Nat) : Int)] G1 = .ok (.bl true) G2 := e2
  unfold turnS
  rw [dSeq_ap, dAsg_ap, dBin_ap, dC_ap, R.bind_ok, dCall_ap, dCons_ap, v2, R.bind_ok, dCons_ap, dC_ap, R.bind_ok, dNil_ap, R.bind_ok, R.bind_ok, R.bind_ok, e1', R.bind_ok, bin_add, R.st_ok, dgName_ap, tgt_nx, seq_nx]
  rw [show (lw ns a1 (some (.ref s)) a3 a4).set 4 (some (.int (1 + (n : Int)))) = lw ns a1 (some (.ref s)) a3 (some (.int ((n + 1 : Nat) : Int))) from by
    rw [show (1 + (n : Int)) = ((n + 1 : Nat) : Int) from by omega]; rfl]
  have t : (uOr (uNot (dTru (dCall (rt (d + 8)).cf 25 (dCons (dVar 2) (dCons (dVar 4) dNil))))) (uNot (dTru (dCall (rt (d + 8)).cf 26 (dCons (dVar 2) (dCons (dVar 4) dNil)))))) (lw ns a1 (some (.ref s)) a3 (some (.int ((n + 1 : Nat) : Int)))) G1 = .ok false G3 := by
    simp only [uOr_ap, uNot_ap, dTru_ap, dCall_ap, dCons_ap, v2, v4, dNil_ap, R.bind_ok, e2', truD_bl, Bool.not_true, Bool.false_eq_true, if_false, e3]
  rw [dSeq_ap, dIfS_ap, t, R.st_ok, if_neg Bool.false_ne_true, dNop_ap, seq_nx, dNop_ap]
def bodyL (r : Rt) : DS := (dSeq (dAsg (dgName 2) (dCall r.cf 14 (dCons (dVar 0) (dCons (dVar 1) dNil)))) (dSeq (dFor (dRng1 (dCons (dC (.int (2))) dNil)) (dgName 3) (turnS r)) dNop))
theorem bodyL_ok (d : Nat) {ns : List Int} {k : Nat} {a2 a3 a4 : Option Z} {G : GH} : ∃ G' b2 b3 b4, bodyL (rt (d + 8)) (lw ns (some (.int k)) a2 a3 a4) G = .nx (lw ns (some (.int k)) b2 b3 b4) G' := by
  obtain ⟨a, b, e⟩ := streamR (d + 7) (G := G) (ns := ns) (at_ := k)
  have e' : (rt (d + 8)).cf 14 [.rol (ns.map .int), .int k] G = .ok (.ref G.length) (G ++ [.lst [.int a, .int b, .int 0]]) := e
  have hs : StrAt (G ++ [.lst [.int a, .int b, .int 0]]) G.length := ⟨a, b, 0, lstAt_new⟩
  obtain ⟨l', G', h1, ⟨b3, b4, rfl⟩, h3⟩ := for_pure (g := dgName 3) (body := turnS (rt (d + 8))) (rngZ 0 (2 : Nat)) (fun j l G' => (∃ b3 b4, l = lw ns (some (.int k)) (some (.ref G.length)) b3 b4) ∧ StrAt G' G.length) (l := lw ns (some (.int k)) (some (.ref G.length)) a3 a4) (G := G ++ [.lst [.int a, .int b, .int 0]]) ⟨⟨_, _, rfl⟩, hs⟩
    (fun j z l G1 hz ⟨⟨b3, b4, hl⟩, hS⟩ => by
      subst hl
      obtain ⟨G2, c4, q, r⟩ := turn_ok d (ns := ns) (a1 := some (.int k)) (a3 := some z) (a4 := b4) hS
      exact ⟨_, _, _, G2, rfl, .inl q, ⟨_, _, rfl⟩, r⟩)
  rw [rng_len] at h1
  refine ⟨G', some (.ref G.length), b3, b4, ?_⟩
  unfold bodyL
  rw [dSeq_ap, dAsg_ap, dCall_ap, dCons_ap, show dVar 0 (lw ns (some (.int k)) a2 a3 a4) G = .ok (.rol (ns.map .int)) G from rfl, R.bind_ok, dCons_ap, show dVar 1 (lw ns (some (.int k)) a2 a3 a4) G = .ok (.int k) G from rfl, R.bind_ok, dNil_ap, R.bind_ok, R.bind_ok, R.bind_ok, e', R.st_ok, dgName_ap, tgt_nx, seq_nx]
  rw [show (lw ns (some (.int k)) a2 a3 a4).set 2 (some (.ref G.length)) = lw ns (some (.int k)) (some (.ref G.length)) a3 a4 from rfl, dSeq_ap, dFor_rng (n := 2) (G1 := G ++ [.lst [.int a, .int b, .int 0]]) rfl (by decide), h1, seq_nx, dNop_ap]
theorem max1 {j : Int} {G : GH} : on2 zMax2 [.int 1, .int j] G = .ok (.int (if j > 1 then j else 1)) G := rfl
theorem min5 {j : Int} {G : GH} : on2 zMin2 [.int 5, .int j] G = .ok (.int (if j < 5 then j else 5)) G := rfl
theorem law_ok (d : Nat) (ns : List Int) (h : ns.length ≤ 63) : ∃ G, (C (d + 11)).cf 28 [.rol (ns.map .int)] [] = .ok (.bl true) G := by
  rw [show d + 11 = (d + 8) + 3 from rfl, cfS (d + 8) 28 f_28 s_28 5 1 rfl rfl rfl rfl rfl sh_28 rfl]
  show ∃ G, (s_28 (rt (d + 8)) (lw ns none none none none) []).fin = .ok (.bl true) G
  have sh : s_28 (rt (d + 8)) = (dSeq (dFor (dRng1 (dCons (dFn (on2 zMax2) (dCons (dC (.int (1))) (dCons (dFn (on2 zMin2) (dCons (dC (.int (5))) (dCons (dFn (on1 zLen) (dCons (dVar 0) dNil)) dNil))) dNil))) dNil)) (dgName 1) (bodyL (rt (d + 8)))) (dSeq (dRet (dCall (rt (d + 8)).cf 27 dNil)) dNop)) := rfl
  obtain ⟨j, hj, ho⟩ : ∃ j : Nat, (if (if (ns.length : Int) < 5 then (ns.length : Int) else 5) > 1 then (if (ns.length : Int) < 5 then (ns.length : Int) else 5) else 1) = j ∧ j ≤ 100 := by
    refine ⟨(if (if (ns.length : Int) < 5 then (ns.length : Int) else 5) > 1 then (if (ns.length : Int) < 5 then (ns.length : Int) else 5) else 1).toNat, ?_, ?_⟩
    · split <;> split <;> omega
    · split <;> split <;> omega
  obtain ⟨l', G', h1, ⟨a1, a2, a3, a4, rfl⟩⟩ := for_pure (g := dgName 1) (body := bodyL (rt (d + 8))) (rngZ 0 j) (fun k l G' => ∃ a1 a2 a3 a4, l = lw ns a1 a2 a3 a4) (l := lw ns none none none none) (G := []) ⟨_, _, _, _, rfl⟩
    (fun k z l G1 hz ⟨a1, a2, a3, a4, hl⟩ => by
      subst hl
      rw [rng_nth hz]
      obtain ⟨G2, b2, b3, b4, h1⟩ := bodyL_ok d (G := G1) (ns := ns) (k := k) (a2 := a2) (a3 := a3) (a4 := a4)
      exact ⟨_, _, _, G2, rfl, .inl h1, ⟨_, _, _, _, rfl⟩⟩)
  rw [rng_len] at h1
  obtain ⟨E, e⟩ := written_ok d G'
  refine ⟨G' ++ E, ?_⟩
  have lr' : ∀ G : GH, on1 zLen [.rol (ns.map .int)] G = .ok (.int ns.length) G := fun G => by
    show zLen (.rol (ns.map .int)) G = _
    rw [len_rol, List.length_map]
  have v0 : ∀ (G : GH), dVar 0 (lw ns none none none none) G = .ok (.rol (ns.map .int)) G := fun G => rfl
  have ra : (dCons (dFn (on2 zMax2) (dCons (dC (.int (1))) (dCons (dFn (on2 zMin2) (dCons (dC (.int (5))) (dCons (dFn (on1 zLen) (dCons (dVar 0) dNil)) dNil))) dNil))) dNil : DA) (lw ns none none none none) [] = .ok [.int j] [] := by
    rw [dCons_ap, dFn_ap, dCons_ap, dC_ap, R.bind_ok, dCons_ap, dFn_ap, dCons_ap, dC_ap, R.bind_ok, dCons_ap, dFn_ap, dCons_ap, v0, R.bind_ok, dNil_ap, R.bind_ok, R.bind_ok, lr', R.bind_ok, dNil_ap, R.bind_ok, R.bind_ok, R.bind_ok, min5, R.bind_ok, dNil_ap, R.bind_ok, R.bind_ok, R.bind_ok, max1, R.bind_ok, hj]
    rfl
  rw [sh, dSeq_ap, dFor_rng (n := j) (G1 := []) ra ho, h1, seq_nx, dSeq_ap, dRet_ap, dCall_ap, dNil_ap, R.bind_ok, e, R.st_ok, seq_rt, fin_rt]
end K
end
section
theorem PySem.Challenge.cw_openlimit_k19_products_of_tables_holds : PySem.Challenge.rw_openlimit_k19_products_of_tables.Holds :=
  K.holds fun ns h _ => K.law_ok 22 ns h
end
