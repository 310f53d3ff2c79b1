import PyProof.Rows.All
import Wide.All
import OpenK.AllK
import Wide.FinOn
import HandS.ForMost
import HandS.IsInst
import HandS.TupAny
import HandS.WordsExc
import HandS.StrMore
import HandS.Deep
import HandS.Text
import KE.GoesEnum
import HandS.Style
import HandS.Defaults
import HandS.Exc
import HandS.ExcOwn
import HandS.ExcInit
import HandS.ExcValue
import HandS.TryOnly
import HandS.ExcField
import HandS.ClsMeth
import KE.KExcIs
import HandS.SortInts
import KE.IntTextLaws
import PyProof.ReprRoads
import HandS.FStrTup
import PySem.Challenge.RW_rulefault_k04_texts_of_calls
set_option Elab.async false
set_option linter.all false
set_option maxRecDepth 100000
set_option autoImplicit false
/-! Gm: a second layer over HandS. Data without addresses (D), owned trees (Ob), an environment of slots (Env); each def gets a total mirror over these, and the judgement says that the def does what the mirror says. -/
namespace Gm
open PySem PySem.Spec PyProof.Rows L2
abbrev Frag := PySem.W.Frag
abbrev St := L2.St

/-- data: None, truths, numbers, texts, tuples; lists and an empty dict that nobody changes any more -/
inductive D where
  | non | bl (b : Bool) | int (i : Int) | str (s : Str) | tup (xs : List D) | fl (xs : List D) | fd
  deriving Inhabited

/-- a locked list, or one of the written part -/
def FzL (K : Frag) (H : Hp) (a : Addr) (vs : List V) : Prop := (∃ o, H a = some (.frz o (.lst vs))) ∨
  ∃ (o : Obj) (its : Array Value) (n : Nat), K.lookup a = some o ∧ o.cls = .type "list" ∧ o.dict = none ∧ o.data = .seq its n ∧ its.size ≤ sizeLine ∧ Vals vs its.toList
theorem FzL.sq {K : Frag} {H : Hp} {a : Addr} {vs : List V} (h : FzL K H a vs) : SqL K H a vs := h.elim (fun z => .inl (.inr z)) .inr
mutual
inductive At (K : Frag) (H : Hp) : V → D → Prop
  | non : At K H .non .non
  | bl (b : Bool) : At K H (.bl b) (.bl b)
  | int (i : Int) : At K H (.int i) (.int i)
  | str (x : Str) : At K H (.str x) (.str x)
  | tup {a : Addr} {vs : List V} {xs : List D} : SqT K H a vs → Ats K H vs xs → At K H (.ref a) (.tup xs)
  | fl {a : Addr} {vs : List V} {xs : List D} : FzL K H a vs → Ats K H vs xs → At K H (.ref a) (.fl xs)
  | fd {a : Addr} {o : Obj} : H a = some (.frz o (.dK [])) → At K H (.ref a) .fd
inductive Ats (K : Frag) (H : Hp) : List V → List D → Prop
  | nil : Ats K H [] []
  | cons {v : V} {vs : List V} {x : D} {xs : List D} : At K H v x → Ats K H vs xs → Ats K H (v :: vs) (x :: xs)
end

/-- tuples, locked things and exceptions stay -/
structure Im (H H' : Hp) : Prop where
  tup : ∀ a xs, H a = some (.tup xs) → H' a = some (.tup xs)
  frz : ∀ a o u, H a = some (.frz o u) → H' a = some (.frz o u)
  exc : ∀ (a : Addr) (φ : Heap → Prop), H a = some (.ext φ) → H' a = some (.ext φ)
  xds : ∀ (a : Addr) (fs : List (Str × V)), H a = some (.xd fs) → H' a = some (.xd fs)
theorem Im.refl (H : Hp) : Im H H := ⟨fun _ _ h => h, fun _ _ _ h => h, fun _ _ h => h, fun _ _ h => h⟩
theorem Im.trans {H H1 H2 : Hp} (a : Im H H1) (b : Im H1 H2) : Im H H2 := ⟨fun x xs h => b.tup x xs (a.tup x xs h), fun x o u h => b.frz x o u (a.frz x o u h), fun x o h => b.exc x o (a.exc x o h), fun x o h => b.xds x o (a.xds x o h)⟩
/-- all that is tracked stays -/
def Ext (H H' : Hp) : Prop := ∀ b o, H b = some o → H' b = some o
theorem Ext.refl (H : Hp) : Ext H H := fun _ _ h => h
theorem Ext.trans {H H1 H2 : Hp} (a : Ext H H1) (b : Ext H1 H2) : Ext H H2 := fun c o h => b c o (a c o h)
theorem Ext.new {H : Hp} {p : Addr} {o : HO} (h : H p = none) : Ext H (upd H p o) := fun b u e => by
  rw [upd_ne (ne_of_none e h)]
  exact e
theorem Ext.im {H H' : Hp} (e : Ext H H') : Im H H' := ⟨fun _ _ h => e _ _ h, fun _ _ _ h => e _ _ h, fun _ _ h => e _ _ h, fun _ _ h => e _ _ h⟩
section
variable {K : Frag} {H H' : Hp}
theorem Im.sqT (m : Im H H') {a : Addr} {xs : List V} (h : SqT K H a xs) : SqT K H' a xs := by
  rcases h with (h | ⟨o, h⟩) | h
  · exact .inl (.inl (m.tup _ _ h))
  · exact .inl (.inr ⟨o, m.frz _ _ _ h⟩)
  · exact .inr h
theorem Im.fz (m : Im H H') {a : Addr} {xs : List V} (h : FzL K H a xs) : FzL K H' a xs := h.elim (fun ⟨o, z⟩ => .inl ⟨o, m.frz _ _ _ z⟩) .inr
mutual
theorem At.mono (m : Im H H') : ∀ {v : V} {x : D}, At K H v x → At K H' v x
  | _, _, .non => .non
  | _, _, .bl b => .bl b
  | _, _, .int i => .int i
  | _, _, .str s => .str s
  | _, _, .tup h hs => .tup (m.sqT h) (Ats.mono m hs)
  | _, _, .fl h hs => .fl (m.fz h) (Ats.mono m hs)
  | _, _, .fd h => .fd (m.frz _ _ _ h)
theorem Ats.mono (m : Im H H') : ∀ {vs : List V} {xs : List D}, Ats K H vs xs → Ats K H' vs xs
  | _, _, .nil => .nil
  | _, _, .cons h hs => .cons (At.mono m h) (Ats.mono m hs)
end
theorem Ats.length : ∀ {vs : List V} {xs : List D}, Ats K H vs xs → vs.length = xs.length
  | _, _, .nil => rfl
  | _, _, .cons _ hs => congrArg (· + 1) (Ats.length hs)
theorem Ats.get : ∀ {vs : List V} {xs : List D} {i : Nat} {x : D}, Ats K H vs xs → xs[i]? = some x → ∃ v, vs[i]? = some v ∧ At K H v x
  | _, _, _, _, .nil, e => by simp at e
  | _, _, 0, _, .cons h _, e => by simp at e; subst e; exact ⟨_, rfl, h⟩
  | _, _, i + 1, x, .cons _ hs, e => by
    obtain ⟨v, h1, h2⟩ := Ats.get (i := i) (x := x) hs (by simpa using e)
    exact ⟨v, by simpa using h1, h2⟩
theorem Ats.get' : ∀ {vs : List V} {xs : List D} {i : Nat} {v : V}, Ats K H vs xs → vs[i]? = some v → ∃ x, xs[i]? = some x ∧ At K H v x
  | _, _, _, _, .nil, e => by simp at e
  | _, _, 0, _, .cons h _, e => by simp at e; subst e; exact ⟨_, rfl, h⟩
  | _, _, i + 1, v, .cons _ hs, e => by
    obtain ⟨x, h1, h2⟩ := Ats.get' (i := i) (v := v) hs (by simpa using e)
    exact ⟨x, by simpa using h1, h2⟩
theorem Ats.append : ∀ {vs ws : List V} {xs ys : List D}, Ats K H vs xs → Ats K H ws ys → Ats K H (vs ++ ws) (xs ++ ys)
  | _, _, _, _, .nil, t => t
  | _, _, _, _, .cons h hs, t => .cons h (Ats.append hs t)
theorem Ats.take : ∀ {vs : List V} {xs : List D} (n : Nat), Ats K H vs xs → Ats K H (vs.take n) (xs.take n)
  | _, _, 0, _ => .nil
  | _, _, _ + 1, .nil => .nil
  | _, _, n + 1, .cons h hs => .cons h (Ats.take n hs)
theorem Ats.drop : ∀ {vs : List V} {xs : List D} (n : Nat), Ats K H vs xs → Ats K H (vs.drop n) (xs.drop n)
  | _, _, 0, h => h
  | _, _, _ + 1, .nil => .nil
  | _, _, n + 1, .cons _ hs => Ats.drop n hs
theorem Ats.set {v : V} {x : D} (h : At K H v x) : ∀ {vs : List V} {xs : List D} (i : Nat), Ats K H vs xs → Ats K H (vs.set i v) (xs.set i x)
  | _, _, _, .nil => .nil
  | _, _, 0, .cons _ hs => .cons h hs
  | _, _, i + 1, .cons q hs => .cons q (Ats.set h i hs)
theorem Ats.dropLast {vs : List V} {xs : List D} (h : Ats K H vs xs) : Ats K H vs.dropLast xs.dropLast := by
  rw [List.dropLast_eq_take, List.dropLast_eq_take, h.length]
  exact h.take _
end

/-- an exception: its class's name, and the one number that it holds -/
structure Ex where
  cls : Str
  pay : Option (Str × Int)
/-- an exception's object that was caught -/
def exa (a C : Addr) (d : Option Addr) : HO := .ext fun h => ∃ (o : Obj) (vs : Array Value), h.get? a = some o ∧ o.cls = .ref C ∧ o.dict = d ∧ o.data = .fields vs
/-- how what it holds lies -/
def PayR (H : Hp) : Option (Str × Int) → Option Addr → Prop
  | none, d => d = none
  | some (f, i), d => ∃ dd, d = some dd ∧ H dd = some (.xd [(f, .int i)])
/-- the class of that name -/
def NmC (K : Frag) (n : Str) (C : Addr) : Prop := PySem.W.nsIn K mainGlobals n = some (some (.ref C))
theorem NmC.uniq {K : Frag} {n : Str} {C D : Addr} (a : NmC K n C) (b : NmC K n D) : C = D := by
  unfold NmC at a b
  rw [a] at b
  cases b
  rfl
theorem PayR.keep {H H' : Hp} {p : Option (Str × Int)} {d : Option Addr} (h : PayR H p d) (m : Im H H') : PayR H' p d := by
  cases p with
  | none => exact h
  | some q =>
    obtain ⟨dd, e, q⟩ := h
    exact ⟨dd, e, m.xds _ _ q⟩
/-- what a slot holds: data, or an object of one's own: a list, a dict, an instance, an exception that was caught, a list of objects (hol: one that is lent) -/
inductive Ob where
  | d (x : D) | lst (xs : List D) | dct (kvs : List (Key × D)) | ins (C : Addr) (fs : List (Str × Ob)) | exc (x : Ex) | obs (xs : List Ob) | hol
  deriving Inhabited
inductive KVs (K : Frag) (H : Hp) : List (Key × V) → List (Key × D) → Prop
  | nil : KVs K H [] []
  | cons {k : Key} {v : V} {x : D} {ws : List (Key × V)} {xs : List (Key × D)} : At K H v x → KVs K H ws xs → KVs K H ((k, v) :: ws) ((k, x) :: xs)
theorem KVs.mono {K : Frag} {H H' : Hp} (m : Im H H') : ∀ {ws : List (Key × V)} {xs : List (Key × D)}, KVs K H ws xs → KVs K H' ws xs
  | _, _, .nil => .nil
  | _, _, .cons h hs => .cons (h.mono m) (KVs.mono m hs)
abbrev Fp := Addr → Prop
mutual
inductive RepO (K : Frag) (H : Hp) : Ob → V → Fp → Prop
  | d {x : D} {v : V} {f : Fp} : At K H v x → (∀ b, ¬ f b) → RepO K H (.d x) v f
  | lst {p : Addr} {vs : List V} {xs : List D} {f : Fp} : H p = some (.lst vs) → Ats K H vs xs → (∀ b, f b ↔ b = p) → RepO K H (.lst xs) (.ref p) f
  | dct {p : Addr} {ws : List (Key × V)} {kvs : List (Key × D)} {f : Fp} : H p = some (.dK ws) → KVs K H ws kvs → (∀ b, f b ↔ b = p) → RepO K H (.dct kvs) (.ref p) f
  | ins {p C dx : Addr} {fs : List (Str × Ob)} {ws : List (Str × V)} {f g : Fp} : H p = some (.ins C dx ws) → RepFs K H fs ws g → ¬ g p → (∀ b, f b ↔ b = p ∨ g b) → RepO K H (.ins C fs) (.ref p) f
  | exc {a C : Addr} {x : Ex} {d : Option Addr} {f : Fp} : NmC K x.cls C → H a = some (exa a C d) → PayR H x.pay d → (∀ b, ¬ f b) → RepO K H (.exc x) (.ref a) f
  | obs {p : Addr} {vs : List V} {xs : List Ob} {f g : Fp} : H p = some (.lst vs) → RepOs K H xs vs g → ¬ g p → (∀ b, f b ↔ b = p ∨ g b) → RepO K H (.obs xs) (.ref p) f
  | hol {v : V} {f : Fp} : (∀ b, ¬ f b) → RepO K H .hol v f
inductive RepOs (K : Frag) (H : Hp) : List Ob → List V → Fp → Prop
  | nil {g : Fp} : (∀ b, ¬ g b) → RepOs K H [] [] g
  | cons {o : Ob} {v : V} {os : List Ob} {vs : List V} {f g h : Fp} : RepO K H o v f → RepOs K H os vs g → (∀ b, f b → g b → False) → (∀ b, h b ↔ f b ∨ g b) → RepOs K H (o :: os) (v :: vs) h
inductive RepFs (K : Frag) (H : Hp) : List (Str × Ob) → List (Str × V) → Fp → Prop
  | nil {g : Fp} : (∀ b, ¬ g b) → RepFs K H [] [] g
  | cons {n : Str} {o : Ob} {v : V} {fs : List (Str × Ob)} {ws : List (Str × V)} {f g h : Fp} : RepO K H o v f → RepFs K H fs ws g → (∀ b, f b → g b → False) → (∀ b, h b ↔ f b ∨ g b) → RepFs K H ((n, o) :: fs) ((n, v) :: ws) h
end
/-- what is owned may be changed: no tuple, nothing locked -/
def Own1 : Option HO → Prop
  | some (.lst _) => True
  | some (.dK _) => True
  | some (.ins _ _ _) => True
  | _ => False
section
variable {K : Frag} {H H' : Hp}
mutual
theorem RepO.frame (m : Im H H') : ∀ {o : Ob} {v : V} {f : Fp}, RepO K H o v f → (∀ b u, f b → H b = some u → H' b = some u) → RepO K H' o v f
  | _, _, _, .d h e, _ => .d (h.mono m) e
  | _, _, _, .lst h hs e, k => .lst (k _ _ ((e _).mpr rfl) h) (hs.mono m) e
  | _, _, _, .dct h hs e, k => .dct (k _ _ ((e _).mpr rfl) h) (hs.mono m) e
  | _, _, _, .ins h hs n e, k => .ins (k _ _ ((e _).mpr (.inl rfl)) h) (RepFs.frame m hs fun b u g => k b u ((e b).mpr (.inr g))) n e
  | _, _, _, .exc c h p e, k => .exc c (m.exc _ _ h) (p.keep m) e
  | _, _, _, .obs h hs n e, k => .obs (k _ _ ((e _).mpr (.inl rfl)) h) (RepOs.frame m hs fun b u g => k b u ((e b).mpr (.inr g))) n e
  | _, _, _, .hol e, _ => .hol e
theorem RepOs.frame (m : Im H H') : ∀ {os : List Ob} {vs : List V} {g : Fp}, RepOs K H os vs g → (∀ b u, g b → H b = some u → H' b = some u) → RepOs K H' os vs g
  | _, _, _, .nil e, _ => .nil e
  | _, _, _, .cons h hs d e, k => .cons (RepO.frame m h fun b u g => k b u ((e b).mpr (.inl g))) (RepOs.frame m hs fun b u g => k b u ((e b).mpr (.inr g))) d e
theorem RepFs.frame (m : Im H H') : ∀ {fs : List (Str × Ob)} {ws : List (Str × V)} {g : Fp}, RepFs K H fs ws g → (∀ b u, g b → H b = some u → H' b = some u) → RepFs K H' fs ws g
  | _, _, _, .nil e, _ => .nil e
  | _, _, _, .cons h hs d e, k => .cons (RepO.frame m h fun b u g => k b u ((e b).mpr (.inl g))) (RepFs.frame m hs fun b u g => k b u ((e b).mpr (.inr g))) d e
end
mutual
theorem RepO.own : ∀ {o : Ob} {v : V} {f : Fp}, RepO K H o v f → ∀ b, f b → Own1 (H b)
  | _, _, _, .d h e, b, q => (e b q).elim
  | _, _, _, .lst h hs e, b, q => by rw [(e b).mp q, h]; trivial
  | _, _, _, .dct h hs e, b, q => by rw [(e b).mp q, h]; trivial
  | _, _, _, .ins h hs n e, b, q => ((e b).mp q).elim (fun z => by rw [z, h]; trivial) fun z => RepFs.own hs b z
  | _, _, _, .exc c h p e, b, q => (e b q).elim
  | _, _, _, .obs h hs n e, b, q => ((e b).mp q).elim (fun z => by rw [z, h]; trivial) fun z => RepOs.own hs b z
  | _, _, _, .hol e, b, q => (e b q).elim
theorem RepOs.own : ∀ {os : List Ob} {vs : List V} {g : Fp}, RepOs K H os vs g → ∀ b, g b → Own1 (H b)
  | _, _, _, .nil e, b, q => (e b q).elim
  | _, _, _, .cons h hs d e, b, q => ((e b).mp q).elim (fun z => RepO.own h b z) fun z => RepOs.own hs b z
theorem RepFs.own : ∀ {fs : List (Str × Ob)} {ws : List (Str × V)} {g : Fp}, RepFs K H fs ws g → ∀ b, g b → Own1 (H b)
  | _, _, _, .nil e, b, q => (e b q).elim
  | _, _, _, .cons h hs d e, b, q => ((e b).mp q).elim (fun z => RepO.own h b z) fun z => RepFs.own hs b z
end
theorem Own1.some {b : Addr} (h : Own1 (H b)) : ∃ u, H b = some u := by
  cases q : H b with
  | none => rw [q] at h; exact h.elim
  | some u => exact ⟨u, rfl⟩
theorem Own1.ne_none {b : Addr} (h : Own1 (H b)) : H b ≠ none := fun q => by rw [q] at h; exact h
theorem Own1.notup {b : Addr} (h : Own1 (H b)) (xs : List V) : H b ≠ Option.some (.tup xs) := fun q => by rw [q] at h; exact h
theorem Own1.nofrz {b : Addr} (h : Own1 (H b)) (o : Obj) (u : HO) : H b ≠ Option.some (.frz o u) := fun q => by rw [q] at h; exact h
theorem RepO.ext {o : Ob} {v : V} {f g : Fp} (h : RepO K H o v f) (e : ∀ b, g b ↔ f b) : RepO K H o v g := by
  cases h with
  | d h q => exact .d h fun b z => q b ((e b).mp z)
  | lst h hs q => exact .lst h hs fun b => (e b).trans (q b)
  | dct h hs q => exact .dct h hs fun b => (e b).trans (q b)
  | ins h hs n q => exact .ins h hs n fun b => (e b).trans (q b)
  | exc c h p q => exact .exc c h p fun b z => q b ((e b).mp z)
  | obs h hs n q => exact .obs h hs n fun b => (e b).trans (q b)
  | hol q => exact .hol fun b z => q b ((e b).mp z)
end

/-! ### a list of objects -/
section
variable {K : Frag} {H : Hp}
theorem RepOs.length : ∀ {os : List Ob} {vs : List V} {g : Fp}, RepOs K H os vs g → vs.length = os.length
  | _, _, _, .nil _ => rfl
  | _, _, _, .cons _ hs _ _ => congrArg (· + 1) (RepOs.length hs)
/-- one of them is lent -/
theorem RepOs.take : ∀ {os : List Ob} {vs : List V} {g : Fp} {j : Nat} {o : Ob}, RepOs K H os vs g → os[j]? = some o →
    ∃ v f gr, vs[j]? = some v ∧ RepO K H o v f ∧ RepOs K H (os.set j .hol) vs gr ∧ (∀ b, f b → gr b → False) ∧ ∀ b, g b ↔ f b ∨ gr b
  | _, _, _, _, _, .nil _, e => by simp at e
  | _, _, g, 0, o, .cons (f := f) (g := g1) h hs d u, e => by
    simp at e
    subst e
    exact ⟨_, f, g1, rfl, h, .cons (.hol (f := fun _ => False) fun _ z => z) hs (fun _ z => z.elim) fun b => ⟨.inr, fun z => z.elim (fun z => z.elim) id⟩, d, u⟩
  | _, _, g, j + 1, o, .cons (f := f0) (g := g1) h hs d u, e => by
    obtain ⟨v, f, gr, q1, q2, q3, q4, q5⟩ := RepOs.take (j := j) hs (by simpa using e)
    refine ⟨v, f, fun b => f0 b ∨ gr b, by simpa using q1, q2, .cons h q3 (fun b z1 z2 => d b z1 ((q5 b).mpr (.inr z2))) fun _ => Iff.rfl, fun b z1 z2 => ?_, fun b => ?_⟩
    · rcases z2 with z | z
      · exact d b z ((q5 b).mpr (.inl z1))
      · exact q4 b z1 z
    · rw [u b, q5 b]
      constructor
      · rintro (z | z | z)
        · exact .inr (.inl z)
        · exact .inl z
        · exact .inr (.inr z)
      · rintro (z | z | z)
        · exact .inr (.inl z)
        · exact .inl z
        · exact .inr (.inr z)
/-- one of them is put in another one's place -/
theorem RepOs.put : ∀ {os : List Ob} {vs : List V} {g f : Fp} {j : Nat} {o : Ob} {v : V}, RepOs K H os vs g → vs[j]? = some v → RepO K H o v f → (∀ b, f b → g b → False) →
    ∃ g', RepOs K H (os.set j o) vs g' ∧ ∀ b, g' b → f b ∨ g b
  | _, _, _, _, _, _, _, .nil _, e, _, _ => by simp at e
  | _, _, g, f, 0, o, v, .cons (f := f0) (g := g1) h hs d u, e, ho, dj => by
    simp at e
    subst e
    exact ⟨fun b => f b ∨ g1 b, .cons ho hs (fun b z1 z2 => dj b z1 ((u b).mpr (.inr z2))) fun _ => Iff.rfl, fun b z => z.imp id fun z => (u b).mpr (.inr z)⟩
  | _, _, g, f, j + 1, o, v, .cons (f := f0) (g := g1) h hs d u, e, ho, dj => by
    obtain ⟨g', q1, q2⟩ := RepOs.put (j := j) hs (by simpa using e) ho fun b z1 z2 => dj b z1 ((u b).mpr (.inr z2))
    refine ⟨fun b => f0 b ∨ g' b, .cons h q1 (fun b z1 z2 => ?_) fun _ => Iff.rfl, fun b z => ?_⟩
    · rcases q2 b z2 with z | z
      · exact dj b z ((u b).mpr (.inl z1))
      · exact d b z1 z
    · rcases z with z | z
      · exact .inr ((u b).mpr (.inl z))
      · exact (q2 b z).imp id fun z => (u b).mpr (.inr z)
theorem RepOs.snoc : ∀ {os : List Ob} {vs : List V} {g f : Fp} {o : Ob} {v : V}, RepOs K H os vs g → RepO K H o v f → (∀ b, f b → g b → False) → ∃ g', RepOs K H (os ++ [o]) (vs ++ [v]) g' ∧ ∀ b, g' b ↔ f b ∨ g b
  | _, _, g, f, o, v, .nil n, ho, dj => ⟨f, .cons ho (.nil (g := fun _ => False) fun _ z => z) (fun _ _ z => z) fun b => ⟨.inl, fun z => z.elim id fun z => z.elim⟩, fun b => ⟨.inl, fun z => z.elim id fun z => (n b z).elim⟩⟩
  | _, _, g, f, o, v, .cons (f := f0) (g := g1) h hs d u, ho, dj => by
    obtain ⟨g', q1, q2⟩ := RepOs.snoc hs ho fun b z1 z2 => dj b z1 ((u b).mpr (.inr z2))
    refine ⟨fun b => f0 b ∨ g' b, .cons h q1 (fun b z1 z2 => ?_) fun _ => Iff.rfl, fun b => ?_⟩
    · rcases (q2 b).mp z2 with z | z
      · exact dj b z ((u b).mpr (.inl z1))
      · exact d b z1 z
    · show (f0 b ∨ g' b) ↔ _
      rw [q2 b, u b]
      constructor
      · rintro (z | z | z)
        · exact .inr (.inl z)
        · exact .inl z
        · exact .inr (.inr z)
      · rintro (z | z | z)
        · exact .inr (.inl z)
        · exact .inl z
        · exact .inr (.inr z)
end

/-! ### the slots -/
abbrev Env := List (Option Ob)
/-- the slots hold what the environment says, each owned thing once -/
structure Rel (K : Frag) (H : Hp) (σ : St) (Γ : Env) (fp : Nat → Fp) : Prop where
  len : σ.length = Γ.length
  rep : ∀ i o, Γ[i]? = some (some o) → ∃ v, σ[i]? = some (some v) ∧ RepO K H o v (fp i)
  dis : ∀ i j b, fp i b → fp j b → i = j
  emp : ∀ i b, fp i b → ∃ o, Γ[i]? = some (some o)
def U (fp : Nat → Fp) : Fp := fun b => ∃ i, fp i b
/-- how the heap may change where F is owned ahead and F' behind -/
structure Step (F F' : Fp) (H H' : Hp) : Prop where
  im : Im H H'
  keep : ∀ b o, H b = some o → ¬ F b → H' b = some o
  fresh : ∀ b, F' b → F b ∨ H b = none
theorem Step.refl (F : Fp) (H : Hp) : Step F F H H := ⟨Im.refl H, fun _ _ h _ => h, fun _ h => .inl h⟩
theorem Step.trans {F F1 F2 : Fp} {H H1 H2 : Hp} (a : Step F F1 H H1) (b : Step F1 F2 H1 H2) : Step F F2 H H2 := by
  refine ⟨a.im.trans b.im, fun c o h n => b.keep c o (a.keep c o h n) fun z => ?_, fun c h => ?_⟩
  · rcases a.fresh c z with q | q
    · exact n q
    · rw [q] at h; cases h
  · rcases b.fresh c h with q | q
    · exact a.fresh c q
    · by_cases n : F c
      · exact .inl n
      · refine .inr ?_
        cases e : H c with
        | none => rfl
        | some o => rw [a.keep c o e n] at q; cases q
theorem Step.sub {F F1 F2 : Fp} {H H' : Hp} (a : Step F F1 H H') (h : ∀ b, F2 b → F1 b) : Step F F2 H H' := ⟨a.im, a.keep, fun b q => a.fresh b (h b q)⟩
/-- a part of what is owned is left alone -/
theorem Step.wide {F F' G : Fp} {H H' : Hp} (a : Step F F' H H') : Step (fun b => G b ∨ F b) (fun b => G b ∨ F' b) H H' :=
  ⟨a.im, fun b o h n => a.keep b o h fun z => n (.inr z), fun b q => q.elim (fun z => .inl (.inl z)) fun z => (a.fresh b z).imp .inr id⟩
theorem Step.ofExt {F : Fp} {H H' : Hp} (e : Ext H H') : Step F F H H' := ⟨e.im, fun b o h _ => e b o h, fun _ h => .inl h⟩
section
variable {K : Frag} {H H' : Hp} {σ : St} {Γ : Env} {fp : Nat → Fp}
theorem Rel.own (R : Rel K H σ Γ fp) : ∀ b, U fp b → Own1 (H b) := fun b ⟨i, q⟩ => by
  obtain ⟨o, e⟩ := R.emp i b q
  obtain ⟨v, _, r⟩ := R.rep i o e
  exact r.own b q
theorem Rel.frame (R : Rel K H σ Γ fp) (m : Im H H') (k : ∀ b u, U fp b → H b = some u → H' b = some u) : Rel K H' σ Γ fp :=
  ⟨R.len, fun i o e => let ⟨v, h, r⟩ := R.rep i o e; ⟨v, h, r.frame m fun b u q => k b u ⟨i, q⟩⟩, R.dis, R.emp⟩
theorem Rel.ext (R : Rel K H σ Γ fp) (e : Ext H H') : Rel K H' σ Γ fp := R.frame e.im fun b u _ h => e b u h
/-- a slot is emptied: what it held is one's own now -/
theorem Rel.take (R : Rel K H σ Γ fp) {i : Nat} {o : Ob} (e : Γ[i]? = some (some o)) :
    ∃ v, σ[i]? = some (some v) ∧ RepO K H o v (fp i) ∧ Rel K H σ (Γ.set i none) (fun j b => j ≠ i ∧ fp j b) ∧ (∀ b, fp i b → ¬ U (fun j b => j ≠ i ∧ fp j b) b) ∧ ∀ b, U fp b ↔ fp i b ∨ U (fun j b => j ≠ i ∧ fp j b) b := by
  obtain ⟨v, h, r⟩ := R.rep i o e
  refine ⟨v, h, r, ⟨by rw [List.length_set]; exact R.len, fun j o' e' => ?_, fun j k b q1 q2 => R.dis j k b q1.2 q2.2, fun j b q => ?_⟩, fun b q ⟨j, n, q'⟩ => n (R.dis j i b q' q), fun b => ⟨fun ⟨j, q⟩ => ?_, fun q => ?_⟩⟩
  · by_cases hj : j = i
    · subst hj
      have hl : j < Γ.length := (List.getElem?_eq_some_iff.mp e).1
      rw [List.getElem?_set_self hl] at e'
      cases e'
    · rw [List.getElem?_set_ne (Ne.symm hj)] at e'
      obtain ⟨w, h', r'⟩ := R.rep j o' e'
      exact ⟨w, h', r'.ext fun b => ⟨fun z => z.2, fun z => ⟨hj, z⟩⟩⟩
  · obtain ⟨o', e'⟩ := R.emp j b q.2
    exact ⟨o', by rw [List.getElem?_set_ne (Ne.symm q.1)]; exact e'⟩
  · by_cases hj : j = i
    · subst hj; exact .inl q
    · exact .inr ⟨j, hj, q⟩
  · rcases q with q | ⟨j, _, q⟩
    · exact ⟨i, q⟩
    · exact ⟨j, q⟩
/-- a slot is filled: σ' holds v there, and as σ elsewhere -/
theorem Rel.put (R : Rel K H σ Γ fp) {σ' : St} {i : Nat} {o : Ob} {v : V} {f : Fp} (hl : σ'.length = σ.length) (hi : σ'[i]? = some (some v)) (hs : ∀ j, j ≠ i → σ'[j]? = σ[j]?) (r : RepO K H o v f) (hd : ∀ b, f b → U fp b → False) :
    Rel K H σ' (Γ.set i (some o)) (fun j b => (j = i ∧ f b) ∨ (j ≠ i ∧ fp j b)) ∧ ∀ b, U (fun j b => (j = i ∧ f b) ∨ (j ≠ i ∧ fp j b)) b → f b ∨ U fp b := by
  have hiΓ : i < Γ.length := by
    have := (List.getElem?_eq_some_iff.mp hi).1
    rw [hl, R.len] at this
    exact this
  refine ⟨⟨by rw [List.length_set, hl]; exact R.len, fun j o' e' => ?_, fun j k b q1 q2 => ?_, fun j b q => ?_⟩, fun b ⟨j, q⟩ => ?_⟩
  · by_cases hj : j = i
    · subst hj
      rw [List.getElem?_set_self hiΓ] at e'
      cases e'
      exact ⟨v, hi, r.ext fun b => ⟨fun z => z.elim (fun z => z.2) fun z => absurd rfl z.1, fun z => .inl ⟨rfl, z⟩⟩⟩
    · rw [List.getElem?_set_ne (Ne.symm hj)] at e'
      obtain ⟨w, h', r'⟩ := R.rep j o' e'
      exact ⟨w, (hs j hj).trans h', r'.ext fun b => ⟨fun z => z.elim (fun z => absurd z.1 hj) fun z => z.2, fun z => .inr ⟨hj, z⟩⟩⟩
  · rcases q1 with ⟨e1, q1⟩ | ⟨n1, q1⟩ <;> rcases q2 with ⟨e2, q2⟩ | ⟨n2, q2⟩
    · exact e1.trans e2.symm
    · exact (hd b q1 ⟨k, q2⟩).elim
    · exact (hd b q2 ⟨j, q1⟩).elim
    · exact R.dis j k b q1 q2
  · rcases q with ⟨e1, q⟩ | ⟨n1, q⟩
    · subst e1; exact ⟨o, List.getElem?_set_self hiΓ⟩
    · obtain ⟨o', e'⟩ := R.emp j b q
      exact ⟨o', by rw [List.getElem?_set_ne (Ne.symm n1)]; exact e'⟩
  · rcases q with ⟨_, q⟩ | ⟨_, q⟩
    · exact .inl q
    · exact .inr ⟨j, q⟩
/-- a slot forgotten (whatever σ' holds there) -/
theorem Rel.drop (R : Rel K H σ Γ fp) {σ' : St} {i : Nat} (hl : σ'.length = σ.length) (hs : ∀ j, j ≠ i → σ'[j]? = σ[j]?) : Rel K H σ' (Γ.set i none) (fun j b => j ≠ i ∧ fp j b) ∧ ∀ b, U (fun j b => j ≠ i ∧ fp j b) b → U fp b := by
  refine ⟨⟨by rw [List.length_set, hl]; exact R.len, fun j o' e' => ?_, fun j k b q1 q2 => R.dis j k b q1.2 q2.2, fun j b q => ?_⟩, fun b ⟨j, _, q⟩ => ⟨j, q⟩⟩
  · by_cases hj : j = i
    · subst hj
      by_cases hl2 : j < Γ.length
      · rw [List.getElem?_set_self hl2] at e'; cases e'
      · rw [List.getElem?_eq_none (by rw [List.length_set]; omega)] at e'; cases e'
    · rw [List.getElem?_set_ne (Ne.symm hj)] at e'
      obtain ⟨w, h', r'⟩ := R.rep j o' e'
      exact ⟨w, (hs j hj).trans h', r'.ext fun b => ⟨fun z => z.2, fun z => ⟨hj, z⟩⟩⟩
  · obtain ⟨o', e'⟩ := R.emp j b q.2
    exact ⟨o', by rw [List.getElem?_set_ne (Ne.symm q.1)]; exact e'⟩
end

/-! ### mirrors -/
inductive Res (α S : Type) where
  | ok (a : α) (s : S) | ex (x : Ex) (s : S) | bad
def Res.bind {α β S : Type} (r : Res α S) (f : α → S → Res β S) : Res β S := match r with
  | .ok a s => f a s
  | .ex x s => .ex x s
  | .bad => .bad
abbrev G (α : Type) := Env → Res α Env
def Post {α S : Type} (r : Res α S) (A : α → S → Prop) (B : Ex → S → Prop) : Prop := match r with
  | .ok a s => A a s
  | .ex x s => B x s
  | .bad => False
theorem Post.imp {α S : Type} {r : Res α S} {A A' : α → S → Prop} {B B' : Ex → S → Prop} (h : Post r A B) (ha : ∀ a s, A a s → A' a s) (hb : ∀ x s, B x s → B' x s) : Post r A' B' := by
  cases r with
  | ok a s => exact ha a s h
  | ex x s => exact hb x s h
  | bad => exact h
theorem Post.bind {α β S : Type} {r : Res α S} {f : α → S → Res β S} {A : β → S → Prop} {B : Ex → S → Prop} (h : Post (r.bind f) A B) : Post r (fun a s => Post (f a s) A B) B := by
  cases r with
  | ok a s => exact h
  | ex x s => exact h
  | bad => exact h
class ToOb (α : Type) where
  ob : α → Ob
instance : ToOb D := ⟨.d⟩
instance : ToOb (List D) := ⟨.lst⟩
instance : ToOb Ob := ⟨id⟩
/-- how an exception lies: its class in the module, what it holds -/
def ExR (K : Frag) (mg : Str → Option Value) (x : Ex) (cls : Value) (d : Option Addr) (H : Hp) : Prop := (∃ C, cls = .ref C ∧ NmC K x.cls C) ∧ PayR H x.pay d
/-- the context of a judgement: the written part, the names, what is wanted of an exception -/
structure Jc where
  K : Frag
  mg : Str → Option Value
  W : WX
section
variable (J : Jc)
inductive Fl where
  | nx | bk | ct | rt (o : Ob)
/-- the slots of the mask stand as they are -/
def Kp (m : List Bool) (σ σ' : St) : Prop := ∀ i : Nat, m[i]? = some true → σ'[i]? = σ[i]?
theorem Kp.refl (m : List Bool) (σ : St) : Kp m σ σ := fun _ _ => rfl
theorem Kp.trans {m : List Bool} {σ σ1 σ2 : St} (a : Kp m σ σ1) (b : Kp m σ1 σ2) : Kp m σ σ2 := fun i h => (b i h).trans (a i h)
def FlP (J : Jc) (m : List Bool) (σ : St) (F : Fp) (H : Hp) (D : Ends) (fl : Fl) (Γ' : Env) : Prop := ∀ σ' H' fp', Rel J.K H' σ' Γ' fp' → Kp m σ σ' → match fl with
  | .nx => Step F (U fp') H H' → D.nx σ' H'
  | .bk => Step F (U fp') H H' → D.bk σ' H'
  | .ct => Step F (U fp') H H' → D.ct σ' H'
  | .rt o => ∀ v f, RepO J.K H' o v f → (∀ b, f b → U fp' b → False) → Step F (fun b => f b ∨ U fp' b) H H' → D.rt v H'
def XxP (J : Jc) (m : List Bool) (σ : St) (F : Fp) (H : Hp) (x : Ex) (Γ' : Env) : Prop :=
  ∀ cls d σ' H' fp', Rel J.K H' σ' Γ' fp' → Kp m σ σ' → ExR J.K J.mg x cls d H' → Step F (U fp') H H' → J.W cls d σ' H'
def SS (m : List Bool) (ts : TS) (g : G Fl) : Prop := ∀ σ H Γ fp, Rel J.K H σ Γ fp → ∀ D : Ends,
  Post (g Γ) (FlP J m σ (U fp) H D) (XxP J m σ (U fp) H) → ts D σ H
end
end Gm

/-! Gm2: operations on data, and what the layer's rules of them ask. -/
namespace Gm
open PySem PySem.Spec PyProof.Rows L2

/-! ### data as the library's data -/
mutual
def toPy : D → PyData
  | .non => .none | .bl b => .bool b | .int i => .int i | .str s => .str s | .tup xs => .tuple (toPys xs) | .fl xs => .list (toPys xs) | .fd => .dict []
def toPys : List D → List PyData
  | [] => []
  | x :: xs => toPy x :: toPys xs
end
section
variable {K : Frag} {H : Hp}
mutual
theorem At.dp : ∀ {v : V} {x : D}, At K H v x → (toPy x).canLay0 = true → Dp K H v (toPy x)
  | _, _, .non, _ => .non
  | _, _, .bl b, _ => .bl b
  | _, _, .int i, _ => .int i
  | _, _, .str s, _ => .str s
  | _, _, .tup h hs, c => .tup h (Ats.dp hs (by simpa [toPy, PyData.canLay0] using c))
  | _, _, .fl h hs, c =>   .lst h.sq (Ats.dp hs (by simpa [toPy, PyData.canLay0] using c))
  | _, _, .fd _, c => by simp [toPy, PyData.canLay0] at c
theorem Ats.dp : ∀ {vs : List V} {xs : List D}, Ats K H vs xs → PyData.canLayAll0 (toPys xs) = true → DpAll K H vs (toPys xs)
  | _, _, .nil, _ => .nil
  | _, _, .cons h hs, c => by
    have c' := c
    simp only [toPys, PyData.canLayAll0, Bool.and_eq_true] at c'
    exact .cons (At.dp h c'.1) (Ats.dp hs c'.2)
end
end
/-- what == may be asked of: no dict, not too deep -/
def eqOk (x : D) : Bool := (toPy x).canLay0 && decide ((toPy x).depth ≤ 200)
def eqD (x y : D) : Bool := PyData.eqv (toPy x) (toPy y)
def oEq : D → D → Option D
  | .int a, .int b => some (.bl (decide (a = b)))
  | .str a, .str b => some (.bl (decide (a = b)))
  | .fl xs, .fl [] => some (.bl xs.isEmpty)
  | .tup xs, .tup [] => some (.bl xs.isEmpty)
  | x, y => if eqOk x && eqOk y then some (.bl (eqD x y)) else none
def oNe : D → D → Option D
  | .int a, .int b => some (.bl (!decide (a = b)))
  | .str a, .str b => some (.bl (!decide (a = b)))
  | .fl xs, .fl [] => some (.bl (!xs.isEmpty))
  | .tup xs, .tup [] => some (.bl (!xs.isEmpty))
  | x, y => if eqOk x && eqOk y then some (.bl (!eqD x y)) else none
def rEqG (K : Frag) : R2 := fun x y H Q => ∃ d e, Dp K H x d ∧ Dp K H y e ∧ d.canLay0 = true ∧ e.canLay0 = true ∧ d.depth ≤ 200 ∧ Q (.bl (PyData.eqv d e)) H
def rNeG (K : Frag) : R2 := fun x y H Q => ∃ d e, Dp K H x d ∧ Dp K H y e ∧ d.canLay0 = true ∧ e.canLay0 = true ∧ d.depth ≤ 200 ∧ Q (.bl (!PyData.eqv d e)) H
section
variable {X : Cx}
theorem op_eqG (hu : X.A.units + 200 < cLine) : OpR X (compareOp .Eq) (rEqG X.K) := by
  intro pins s σ H x y v u Q I rx ry h
  obtain ⟨d, e, hd, he, sd, se, dp, q⟩ := h
  obtain ⟨as, r1⟩ := Dp.reads I d x v hd rx
  obtain ⟨bs, r2⟩ := Dp.reads I e y u he ry
  exact SeqAt.compareEq_reads r1 r2 sd se (by have := Nat.min_le_left d.depth e.depth; omega) ⟨.bl _, H, I, rfl, q⟩
theorem op_neG (hu : X.A.units + 200 < cLine) : OpR X (compareOp .NotEq) (rNeG X.K) := by
  intro pins s σ H x y v u Q I rx ry h
  obtain ⟨d, e, hd, he, sd, se, dp, q⟩ := h
  obtain ⟨as, r1⟩ := Dp.reads I d x v hd rx
  obtain ⟨bs, r2⟩ := Dp.reads I e y u he ry
  exact SeqAt.compareNe_reads r1 r2 sd se (by have := Nat.min_le_left d.depth e.depth; omega) ⟨.bl _, H, I, rfl, q⟩
end
/-! ### a list or a tuple beside an empty one -/
def NilR (K : Frag) (H : Hp) (x y : V) (xs : List V) : Prop := ∃ a b, x = .ref a ∧ y = .ref b ∧ (SqL K H a xs ∧ SqL K H b [] ∨ SqT K H a xs ∧ SqT K H b [])
def rEqE (K : Frag) : R2 := fun x y H Q => ∃ xs, NilR K H x y xs ∧ Q (.bl xs.isEmpty) H
def rNeE (K : Frag) : R2 := fun x y H Q => ∃ xs, NilR K H x y xs ∧ Q (.bl (!xs.isEmpty)) H
theorem vals_nil {its : List Value} (h : Vals [] its) : its.toArray.size = 0 := by
  cases h
  rfl
theorem vals_cons {v : V} {vs : List V} {its : List Value} (h : Vals (v :: vs) its) : its.toArray.size ≠ 0 := fun q => by
  cases h
  simp at q
section
variable {X : Cx}
theorem op_eqE (hu : X.A.units + 200 < cLine) : OpR X (compareOp .Eq) (rEqE X.K) := by
  intro pins s σ H x y v u Q I rx ry h
  obtain ⟨xs, ⟨a, b, rfl, rfl, hs⟩, q⟩ := h
  cases rx
  cases ry
  have hu : X.A.units < cLine := by omega
  rcases hs with ⟨h1, h2⟩ | ⟨h1, h2⟩
  · obtain ⟨its, v1, ⟨o, n, ho, hc, _, hd⟩, _⟩ := I.list h1
    obtain ⟨its2, v2, ⟨o2, n2, ho2, hc2, _, hd2⟩, _⟩ := I.list h2
    have z2 := vals_nil v2
    cases xs with
    | nil =>
      have z1 := vals_nil v1
      refine SeqAt.eq_listAt (e := fun _ => true) ⟨o, ho, hc, n, hd⟩ ⟨o2, ho2, hc2, n2, hd2⟩ (by omega) hu (fun j j1 _ => by omega) ?_
      rw [show (List.range its.toArray.size).all (fun _ => true) = true by simp]
      exact ⟨.bl true, H, I, rfl, q⟩
    | cons z zs =>
      have z1 := vals_cons v1
      refine SeqAt.eq_list_lengthsAt ⟨o, ho, hc, n, hd⟩ ⟨o2, ho2, hc2, n2, hd2⟩ (by rw [bne_iff_ne]; omega) hu ?_
      exact ⟨.bl false, H, I, rfl, q⟩
  · obtain ⟨its, v1, ⟨o, ho, hc, n, hd⟩, _⟩ := I.tuple h1
    obtain ⟨its2, v2, ⟨o2, ho2, hc2, n2, hd2⟩, _⟩ := I.tuple h2
    have z2 := vals_nil v2
    refine SeqAt.eq_tupleAt (e := fun _ => true) ⟨o, ho, hc, n, hd⟩ ⟨o2, ho2, hc2, n2, hd2⟩ hu (fun j _ j2 => by omega) ?_
    rw [show ((List.range (min its.toArray.size its2.toArray.size)).all (fun _ => true) && its.toArray.size == its2.toArray.size) = xs.isEmpty by
      cases xs with
      | nil => rw [vals_nil v1, z2]; rfl
      | cons z zs => have z1 := vals_cons v1; rw [z2]; simp only [List.isEmpty_cons, Bool.and_eq_false_iff, beq_eq_false_iff_ne]; exact .inr z1]
    exact ⟨.bl xs.isEmpty, H, I, rfl, q⟩
theorem op_neE (hu : X.A.units + 200 < cLine) : OpR X (compareOp .NotEq) (rNeE X.K) := by
  intro pins s σ H x y v u Q I rx ry h
  obtain ⟨xs, ⟨a, b, rfl, rfl, hs⟩, q⟩ := h
  cases rx
  cases ry
  have hu : X.A.units < cLine := by omega
  rcases hs with ⟨h1, h2⟩ | ⟨h1, h2⟩
  · obtain ⟨its, v1, ⟨o, n, ho, hc, _, hd⟩, _⟩ := I.list h1
    obtain ⟨its2, v2, ⟨o2, n2, ho2, hc2, _, hd2⟩, _⟩ := I.list h2
    have z2 := vals_nil v2
    cases xs with
    | nil =>
      have z1 := vals_nil v1
      refine SeqAt.RcNeAt.lists (e := fun _ => true) ⟨o, ho, hc, n, hd⟩ ⟨o2, ho2, hc2, n2, hd2⟩ (by omega) hu (fun j j1 _ => by omega) _ _ _ _ ?_
      rw [show (List.range its.toArray.size).all (fun _ => true) = true by simp]
      exact ⟨.bl false, H, I, rfl, q⟩
    | cons z zs =>
      have z1 := vals_cons v1
      refine SeqAt.RcNeAt.lists_lengths ⟨o, ho, hc, n, hd⟩ ⟨o2, ho2, hc2, n2, hd2⟩ (by rw [bne_iff_ne]; omega) hu _ _ _ _ ?_
      exact ⟨.bl true, H, I, rfl, q⟩
  · obtain ⟨its, v1, ⟨o, ho, hc, n, hd⟩, _⟩ := I.tuple h1
    obtain ⟨its2, v2, ⟨o2, ho2, hc2, n2, hd2⟩, _⟩ := I.tuple h2
    have z2 := vals_nil v2
    refine SeqAt.RcNeAt.tuples (e := fun _ => true) ⟨o, ho, hc, n, hd⟩ ⟨o2, ho2, hc2, n2, hd2⟩ hu (fun j _ j2 => by omega) _ _ _ _ ?_
    rw [show ((List.range (min its.toArray.size its2.toArray.size)).all (fun _ => true) && its.toArray.size == its2.toArray.size) = xs.isEmpty by
      cases xs with
      | nil => rw [vals_nil v1, z2]; rfl
      | cons z zs => have z1 := vals_cons v1; rw [z2]; simp only [List.isEmpty_cons, Bool.and_eq_false_iff, beq_eq_false_iff_ne]; exact .inr z1]
    exact ⟨.bl (!xs.isEmpty), H, I, rfl, q⟩
end
theorem FzL.nilR {K : Frag} {H : Hp} {v w : V} {xs : List D} (hx : At K H v (.fl xs)) (hy : At K H w (.fl [])) : ∃ vs, NilR K H v w vs ∧ vs.isEmpty = xs.isEmpty := by
  cases hx with
  | fl h hs => cases hy with
    | fl h' hs' =>
      cases hs'
      exact ⟨_, ⟨_, _, rfl, rfl, .inl ⟨h.sq, h'.sq⟩⟩, by cases hs <;> rfl⟩
theorem tup_nilR {K : Frag} {H : Hp} {v w : V} {xs : List D} (hx : At K H v (.tup xs)) (hy : At K H w (.tup [])) : ∃ vs, NilR K H v w vs ∧ vs.isEmpty = xs.isEmpty := by
  cases hx with
  | tup h hs => cases hy with
    | tup h' hs' =>
      cases hs'
      exact ⟨_, ⟨_, _, rfl, rfl, .inr ⟨h, h'⟩⟩, by cases hs <;> rfl⟩
theorem Room.u200 {k : Nat} {A : Around} (r : Room k A) : A.units + 200 < cLine := by have := r.un; omega

/-! ### an operation's rule serves an operation on data -/
def OpD (K : Frag) (r : R2) (f : D → D → Option D) : Prop := ∀ (H : Hp) (v w : V) (x y z : D) (Q : VK), At K H v x → At K H w y → f x y = some z → (∀ u H', Ext H H' → At K H' u z → Q u H') → r v w H Q
def rOr (r r' : R2) : R2 := fun x y H Q => r x y H Q ∨ r' x y H Q
theorem opOr {X : Cx} {f : Value → Value → Sem Value} {r r' : R2} (h : OpR X f r) (h' : OpR X f r') : OpR X f (rOr r r') := OpR.or h h'
theorem ixOr {X : Cx} {r r' : R2} (h : IxR X r) (h' : IxR X r') : IxR X (rOr r r') := IxR.or h h'

def rEqA (K : Frag) : R2 := rOr rEq (rOr (rEqG K) (rEqE K))
def rNeA (K : Frag) : R2 := rOr rNe (rOr (rNeG K) (rNeE K))
theorem op_eqA {X : Cx} (hu : X.A.units + 200 < cLine) : OpR X (compareOp .Eq) (rEqA X.K) := opOr op_eq (opOr (op_eqG hu) (op_eqE hu))
theorem op_neA {X : Cx} (hu : X.A.units + 200 < cLine) : OpR X (compareOp .NotEq) (rNeA X.K) := opOr op_ne (opOr (op_neG hu) (op_neE hu))
theorem dec_intV {i j : Int} : decide (V.int i = V.int j) = decide (i = j) := by simp
theorem dec_strV {i j : Str} : decide (V.str i = V.str j) = decide (i = j) := by simp
theorem eqG_of {K : Frag} {H : Hp} {v w : V} {x y : D} (hx : At K H v x) (hy : At K H w y) (h : (eqOk x && eqOk y) = true) {R : VK} (q : R (.bl (eqD x y)) H) : rEqG K v w H R := by
  simp only [Bool.and_eq_true, eqOk, decide_eq_true_eq] at h
  exact ⟨_, _, hx.dp h.1.1, hy.dp h.2.1, h.1.1, h.2.1, h.1.2, q⟩
theorem neG_of {K : Frag} {H : Hp} {v w : V} {x y : D} (hx : At K H v x) (hy : At K H w y) (h : (eqOk x && eqOk y) = true) {R : VK} (q : R (.bl (!eqD x y)) H) : rNeG K v w H R := by
  simp only [Bool.and_eq_true, eqOk, decide_eq_true_eq] at h
  exact ⟨_, _, hx.dp h.1.1, hy.dp h.2.1, h.1.1, h.2.1, h.1.2, q⟩
theorem eqA_D (K : Frag) : OpD K (rEqA K) oEq := by
  intro H v w x y z Q hx hy e k
  unfold oEq at e
  split at e
  · cases hx; cases hy; cases e
    exact .inl ⟨rfl, by rw [dec_intV]; exact k _ H (Ext.refl H) (.bl _)⟩
  · cases hx; cases hy; cases e
    exact .inl ⟨rfl, by rw [dec_strV]; exact k _ H (Ext.refl H) (.bl _)⟩
  · cases e
    obtain ⟨vs, n, b⟩ := FzL.nilR hx hy
    exact .inr (.inr ⟨vs, n, by rw [b]; exact k _ H (Ext.refl H) (.bl _)⟩)
  · cases e
    obtain ⟨vs, n, b⟩ := tup_nilR hx hy
    exact .inr (.inr ⟨vs, n, by rw [b]; exact k _ H (Ext.refl H) (.bl _)⟩)
  · split at e
    · cases e
      exact .inr (.inl (eqG_of hx hy (by assumption) (k _ H (Ext.refl H) (.bl _))))
    · cases e
theorem neA_D (K : Frag) : OpD K (rNeA K) oNe := by
  intro H v w x y z Q hx hy e k
  unfold oNe at e
  split at e
  · cases hx; cases hy; cases e
    exact .inl ⟨rfl, by rw [dec_intV]; exact k _ H (Ext.refl H) (.bl _)⟩
  · cases hx; cases hy; cases e
    exact .inl ⟨rfl, by rw [dec_strV]; exact k _ H (Ext.refl H) (.bl _)⟩
  · cases e
    obtain ⟨vs, n, b⟩ := FzL.nilR hx hy
    exact .inr (.inr ⟨vs, n, by rw [b]; exact k _ H (Ext.refl H) (.bl _)⟩)
  · cases e
    obtain ⟨vs, n, b⟩ := tup_nilR hx hy
    exact .inr (.inr ⟨vs, n, by rw [b]; exact k _ H (Ext.refl H) (.bl _)⟩)
  · split at e
    · cases e
      exact .inr (.inl (neG_of hx hy (by assumption) (k _ H (Ext.refl H) (.bl _))))
    · cases e

/-! ### numbers -/
def oI (C : Int → Int → Bool) (g : Int → Int → D) : D → D → Option D
  | .int a, .int b => if C a b then some (g a b) else none
  | _, _ => none
def oI0 (g : Int → Int → D) : D → D → Option D
  | .int a, .int b => some (g a b)
  | _, _ => none
theorem oI0_D {K : Frag} {gV : Int → Int → V} {g : Int → Int → D} (hg : ∀ H a b, At K H (gV a b) (g a b)) : OpD K (rI0 gV) (oI0 g) := by
  intro H v w x y z Q hx hy e k
  unfold oI0 at e
  split at e
  · cases hx; cases hy; cases e
    exact ⟨_, _, rfl, rfl, k _ H (Ext.refl H) (hg H _ _)⟩
  · cases e
theorem oI_D {K : Frag} {CP : Int → Int → Prop} {C : Int → Int → Bool} {gV : Int → Int → V} {g : Int → Int → D} (hg : ∀ H a b, At K H (gV a b) (g a b)) (hc : ∀ a b, C a b = true → CP a b) : OpD K (rI CP gV) (oI C g) := by
  intro H v w x y z Q hx hy e k
  unfold oI at e
  split at e
  · split at e
    · cases hx; cases hy; cases e
      exact ⟨_, _, rfl, rfl, hc _ _ (by assumption), k _ H (Ext.refl H) (hg H _ _)⟩
    · cases e
  · cases e
def oLt := oI0 fun a b => .bl (decide (a < b))
def oLe := oI0 fun a b => .bl (decide (a ≤ b))
def oGt := oI0 fun a b => .bl (decide (b < a))
def oGe := oI0 fun a b => .bl (decide (b ≤ a))
def oSub := oI0 fun a b => .int (a - b)
@[simp] def cMul (a b : Int) : Bool := decide (-(2 ^ 64) < a ∧ a < 2 ^ 64) || decide (-(2 ^ 64) < b ∧ b < 2 ^ 64)
@[simp] def cDiv (a b : Int) : Bool := decide (0 < b ∧ b < 1073741824)
@[simp] def cMod (a b : Int) : Bool := decide (0 < b)
@[simp] def cPow (a b : Int) : Bool := decide (0 ≤ b ∧ b ≤ 1000000 ∧ a.natAbs < 2 ^ 64)
def oMul := oI cMul fun a b => .int (a * b)
def oDiv := oI cDiv fun a b => .int (a / b)
def oMod := oI cMod fun a b => .int (a % b)
def oPow := oI cPow fun a b => .int (a ^ b.toNat)
section
variable {K : Frag}
theorem lt_D : OpD K (rI0 fun i j => .bl (decide (i < j))) oLt := oI0_D fun _ _ _ => .bl _
theorem le_D : OpD K (rI0 fun i j => .bl (decide (i ≤ j))) oLe := oI0_D fun _ _ _ => .bl _
theorem gt_D : OpD K (rI0 fun i j => .bl (decide (j < i))) oGt := oI0_D fun _ _ _ => .bl _
theorem ge_D : OpD K (rI0 fun i j => .bl (decide (j ≤ i))) oGe := oI0_D fun _ _ _ => .bl _
theorem sub_D : OpD K (rI0 fun i j => .int (i - j)) oSub := oI0_D fun _ _ _ => .int _
theorem mul_D : OpD K (rI CMul fun i j => .int (i * j)) oMul := oI_D (fun _ _ _ => .int _) fun a b h => by
  simpa [cMul, CMul] using h
theorem div_D : OpD K (rI CDiv fun i j => .int (i / j)) oDiv := oI_D (fun _ _ _ => .int _) fun a b h => by
  simpa [cDiv, CDiv] using h
theorem mod_D : OpD K (rI (fun _ j => 0 < j) fun i j => .int (i % j)) oMod := oI_D (fun _ _ _ => .int _) fun a b h => by
  simpa [cMod] using h
theorem pow_D : OpD K (rI CPow fun i j => .int (i ^ j.toNat)) oPow := oI_D (fun _ _ _ => .int _) fun a b h => by
  simpa [cPow, CPow] using h
end
/-! ### + -/
def oAdd : D → D → Option D
  | .int a, .int b => some (.int (a + b))
  | .str a, .str b => if a.length + b.length ≤ sizeLine then some (.str (a ++ b)) else none
  | .tup a, .tup b => if a.length + b.length ≤ sizeLine then some (.tup (a ++ b)) else none
  | _, _ => none
def rAddS : R2 := fun x y H Q => ∃ i j, x = .str i ∧ y = .str j ∧ i.length + j.length ≤ sizeLine ∧ Q (.str (i ++ j)) H
def rAddA (K : Frag) : R2 := rOr (rI0 fun i j => .int (i + j)) (rOr rAddS (rCatA K))
theorem op_addA {X : Cx} : OpR X (binaryOp .Add) (rAddA X.K) := opOr op_add (opOr op_add_str op_catA)
theorem add_D (K : Frag) : OpD K (rAddA K) oAdd := by
  intro H v w x y z Q hx hy e k
  unfold oAdd at e
  split at e
  · cases hx; cases hy; cases e
    exact .inl ⟨_, _, rfl, rfl, k _ H (Ext.refl H) (.int _)⟩
  · split at e
    · cases hx; cases hy; cases e
      exact .inr (.inl ⟨_, _, rfl, rfl, by assumption, k _ H (Ext.refl H) (.str _)⟩)
    · cases e
  · split at e
    · rename_i a b hz
      cases e
      cases hx with
      | tup h1 h2 =>
        cases hy with
        | tup h3 h4 =>
          refine .inr (.inr ⟨_, _, _, _, rfl, rfl, h1, h3, by rw [h2.length, h4.length]; exact hz, fun e => ?_, fun e1 e2 => ?_, fun e1 e2 p hp => ?_⟩)
          · subst e; cases h2
            exact k _ H (Ext.refl H) (.tup h3 h4)
          · subst e2; cases h4
            rw [List.append_nil] at k
            exact k _ H (Ext.refl H) (.tup h1 h2)
          · exact k _ _ (Ext.new hp) (.tup (.inl (.inl upd_same)) ((h2.append h4).mono (Ext.new hp).im))
    · cases e
  · cases e

/-! ### in -/
def oInL (x : D) (ys : List D) : Option Bool := if eqOk x && (PyData.canLayAll0 (toPys ys)) then some ((toPys ys).any fun y => PyData.eqv y (toPy x)) else none
def inStr (a b : Str) : Bool := match a.cps.toList with
  | [c] => decide (c ∈ b.cps.toList)
  | _ => !(Builtin.Str.occurrences b a 0 b.length 1).isEmpty
def oIn : D → D → Option D
  | .str a, .str b => some (.bl (inStr a b))
  | x, .tup ys => (oInL x ys).map .bl
  | x, .fl ys => (oInL x ys).map .bl
  | _, _ => none
def oNotIn : D → D → Option D
  | .str a, .str b => some (.bl (!inStr a b))
  | x, .tup ys => (oInL x ys).map fun b => .bl (!b)
  | x, .fl ys => (oInL x ys).map fun b => .bl (!b)
  | _, _ => none
def rInS (neg : Bool) : R2 := fun x y H Q => ∃ i j, x = .str i ∧ y = .str j ∧ Q (.bl (if neg then !inStr i j else inStr i j)) H
def rInQ (K : Frag) (neg : Bool) : R2 := fun x y H Q => ∃ (p : Addr) (vs : List V) (d : PyData) (ds : List PyData), y = .ref p ∧ (SqL K H p vs ∨ SqT K H p vs) ∧ DpAll K H vs ds ∧ Dp K H x d ∧ PyData.canLayAll0 ds = true ∧ d.canLay0 = true ∧ d.depth ≤ 200 ∧
  Q (.bl (if neg then !(ds.any fun y => PyData.eqv y d) else ds.any fun y => PyData.eqv y d)) H
section
variable {X : Cx}
theorem inStr_other {a b : Str} (h : ∀ c, a.cps.toList ≠ [c]) : inStr a b = !(Builtin.Str.occurrences b a 0 b.length 1).isEmpty := by
  unfold inStr
  split
  · rename_i c e; exact absurd e (h c)
  · rfl
theorem inStr_one {c : Nat} {b : Str} : inStr ⟨#[c]⟩ b = decide (c ∈ b.cps.toList) := rfl
theorem op_inS : OpR X (compareOp .In) (rInS false) := by
  intro pins s σ H x y v u Q I rx ry h
  obtain ⟨i, j, e1, e2, q⟩ := h
  by_cases hc : ∃ c, i.cps.toList = [c]
  · obtain ⟨c, hc⟩ := hc
    have e : i = ⟨#[c]⟩ := by
      cases i with
      | mk a => cases a with
        | mk l => have : l = [c] := hc
                  subst this; rfl
    subst e
    exact op_in_sign pins s σ H x y v u Q I rx ry ⟨c, j, e1, e2, q⟩
  · have h' : ∀ c, i.cps.toList ≠ [c] := fun c e => hc ⟨c, e⟩
    refine op_in_str pins s σ H x y v u Q I rx ry ⟨i, j, e1, e2, ?_⟩
    rw [← inStr_other h']
    exact q
theorem op_notInS : OpR X (compareOp .NotIn) (rInS true) := by
  intro pins s σ H x y v u Q I rx ry h
  obtain ⟨i, j, e1, e2, q⟩ := h
  by_cases hc : ∃ c, i.cps.toList = [c]
  · obtain ⟨c, hc⟩ := hc
    have e : i = ⟨#[c]⟩ := by
      cases i with
      | mk a => cases a with
        | mk l => have : l = [c] := hc
                  subst this; rfl
    subst e
    exact op_notIn_sign pins s σ H x y v u Q I rx ry ⟨c, j, e1, e2, q⟩
  · have h' : ∀ c, i.cps.toList ≠ [c] := fun c e => hc ⟨c, e⟩
    refine op_notIn_str pins s σ H x y v u Q I rx ry ⟨i, j, e1, e2, ?_⟩
    rw [← inStr_other h']
    exact q
theorem op_inQ (hu : X.A.units + 201 < cLine) : OpR X (compareOp .In) (rInQ X.K false) := by
  intro pins s σ H x y v u Q I rx ry h
  obtain ⟨p, vs, d, ds, rfl, hs, hds, hd, c1, c2, dp, q⟩ := h
  obtain ⟨bs, r1⟩ := Dp.reads I d x v hd rx
  have hu' : X.A.units + 1 + min (PyData.depthAll ds) d.depth < cLine := by have := Nat.min_le_right (PyData.depthAll ds) d.depth; omega
  rcases hs with hs | hs
  · obtain ⟨as, r2⟩ := Dp.reads I (.list ds) (.ref p) u (.lst hs hds) ry
    exact SeqAt.in_list_reads r2 r1 c1 c2 hu' ⟨.bl _, H, I, rfl, q⟩
  · obtain ⟨as, r2⟩ := Dp.reads I (.tuple ds) (.ref p) u (.tup hs hds) ry
    exact SeqAt.in_tuple_reads r2 r1 c1 c2 hu' ⟨.bl _, H, I, rfl, q⟩
theorem op_notInQ (hu : X.A.units + 201 < cLine) : OpR X (compareOp .NotIn) (rInQ X.K true) := by
  intro pins s σ H x y v u Q I rx ry h
  obtain ⟨p, vs, d, ds, rfl, hs, hds, hd, c1, c2, dp, q⟩ := h
  obtain ⟨bs, r1⟩ := Dp.reads I d x v hd rx
  have hu' : X.A.units + 1 + min (PyData.depthAll ds) d.depth < cLine := by have := Nat.min_le_right (PyData.depthAll ds) d.depth; omega
  rcases hs with hs | hs
  · obtain ⟨as, r2⟩ := Dp.reads I (.list ds) (.ref p) u (.lst hs hds) ry
    exact SeqAt.notIn_list_reads r2 r1 c1 c2 hu' ⟨.bl _, H, I, rfl, q⟩
  · obtain ⟨as, r2⟩ := Dp.reads I (.tuple ds) (.ref p) u (.tup hs hds) ry
    exact SeqAt.notIn_tuple_reads r2 r1 c1 c2 hu' ⟨.bl _, H, I, rfl, q⟩
end
theorem Room.u201 {k : Nat} {A : Around} (r : Room (k + 1) A) : A.units + 201 < cLine := by have := r.un; omega
def rInA (K : Frag) (neg : Bool) : R2 := rOr (rInS neg) (rInQ K neg)
theorem op_inA {X : Cx} (hu : X.A.units + 201 < cLine) : OpR X (compareOp .In) (rInA X.K false) := opOr op_inS (op_inQ hu)
theorem op_notInA {X : Cx} (hu : X.A.units + 201 < cLine) : OpR X (compareOp .NotIn) (rInA X.K true) := opOr op_notInS (op_notInQ hu)
theorem inQ_of {K : Frag} {H : Hp} {v : V} {p : Addr} {vs : List V} {x : D} {ys : List D} {b : Bool} {neg : Bool} (hx : At K H v x) (hs : SqL K H p vs ∨ SqT K H p vs) (hy : Ats K H vs ys) (e : oInL x ys = some b) {Q : VK} (q : Q (.bl (if neg then !b else b)) H) : rInQ K neg v (.ref p) H Q := by
  unfold oInL at e
  split at e
  · rename_i h
    cases e
    simp only [Bool.and_eq_true, eqOk, decide_eq_true_eq] at h
    exact ⟨p, vs, _, _, rfl, hs, hy.dp h.2, hx.dp h.1.1, h.2, h.1.1, h.1.2, q⟩
  · cases e
theorem in_D (K : Frag) : OpD K (rInA K false) oIn := by
  intro H v w x y z Q hx hy e k
  unfold oIn at e
  split at e
  · cases hx; cases hy; cases e
    exact .inl ⟨_, _, rfl, rfl, k _ H (Ext.refl H) (.bl _)⟩
  · cases hy with
    | tup h1 h2 =>
      rw [Option.map_eq_some_iff] at e
      obtain ⟨b, e, rfl⟩ := e
      exact .inr (inQ_of hx (.inr h1) h2 e (k _ H (Ext.refl H) (.bl _)))
  · cases hy with
    | fl h1 h2 =>
      rw [Option.map_eq_some_iff] at e
      obtain ⟨b, e, rfl⟩ := e
      exact .inr (inQ_of hx (.inl h1.sq) h2 e (k _ H (Ext.refl H) (.bl _)))
  · cases e
theorem notIn_D (K : Frag) : OpD K (rInA K true) oNotIn := by
  intro H v w x y z Q hx hy e k
  unfold oNotIn at e
  split at e
  · cases hx; cases hy; cases e
    exact .inl ⟨_, _, rfl, rfl, k _ H (Ext.refl H) (.bl _)⟩
  · cases hy with
    | tup h1 h2 =>
      rw [Option.map_eq_some_iff] at e
      obtain ⟨b, e, rfl⟩ := e
      exact .inr (inQ_of hx (.inr h1) h2 e (k _ H (Ext.refl H) (.bl _)))
  · cases hy with
    | fl h1 h2 =>
      rw [Option.map_eq_some_iff] at e
      obtain ⟨b, e, rfl⟩ := e
      exact .inr (inQ_of hx (.inl h1.sq) h2 e (k _ H (Ext.refl H) (.bl _)))
  · cases e
/-! ### is None -/
def oIsN : D → D → Option D
  | x, .non => some (.bl (match x with | .non => true | _ => false))
  | _, _ => none
def oNotN : D → D → Option D
  | x, .non => some (.bl (match x with | .non => false | _ => true))
  | _, _ => none
theorem isN_D (K : Frag) : OpD K (fun x y H Q => y = .non ∧ Q (.bl (decide (x = .non))) H) oIsN := by
  intro H v w x y z Q hx hy e k
  cases hy with
  | non =>
    simp only [oIsN] at e
    cases e
    refine ⟨rfl, k _ H (Ext.refl H) ?_⟩
    cases hx <;> exact .bl _
  | _ => simp [oIsN] at e
theorem notN_D (K : Frag) : OpD K (fun x y H Q => y = .non ∧ Q (.bl (!decide (x = .non))) H) oNotN := by
  intro H v w x y z Q hx hy e k
  cases hy with
  | non =>
    simp only [oNotN] at e
    cases e
    refine ⟨rfl, k _ H (Ext.refl H) ?_⟩
    cases hx <;> exact .bl _
  | _ => simp [oNotN] at e

/-! ### subscripts -/
def oIx : D → D → Option D
  | .tup xs, .int i => atI xs i
  | .fl xs, .int i => atI xs i
  | .str z, .int i => if z.length ≤ sizeLine then (atI z.cps.toList i).map fun c => .str ⟨#[c]⟩ else none
  | _, _ => none
theorem Ats.atI {K : Frag} {H : Hp} {vs : List V} {xs : List D} {i : Int} {x : D} (h : Ats K H vs xs) (e : L2.atI xs i = some x) : ∃ v, L2.atI vs i = some v ∧ At K H v x := by
  unfold L2.atI at e ⊢
  rw [h.length]
  cases q : ixN xs.length i with
  | none => rw [q] at e; cases e
  | some j =>
    rw [q] at e
    exact h.get (show xs[j]? = some x from e)
theorem ix_D (K : Frag) : OpD K (rIx K) oIx := by
  intro H v w x y z Q hx hy e k
  unfold oIx at e
  split at e
  · cases hx with
    | tup h1 h2 =>
      cases hy
      obtain ⟨u, q1, q2⟩ := h2.atI e
      exact .inr (.inl ⟨_, _, _, u, rfl, rfl, h1, q1, k _ H (Ext.refl H) q2⟩)
  · cases hx with
    | fl h1 h2 =>
      cases hy
      obtain ⟨u, q1, q2⟩ := h2.atI e
      exact .inl ⟨_, _, _, u, rfl, rfl, h1.sq, q1, k _ H (Ext.refl H) q2⟩
  · cases hx
    cases hy
    split at e
    · rw [Option.map_eq_some_iff] at e
      obtain ⟨c, e, rfl⟩ := e
      exact .inr (.inr ⟨_, _, c, rfl, rfl, by assumption, e, k _ H (Ext.refl H) (.str _)⟩)
    · cases e
  · cases e
/-! ### slices -/
def cutD (xs : List D) (lo hi : Option Int) : List D := (xs.drop (HT.sIx xs.length 0 lo)).take (HT.sIx xs.length xs.length hi - HT.sIx xs.length 0 lo)
def oSl : D → Option Int → Option Int → Option D
  | .tup xs, lo, hi => some (.tup (cutD xs lo hi))
  | .str z, lo, hi => if z.length ≤ sizeLine then some (.str (cutS z lo hi)) else none
  | _, _, _ => none
theorem Ats.cut {K : Frag} {H : Hp} {vs : List V} {xs : List D} (h : Ats K H vs xs) (lo hi : Option Int) : Ats K H (cutV vs lo hi) (cutD xs lo hi) := by
  unfold cutV cutD
  rw [h.length]
  exact (h.drop _).take _
theorem cutD_whole {xs : List D} {lo hi : Option Int} (h : HT.sIx xs.length 0 lo = 0 ∧ HT.sIx xs.length xs.length hi = xs.length) : cutD xs lo hi = xs := by
  unfold cutD
  rw [h.1, h.2]
  simp
abbrev R3 := V → Option Int → Option Int → Hp → VK → Prop
def rSlD (K : Frag) : R3 := fun x lo hi H Q => rSlA K x lo hi H Q ∨ rSlS x lo hi H Q
theorem sl_D {X : Cx} : SlR X (rSlD X.K) := SlR.or sl_tupA sl_str
def SlD (K : Frag) (r : R3) (f : D → Option Int → Option Int → Option D) : Prop := ∀ (H : Hp) (v : V) (x z : D) (lo hi : Option Int) (Q : VK), At K H v x → f x lo hi = some z → (∀ u H', Ext H H' → At K H' u z → Q u H') → r v lo hi H Q
theorem slice_D (K : Frag) : SlD K (rSlD K) oSl := by
  intro H v x z lo hi Q hx e k
  unfold oSl at e
  split at e
  · cases hx with
    | tup h1 h2 =>
      cases e
      refine .inl ⟨_, _, rfl, h1, fun q => ?_, fun _ p hp => ?_⟩
      · rw [h2.length] at q
        refine k _ H (Ext.refl H) ?_
        rw [cutD_whole q]
        exact .tup h1 h2
      · exact k _ _ (Ext.new hp) (.tup (.inl (.inl upd_same)) ((h2.cut lo hi).mono (Ext.new hp).im))
  · cases hx
    split at e
    · cases e
      exact .inr ⟨_, rfl, by assumption, k _ H (Ext.refl H) (.str _)⟩
    · cases e
  · cases e
/-! ### calls of built-in things with one or two data -/
abbrev RC := List V → Hp → VK → Prop
def CalD (K : Frag) (r : RC) (f : List D → Option D) : Prop := ∀ (H : Hp) (vs : List V) (xs : List D) (z : D) (Q : VK), Ats K H vs xs → f xs = some z → (∀ u H', Ext H H' → At K H' u z → Q u H') → r vs H Q
def oLen : List D → Option D
  | [.str y] => if y.length ≤ sizeLine then some (.int y.length) else none
  | [.tup xs] => some (.int xs.length)
  | [.fl xs] => some (.int xs.length)
  | _ => none
theorem len_D (K : Frag) : CalD K (fun xs H Q => ∃ x n, xs = [x] ∧ LenV K x H n ∧ Q (.int n) H) oLen := by
  intro H vs xs z Q h e k
  unfold oLen at e
  split at e
  · split at e
    · cases e
      cases h with
      | cons h1 h2 =>
        cases h2; cases h1
        exact ⟨_, _, rfl, ⟨by assumption, rfl⟩, k _ H (Ext.refl H) (.int _)⟩
    · cases e
  · cases e
    cases h with
    | cons h1 h2 =>
      cases h2
      cases h1 with
      | tup h3 h4 => exact ⟨_, _, rfl, .inr ⟨_, h3, rfl⟩, by rw [h4.length]; exact k _ H (Ext.refl H) (.int _)⟩
  · cases e
    cases h with
    | cons h1 h2 =>
      cases h2
      cases h1 with
      | fl h3 h4 => exact ⟨_, _, rfl, .inl ⟨_, h3.sq, rfl⟩, by rw [h4.length]; exact k _ H (Ext.refl H) (.int _)⟩
  · cases e
def oMin2 : List D → Option D
  | [.int i, .int j] => some (.int (if j < i then j else i))
  | _ => none
def oMax2 : List D → Option D
  | [.int i, .int j] => some (.int (if j > i then j else i))
  | _ => none
theorem min2_D (K : Frag) : CalD K (fun xs H Q => ∃ i j, xs = [.int i, .int j] ∧ Q (.int (if j < i then j else i)) H) oMin2 := by
  intro H vs xs z Q h e k
  unfold oMin2 at e
  split at e
  · cases e
    cases h with
    | cons h1 h2 => cases h2 with
      | cons h2 h3 =>
        cases h1; cases h2; cases h3
        exact ⟨_, _, rfl, k _ H (Ext.refl H) (.int _)⟩
  · cases e
theorem max2_D (K : Frag) : CalD K (fun xs H Q => ∃ i j, xs = [.int i, .int j] ∧ Q (.int (if j > i then j else i)) H) oMax2 := by
  intro H vs xs z Q h e k
  unfold oMax2 at e
  split at e
  · cases e
    cases h with
    | cons h1 h2 => cases h2 with
      | cons h2 h3 =>
        cases h1; cases h2; cases h3
        exact ⟨_, _, rfl, k _ H (Ext.refl H) (.int _)⟩
  · cases e
/-- str of a number -/
def oStrI : List D → Option D
  | [.int i] => if i.natAbs.log2 < 1920 then some (.str (toString i)) else none
  | _ => none
theorem strI_D (K : Frag) : CalD K (fun xs H Q => ∃ i, xs = [.int i] ∧ i.natAbs.log2 < 1920 ∧ Q (.str (toString i)) H) oStrI := by
  intro H vs xs z Q h e k
  unfold oStrI at e
  split at e
  · split at e
    · cases e
      cases h with
      | cons h1 h2 =>
        cases h2; cases h1
        exact ⟨_, rfl, by assumption, k _ H (Ext.refl H) (.str _)⟩
    · cases e
  · cases e
/-- isinstance of a built-in class: by the kind's name -/
def tyName : D → String
  | .non => "NoneType" | .bl _ => "bool" | .int _ => "int" | .str _ => "str" | .tup _ => "tuple" | .fl _ => "list" | .fd => "dict"
@[simp] def isI (t : String) (x : D) : Bool := (tyName x == t) || (t == "int" && tyName x == "bool")
theorem kit_all (t : String) (ht : t = "int" ∨ t = "str" ∨ t = "tuple" ∨ t = "list" ∨ t = "bool" ∨ t = "dict") (x : D) : kitB (tyName x) t = some (isI t x) := by
  rcases ht with rfl | rfl | rfl | rfl | rfl | rfl <;> cases x <;> (try simp only [tyName, isI]) <;> decide +kernel
theorem At.ty {K : Frag} {H : Hp} {v : V} {x : D} (h : At K H v x) : TyX K H v (.type (tyName x)) := by
  cases h with
  | non => exact .base .non
  | bl b => exact .base (.bl b)
  | int i => exact .base (.int i)
  | str s => exact .base (.str s)
  | tup h hs =>
    rcases h with (h | ⟨o, h⟩) | ⟨o, its, n, h1, h2, _⟩
    · exact .base (.tup h)
    · exact .fTuple h
    · exact .kTuple h1 h2
  | fl h hs =>
    rcases h with ⟨o, h⟩ | ⟨o, its, n, h1, h2, _⟩
    · exact .base (.frz h)
    · exact .kList h1 h2
  | fd h => exact .fDict h
end Gm

/-! Gm3: readings that follow mirrors: expressions, tests, arguments, lists, slices, calls of built-in things. -/
namespace Gm
open PySem PySem.Spec PyProof.Rows L2

/-- a list operand: data, a slot's own list, a new one -/
inductive Src where
  | dat (x : D) | slot (i : Nat) | own (xs : List D)
def SrcR (K : Frag) (H : Hp) (σ : St) : Src → V → Fp → Prop
  | .dat x, v, f => At K H v x ∧ ∀ b, ¬ f b
  | .slot i, v, f => σ[i]? = some (some v) ∧ ∀ b, ¬ f b
  | .own xs, v, f => RepO K H (.lst xs) v f
/-- the items of an operand -/
def view (Γ : Env) : Src → Option (List D)
  | .dat (.tup xs) => some xs
  | .dat (.fl xs) => some xs
  | .dat _ => none
  | .slot i => match Γ[i]? with
    | some (some (.lst xs)) => some xs
    | _ => none
  | .own xs => some xs
/-- the operand as data to be compared -/
def srcD (Γ : Env) : Src → Option D
  | .dat x => some x
  | .slot i => match Γ[i]? with
    | some (some (.lst xs)) => some (.fl xs)
    | _ => none
  | .own xs => some (.fl xs)

section
variable (J : Jc)
def XxE (σ : St) (F : Fp) (H : Hp) (x : Ex) (Γ' : Env) : Prop := ∀ cls d H' fp', Rel J.K H' σ Γ' fp' → ExR J.K J.mg x cls d H' → Step F (U fp') H H' → J.W cls d σ H'
def OkD (σ : St) (F : Fp) (H : Hp) (Q : VK) (x : D) (Γ' : Env) : Prop := ∀ v H' fp', Rel J.K H' σ Γ' fp' → At J.K H' v x → Step F (U fp') H H' → Q v H'
def OkS (σ : St) (F : Fp) (H : Hp) (Q : VK) (s : Src) (Γ' : Env) : Prop := ∀ v H' fp' f, Rel J.K H' σ Γ' fp' → SrcR J.K H' σ s v f → (∀ b, f b → U fp' b → False) → Step F (fun b => f b ∨ U fp' b) H H' → Q v H'
def OkO (σ : St) (F : Fp) (H : Hp) (Q : VK) (o : Ob) (Γ' : Env) : Prop := ∀ v H' fp' f, Rel J.K H' σ Γ' fp' → RepO J.K H' o v f → (∀ b, f b → U fp' b → False) → Step F (fun b => f b ∨ U fp' b) H H' → Q v H'
def OkT (σ : St) (F : Fp) (H : Hp) (Q : Bool → Hp → Prop) (b : Bool) (Γ' : Env) : Prop := ∀ H' fp', Rel J.K H' σ Γ' fp' → Step F (U fp') H H' → Q b H'
def OkA (σ : St) (F : Fp) (H : Hp) (Q : List V → Hp → Prop) (xs : List D) (Γ' : Env) : Prop := ∀ vs H' fp', Rel J.K H' σ Γ' fp' → Ats J.K H' vs xs → Step F (U fp') H H' → Q vs H'
def OkP (σ : St) (F : Fp) (H : Hp) (Q : Option Int → Hp → Prop) (o : Option Int) (Γ' : Env) : Prop := ∀ H' fp', Rel J.K H' σ Γ' fp' → Step F (U fp') H H' → Q o H'
def ED (te : TE) (g : G D) : Prop := ∀ σ H Γ fp, Rel J.K H σ Γ fp → ∀ Q : VK, Post (g Γ) (OkD J σ (U fp) H Q) (XxE J σ (U fp) H) → te σ H Q
def ES (te : TE) (g : G Src) : Prop := ∀ σ H Γ fp, Rel J.K H σ Γ fp → ∀ Q : VK, Post (g Γ) (OkS J σ (U fp) H Q) (XxE J σ (U fp) H) → te σ H Q
def EO (te : TE) (g : G Ob) : Prop := ∀ σ H Γ fp, Rel J.K H σ Γ fp → ∀ Q : VK, Post (g Γ) (OkO J σ (U fp) H Q) (XxE J σ (U fp) H) → te σ H Q
def ET (tt : TT) (g : G Bool) : Prop := ∀ σ H Γ fp, Rel J.K H σ Γ fp → ∀ Q : Bool → Hp → Prop, Post (g Γ) (OkT J σ (U fp) H Q) (XxE J σ (U fp) H) → tt σ H Q
def EA (ta : TA) (g : G (List D)) : Prop := ∀ σ H Γ fp, Rel J.K H σ Γ fp → ∀ Q : List V → Hp → Prop, Post (g Γ) (OkA J σ (U fp) H Q) (XxE J σ (U fp) H) → ta σ H Q
def EP' (to : TO) (g : G (Option Int)) : Prop := ∀ σ H Γ fp, Rel J.K H σ Γ fp → ∀ Q : Option Int → Hp → Prop, Post (g Γ) (OkP J σ (U fp) H Q) (XxE J σ (U fp) H) → to σ H Q
end

/-! ### mirrors of expressions -/
@[simp] def gC (x : D) (Γ : Env) : Res D Env := .ok x Γ
@[simp] def gVar (i : Nat) (Γ : Env) : Res D Env := match Γ[i]? with
  | some (some (.d x)) => .ok x Γ
  | _ => .bad
@[simp] def gSlot (i : Nat) (Γ : Env) : Res Src Env := match Γ[i]? with
  | some (some (.lst _)) => .ok (.slot i) Γ
  | _ => .bad
@[simp] def gMove (i : Nat) (Γ : Env) : Res Ob Env := match Γ[i]? with
  | some (some o) => .ok o (Γ.set i none)
  | _ => .bad
def ofOpt {α S : Type} (o : Option α) (s : S) : Res α S := match o with
  | some a => .ok a s
  | none => .bad
def g1 (f : D → Option D) (a : G D) (Γ : Env) : Res D Env := (a Γ).bind fun x Γ => ofOpt (f x) Γ
def g2 (f : D → D → Option D) (a b : G D) (Γ : Env) : Res D Env := (a Γ).bind fun x Γ => (b Γ).bind fun y Γ => ofOpt (f x y) Γ
def gDat (a : G D) (Γ : Env) : Res Src Env := (a Γ).bind fun x Γ => .ok (.dat x) Γ
def gOwnS (a : G Ob) (Γ : Env) : Res Src Env := (a Γ).bind fun o Γ => match o with
  | .lst xs => .ok (.own xs) Γ
  | _ => .bad
def gOb (a : G D) (Γ : Env) : Res Ob Env := (a Γ).bind fun x Γ => .ok (.d x) Γ
def gToD (a : G Ob) (Γ : Env) : Res D Env := (a Γ).bind fun o Γ => match o with
  | .d x => .ok x Γ
  | _ => .bad
def gTest (a : G D) (Γ : Env) : Res Bool Env := (a Γ).bind fun x Γ => match x with
  | .bl b => .ok b Γ
  | _ => .bad
def truD : D → Option Bool
  | .non => some false
  | .bl b => some b
  | .int i => some (i != 0)
  | .str s => if s.length ≤ sizeLine then some ((s.length : Int) != 0) else none
  | .tup xs => some (!xs.isEmpty)
  | .fl xs => some (!xs.isEmpty)
  | .fd => none
def gTruth (a : G D) (Γ : Env) : Res Bool Env := (a Γ).bind fun x Γ => ofOpt (truD x) Γ
def gAnd (a b : G Bool) (Γ : Env) : Res Bool Env := (a Γ).bind fun x Γ => if x then b Γ else .ok false Γ
def gOr (a b : G Bool) (Γ : Env) : Res Bool Env := (a Γ).bind fun x Γ => if x then .ok true Γ else b Γ
def gNot (a : G Bool) (Γ : Env) : Res Bool Env := (a Γ).bind fun x Γ => .ok (!x) Γ
def gAndV (a b : G D) (Γ : Env) : Res D Env := (a Γ).bind fun x Γ => match x with
  | .bl true => b Γ
  | .bl false => .ok (.bl false) Γ
  | _ => .bad
def gOrV (a b : G D) (Γ : Env) : Res D Env := (a Γ).bind fun x Γ => match x with
  | .bl true => .ok (.bl true) Γ
  | .bl false => b Γ
  | _ => .bad
def gNotV (a : G D) (Γ : Env) : Res D Env := (a Γ).bind fun x Γ => match x with
  | .bl b => .ok (.bl !b) Γ
  | _ => .bad
def gIfE {α : Type} (t : G Bool) (a b : G α) (Γ : Env) : Res α Env := (t Γ).bind fun c Γ => if c then a Γ else b Γ
def gChain (f f' : D → D → Option D) (a b c : G D) (Γ : Env) : Res D Env := (a Γ).bind fun x Γ => (b Γ).bind fun y Γ => match f x y with
  | some (.bl true) => (c Γ).bind fun z Γ => ofOpt (f' y z) Γ
  | some (.bl false) => .ok (.bl false) Γ
  | _ => .bad
@[simp] def gNilA (Γ : Env) : Res (List D) Env := .ok [] Γ
def gConsA (a : G D) (r : G (List D)) (Γ : Env) : Res (List D) Env := (a Γ).bind fun x Γ => (r Γ).bind fun xs Γ => .ok (x :: xs) Γ
def small (n : Nat) : Bool := decide (n ≤ 100000)
def gTup (a : G (List D)) (Γ : Env) : Res D Env := (a Γ).bind fun xs Γ => if small xs.length then .ok (.tup xs) Γ else .bad
def gLst (a : G (List D)) (Γ : Env) : Res Ob Env := (a Γ).bind fun xs Γ => if small xs.length then .ok (.lst xs) Γ else .bad
def gLstF (a : G (List D)) (Γ : Env) : Res D Env := (a Γ).bind fun xs Γ => if small xs.length then .ok (.fl xs) Γ else .bad
def gCal (f : List D → Option D) (a : G (List D)) (Γ : Env) : Res D Env := (a Γ).bind fun xs Γ => ofOpt (f xs) Γ
@[simp] def gNoP (Γ : Env) : Res (Option Int) Env := .ok none Γ
def gP (a : G D) (Γ : Env) : Res (Option Int) Env := (a Γ).bind fun x Γ => match x with
  | .int i => .ok (some i) Γ
  | _ => .bad
def gSl (f : D → Option Int → Option Int → Option D) (a : G D) (lo hi : G (Option Int)) (Γ : Env) : Res D Env := (a Γ).bind fun x Γ => (lo Γ).bind fun l Γ => (hi Γ).bind fun h Γ => ofOpt (f x l h) Γ
def notTup : Src → Bool
  | .dat (.tup _) => false
  | _ => true
def gSlL (a : G Src) (lo hi : G (Option Int)) (Γ : Env) : Res Ob Env := (a Γ).bind fun s Γ => (lo Γ).bind fun l Γ => (hi Γ).bind fun h Γ => if notTup s then ofOpt ((view Γ s).map fun xs => .lst (cutD xs l h)) Γ else .bad
@[simp] def catL (xs ys : List D) : Option Ob := if xs.length + ys.length ≤ sizeLine then some (.lst (xs ++ ys)) else none
def gCat (a b : G Src) (Γ : Env) : Res Ob Env := (a Γ).bind fun s Γ => (b Γ).bind fun t Γ => if notTup s && notTup t then ofOpt ((view Γ s).bind fun xs => (view Γ t).bind fun ys => catL xs ys) Γ else .bad
def gIxS (a : G Src) (b : G D) (Γ : Env) : Res D Env := (a Γ).bind fun s Γ => (b Γ).bind fun y Γ => match s, y with
  | .dat x, y => ofOpt (oIx x y) Γ
  | s, .int i => ofOpt ((view Γ s).bind fun xs => atI xs i) Γ
  | _, _ => .bad
def gLenS (a : G Src) (Γ : Env) : Res D Env := (a Γ).bind fun s Γ => match s with
  | .dat x => ofOpt (oLen [x]) Γ
  | s => ofOpt ((view Γ s).map fun xs => .int xs.length) Γ
def gListS (a : G Src) (Γ : Env) : Res Ob Env := (a Γ).bind fun s Γ => ofOpt ((view Γ s).map .lst) Γ
def gTupS (a : G Src) (Γ : Env) : Res D Env := (a Γ).bind fun s Γ => ofOpt ((view Γ s).map .tup) Γ
def strsD : List D → Option (List Str)
  | [] => some []
  | .str s :: xs => (strsD xs).map (s :: ·)
  | _ :: _ => none
def blsD : List D → Option (List Bool)
  | [] => some []
  | .bl s :: xs => (blsD xs).map (s :: ·)
  | _ :: _ => none
def intsD : List D → Option (List Int)
  | [] => some []
  | .int s :: xs => (intsD xs).map (s :: ·)
  | _ :: _ => none
def joinD (z : Str) (xs : List D) : Option D := match strsD xs with
  | some ys => if (ys.map (·.length)).sum + ys.length * z.length ≤ 16777216 then some (.str (Txt.join z ys)) else none
  | none => none
def gJoin (a : G D) (b : G Src) (Γ : Env) : Res D Env := (a Γ).bind fun z Γ => match z with
  | .str z => (b Γ).bind fun s Γ => ofOpt ((view Γ s).bind fun xs => joinD z xs) Γ
  | _ => .bad
def gAllS (a : G Src) (Γ : Env) : Res D Env := (a Γ).bind fun s Γ => if notTup s then ofOpt ((view Γ s).bind fun xs => (blsD xs).map fun bs => .bl (bs.all id)) Γ else .bad
def gAnyS (a : G Src) (Γ : Env) : Res D Env := (a Γ).bind fun s Γ => if notTup s then ofOpt ((view Γ s).bind fun xs => (blsD xs).map fun bs => .bl (bs.any id)) Γ else .bad
def gSumS (a : G Src) (Γ : Env) : Res D Env := (a Γ).bind fun s Γ => if notTup s then ofOpt ((view Γ s).bind fun xs => (intsD xs).map fun ns => .int ns.sum) Γ else .bad
def gCmpS (f : D → D → Option D) (a b : G Src) (Γ : Env) : Res D Env := (a Γ).bind fun s Γ => (b Γ).bind fun t Γ => ofOpt ((srcD Γ s).bind fun x => (srcD Γ t).bind fun y => f x y) Γ

/-! ### they are followed -/
section
variable {J : Jc} {σ : St} {H H1 : Hp} {F F1 : Fp} {Q : VK} {Γ : Env}
theorem XxE.from {x : Ex} (h : XxE J σ F H x Γ) (s : Step F F1 H H1) : XxE J σ F1 H1 x Γ := fun c d H' fp' R e t => h c d H' fp' R e (s.trans t)
theorem OkD.from {x : D} (h : OkD J σ F H Q x Γ) (s : Step F F1 H H1) : OkD J σ F1 H1 Q x Γ := fun v H' fp' R a t => h v H' fp' R a (s.trans t)
theorem OkO.from {x : Ob} (h : OkO J σ F H Q x Γ) (s : Step F F1 H H1) : OkO J σ F1 H1 Q x Γ := fun v H' fp' f R a d t => h v H' fp' f R a d (s.trans t)
theorem OkS.from {x : Src} (h : OkS J σ F H Q x Γ) (s : Step F F1 H H1) : OkS J σ F1 H1 Q x Γ := fun v H' fp' f R a d t => h v H' fp' f R a d (s.trans t)
theorem OkT.from {x : Bool} {Q : Bool → Hp → Prop} (h : OkT J σ F H Q x Γ) (s : Step F F1 H H1) : OkT J σ F1 H1 Q x Γ := fun H' fp' R t => h H' fp' R (s.trans t)
theorem OkA.from {x : List D} {Q : List V → Hp → Prop} (h : OkA J σ F H Q x Γ) (s : Step F F1 H H1) : OkA J σ F1 H1 Q x Γ := fun v H' fp' R a t => h v H' fp' R a (s.trans t)
theorem OkP.from {x : Option Int} {Q : Option Int → Hp → Prop} (h : OkP J σ F H Q x Γ) (s : Step F F1 H H1) : OkP J σ F1 H1 Q x Γ := fun H' fp' R t => h H' fp' R (s.trans t)
theorem Post.ofOpt {α S : Type} {o : Option α} {s : S} {A : α → S → Prop} {B : Ex → S → Prop} (h : Post (Gm.ofOpt o s) A B) : ∃ a, o = some a ∧ A a s := by
  cases o with
  | none => exact h.elim
  | some a => exact ⟨a, rfl, h⟩
/-- the first part of something -/
theorem ED.go {te : TE} {α : Type} {g : G D} (h : ED J te g) {fp : Nat → Fp} (R : Rel J.K H σ Γ fp) {k : D → Env → Res α Env} {A : α → Env → Prop} (hp : Post ((g Γ).bind k) A (XxE J σ (U fp) H))
    (ok : ∀ x Γ' v H' fp', Post (k x Γ') A (XxE J σ (U fp') H') → Rel J.K H' σ Γ' fp' → At J.K H' v x → Step (U fp) (U fp') H H' → Q v H') : te σ H Q :=
  h σ H Γ fp R Q ((Post.bind hp).imp (fun x Γ' q v H' fp' R' a s => ok x Γ' v H' fp' (q.imp (fun _ _ z => z) fun _ _ z => z.from s) R' a s) fun _ _ z => z)
theorem ES.go {te : TE} {α : Type} {g : G Src} (h : ES J te g) {fp : Nat → Fp} (R : Rel J.K H σ Γ fp) {k : Src → Env → Res α Env} {A : α → Env → Prop} (hp : Post ((g Γ).bind k) A (XxE J σ (U fp) H))
    (ok : ∀ x Γ' v H' fp' f, Post (k x Γ') A (XxE J σ (U fp') H') → Rel J.K H' σ Γ' fp' → SrcR J.K H' σ x v f → (∀ b, f b → U fp' b → False) → Step (U fp) (fun b => f b ∨ U fp' b) H H' → Q v H') : te σ H Q :=
  h σ H Γ fp R Q ((Post.bind hp).imp (fun x Γ' q v H' fp' f R' a d s => ok x Γ' v H' fp' f (q.imp (fun _ _ z => z) fun _ _ z => z.from (s.sub fun _ => .inr)) R' a d s) fun _ _ z => z)
theorem EO.go {te : TE} {α : Type} {g : G Ob} (h : EO J te g) {fp : Nat → Fp} (R : Rel J.K H σ Γ fp) {k : Ob → Env → Res α Env} {A : α → Env → Prop} (hp : Post ((g Γ).bind k) A (XxE J σ (U fp) H))
    (ok : ∀ x Γ' v H' fp' f, Post (k x Γ') A (XxE J σ (U fp') H') → Rel J.K H' σ Γ' fp' → RepO J.K H' x v f → (∀ b, f b → U fp' b → False) → Step (U fp) (fun b => f b ∨ U fp' b) H H' → Q v H') : te σ H Q :=
  h σ H Γ fp R Q ((Post.bind hp).imp (fun x Γ' q v H' fp' f R' a d s => ok x Γ' v H' fp' f (q.imp (fun _ _ z => z) fun _ _ z => z.from (s.sub fun _ => .inr)) R' a d s) fun _ _ z => z)
theorem ET.go {tt : TT} {α : Type} {g : G Bool} (h : ET J tt g) {fp : Nat → Fp} (R : Rel J.K H σ Γ fp) {k : Bool → Env → Res α Env} {A : α → Env → Prop} {Q : Bool → Hp → Prop} (hp : Post ((g Γ).bind k) A (XxE J σ (U fp) H))
    (ok : ∀ x Γ' H' fp', Post (k x Γ') A (XxE J σ (U fp') H') → Rel J.K H' σ Γ' fp' → Step (U fp) (U fp') H H' → Q x H') : tt σ H Q :=
  h σ H Γ fp R Q ((Post.bind hp).imp (fun x Γ' q H' fp' R' s => ok x Γ' H' fp' (q.imp (fun _ _ z => z) fun _ _ z => z.from s) R' s) fun _ _ z => z)
theorem EA.go {ta : TA} {α : Type} {g : G (List D)} (h : EA J ta g) {fp : Nat → Fp} (R : Rel J.K H σ Γ fp) {k : List D → Env → Res α Env} {A : α → Env → Prop} {Q : List V → Hp → Prop} (hp : Post ((g Γ).bind k) A (XxE J σ (U fp) H))
    (ok : ∀ x Γ' v H' fp', Post (k x Γ') A (XxE J σ (U fp') H') → Rel J.K H' σ Γ' fp' → Ats J.K H' v x → Step (U fp) (U fp') H H' → Q v H') : ta σ H Q :=
  h σ H Γ fp R Q ((Post.bind hp).imp (fun x Γ' q v H' fp' R' a s => ok x Γ' v H' fp' (q.imp (fun _ _ z => z) fun _ _ z => z.from s) R' a s) fun _ _ z => z)
theorem EP'.go {to : TO} {α : Type} {g : G (Option Int)} (h : EP' J to g) {fp : Nat → Fp} (R : Rel J.K H σ Γ fp) {k : Option Int → Env → Res α Env} {A : α → Env → Prop} {Q : Option Int → Hp → Prop} (hp : Post ((g Γ).bind k) A (XxE J σ (U fp) H))
    (ok : ∀ x Γ' H' fp', Post (k x Γ') A (XxE J σ (U fp') H') → Rel J.K H' σ Γ' fp' → Step (U fp) (U fp') H H' → Q x H') : to σ H Q :=
  h σ H Γ fp R Q ((Post.bind hp).imp (fun x Γ' q H' fp' R' s => ok x Γ' H' fp' (q.imp (fun _ _ z => z) fun _ _ z => z.from s) R' s) fun _ _ z => z)
end

section
variable {J : Jc} {ta tb tc te : TE} {ga gb gc : G D}
theorem ed_c {v : V} {x : D} (h : ∀ H, At J.K H v x) : ED J (tC v) (gC x) := fun σ H Γ fp R Q hp => hp v H fp R (h H) (Step.refl _ _)
theorem ed_int {i : Int} : ED J (tC (.int i)) (gC (.int i)) := ed_c fun _ => .int i
theorem ed_str {i : Str} : ED J (tC (.str i)) (gC (.str i)) := ed_c fun _ => .str i
theorem ed_bl {i : Bool} : ED J (tC (.bl i)) (gC (.bl i)) := ed_c fun _ => .bl i
theorem ed_non : ED J (tC .non) (gC .non) := ed_c fun _ => .non
theorem ed_var (i : Nat) : ED J (tVar i) (gVar i) := fun σ H Γ fp R Q hp => by
  unfold gVar at hp
  split at hp
  · rename_i x e
    obtain ⟨v, h1, h2⟩ := R.rep i _ e
    cases h2 with
    | d a n => exact ⟨v, h1, hp v H fp R a (Step.refl _ _)⟩
  · exact hp.elim
theorem es_slot (i : Nat) : ES J (tVar i) (gSlot i) := fun σ H Γ fp R Q hp => by
  unfold gSlot at hp
  split at hp
  · rename_i x e
    obtain ⟨v, h1, h2⟩ := R.rep i _ e
    exact ⟨v, h1, hp v H fp (fun _ => False) R ⟨h1, fun _ z => z⟩ (fun _ z => z.elim) ((Step.refl _ _).sub fun b z => z.elim (fun z => z.elim) id)⟩
  · exact hp.elim
theorem eo_move (i : Nat) : EO J (tVar i) (gMove i) := fun σ H Γ fp R Q hp => by
  unfold gMove at hp
  split at hp
  · rename_i x e
    obtain ⟨v, h1, h2, R2, hd, hu⟩ := R.take e
    exact ⟨v, h1, hp v H _ _ R2 h2 hd ((Step.refl _ _).sub fun b z => (hu b).mpr z)⟩
  · exact hp.elim
theorem ed_op {r : R2} {f : D → D → Option D} (hr : OpD J.K r f) (ha : ED J ta ga) (hb : ED J tb gb) : ED J (tOp r ta tb) (g2 f ga gb) := fun σ H Γ fp R Q hp =>
  ha.go R hp fun x Γ1 v H1 fp1 hp R1 a1 s1 => hb.go R1 hp fun y Γ2 w H2 fp2 hp R2 a2 s2 => by
    obtain ⟨z, e, q⟩ := hp.ofOpt
    exact hr H2 v w x y z Q (a1.mono s2.im) a2 e fun u H' ex az => q u H' fp2 (R2.ext ex) az ((s1.trans s2).trans (Step.ofExt ex))
theorem es_d (ha : ED J ta ga) : ES J ta (gDat ga) := fun σ H Γ fp R Q hp =>
  ha.go R hp fun x Γ1 v H1 fp1 hp R1 a1 s1 => hp v H1 fp1 (fun _ => False) R1 ⟨a1, fun _ z => z⟩ (fun _ z => z.elim) (s1.sub fun b z => z.elim (fun z => z.elim) id)
theorem eo_d (ha : ED J ta ga) : EO J ta (gOb ga) := fun σ H Γ fp R Q hp =>
  ha.go R hp fun x Γ1 v H1 fp1 hp R1 a1 s1 => hp v H1 fp1 (fun _ => False) R1 (.d a1 fun _ z => z) (fun _ z => z.elim) (s1.sub fun b z => z.elim (fun z => z.elim) id)
theorem ed_o {g : G Ob} (ha : EO J ta g) : ED J ta (gToD g) := fun σ H Γ fp R Q hp =>
  ha.go R hp fun x Γ1 v H1 fp1 f hp R1 a1 d1 s1 => by
    cases a1 with
    | d a n => exact hp v H1 fp1 R1 a (s1.sub fun b z => .inr z)
    | lst => exact hp.elim
    | dct => exact hp.elim
    | ins => exact hp.elim
    | exc => exact hp.elim
    | obs => exact hp.elim
    | hol => exact hp.elim
theorem es_o {g : G Ob} (ha : EO J ta g) : ES J ta (gOwnS g) := fun σ H Γ fp R Q hp =>
  ha.go R hp fun x Γ1 v H1 fp1 f hp R1 a1 d1 s1 => by
    cases x with
    | lst xs => exact hp v H1 fp1 f R1 a1 d1 s1
    | d => exact hp.elim
    | dct => exact hp.elim
    | ins => exact hp.elim
    | exc => exact hp.elim
    | obs => exact hp.elim
    | hol => exact hp.elim
theorem et_test (ha : ED J ta ga) : ET J (tTest ta) (gTest ga) := fun σ H Γ fp R Q hp =>
  ha.go R hp fun x Γ1 v H1 fp1 hp R1 a1 s1 => by
    cases a1 <;> first | exact ⟨_, rfl, hp H1 fp1 R1 s1⟩ | exact hp.elim
theorem et_B (ha : ED J ta ga) : ET J (tB ta) (gTest ga) := et_test ha
theorem et_truth (ha : ED J ta ga) : ET J (fun σ H Q => ta σ H fun x H' => ∃ k, TruV J.K x H' k ∧ Q k H') (gTruth ga) := fun σ H Γ fp R Q hp =>
  ha.go R hp fun x Γ1 v H1 fp1 hp R1 a1 s1 => by
    obtain ⟨k, e, q⟩ := hp.ofOpt
    have q := q H1 fp1 R1 s1
    cases a1 with
    | non => cases e; exact ⟨_, rfl, q⟩
    | bl b => cases e; exact ⟨_, rfl, q⟩
    | int i => cases e; exact ⟨_, rfl, q⟩
    | str s =>
      simp only [truD] at e
      split at e
      · cases e; exact ⟨_, ⟨by assumption, rfl⟩, q⟩
      · cases e
    | tup h1 h2 =>
      cases e
      refine ⟨_, .inr (.inl ⟨_, h1, ?_⟩), q⟩
      cases h2 <;> rfl
    | fl h1 h2 =>
      cases e
      refine ⟨_, .inl ⟨_, h1.sq, ?_⟩, q⟩
      cases h2 <;> rfl
    | fd h => cases e
variable {tA tB : TT} {gA gB : G Bool}
theorem et_and (ha : ET J tA gA) (hb : ET J tB gB) : ET J (tAnd tA tB) (gAnd gA gB) := fun σ H Γ fp R Q hp =>
  ha.go R hp fun x Γ1 H1 fp1 hp R1 s1 => by
    cases x with
    | true => exact hb σ H1 Γ1 fp1 R1 Q (hp.imp (fun _ _ z => z.from s1) fun _ _ z => z)
    | false => exact hp H1 fp1 R1 s1
theorem et_or (ha : ET J tA gA) (hb : ET J tB gB) : ET J (tOr tA tB) (gOr gA gB) := fun σ H Γ fp R Q hp =>
  ha.go R hp fun x Γ1 H1 fp1 hp R1 s1 => by
    cases x with
    | true => exact hp H1 fp1 R1 s1
    | false => exact hb σ H1 Γ1 fp1 R1 Q (hp.imp (fun _ _ z => z.from s1) fun _ _ z => z)
theorem et_not (ha : ET J tA gA) : ET J (tNot tA) (gNot gA) := fun σ H Γ fp R Q hp =>
  ha.go R hp fun x Γ1 H1 fp1 hp R1 s1 => hp H1 fp1 R1 s1
theorem ed_andV (ha : ED J ta ga) (hb : ED J tb gb) : ED J (tAndV ta tb) (gAndV ga gb) := fun σ H Γ fp R Q hp =>
  ha.go R hp fun x Γ1 v H1 fp1 hp R1 a1 s1 => by
    cases a1 <;> try exact hp.elim
    rename_i b
    cases b with
    | true => exact ⟨true, rfl, hb σ H1 Γ1 fp1 R1 Q (hp.imp (fun _ _ z => z.from s1) fun _ _ z => z)⟩
    | false => exact ⟨false, rfl, hp _ H1 fp1 R1 (.bl _) s1⟩
theorem ed_orV (ha : ED J ta ga) (hb : ED J tb gb) : ED J (tOrV ta tb) (gOrV ga gb) := fun σ H Γ fp R Q hp =>
  ha.go R hp fun x Γ1 v H1 fp1 hp R1 a1 s1 => by
    cases a1 <;> try exact hp.elim
    rename_i b
    cases b with
    | true => exact ⟨true, rfl, hp _ H1 fp1 R1 (.bl _) s1⟩
    | false => exact ⟨false, rfl, hb σ H1 Γ1 fp1 R1 Q (hp.imp (fun _ _ z => z.from s1) fun _ _ z => z)⟩
theorem ed_notV (ha : ED J ta ga) : ED J (tNotV ta) (gNotV ga) := fun σ H Γ fp R Q hp =>
  ha.go R hp fun x Γ1 v H1 fp1 hp R1 a1 s1 => by
    cases a1 <;> try exact hp.elim
    exact ⟨_, rfl, hp _ H1 fp1 R1 (.bl _) s1⟩
theorem ed_if (ht : ET J tA gA) (ha : ED J ta ga) (hb : ED J tb gb) : ED J (tIf tA ta tb) (gIfE gA ga gb) := fun σ H Γ fp R Q hp =>
  ht.go R hp fun x Γ1 H1 fp1 hp R1 s1 => by
    cases x with
    | true => exact ha σ H1 Γ1 fp1 R1 Q (hp.imp (fun _ _ z => z.from s1) fun _ _ z => z)
    | false => exact hb σ H1 Γ1 fp1 R1 Q (hp.imp (fun _ _ z => z.from s1) fun _ _ z => z)
theorem eo_if {gp gq : G Ob} (ht : ET J tA gA) (ha : EO J ta gp) (hb : EO J tb gq) : EO J (tIf tA ta tb) (gIfE gA gp gq) := fun σ H Γ fp R Q hp =>
  ht.go R hp fun x Γ1 H1 fp1 hp R1 s1 => by
    cases x with
    | true => exact ha σ H1 Γ1 fp1 R1 Q (hp.imp (fun _ _ z => z.from s1) fun _ _ z => z)
    | false => exact hb σ H1 Γ1 fp1 R1 Q (hp.imp (fun _ _ z => z.from s1) fun _ _ z => z)
theorem ed_chain {r r' : R2} {f f' : D → D → Option D} (hr : OpD J.K r f) (hr' : OpD J.K r' f') (ha : ED J ta ga) (hb : ED J tb gb) (hc : ED J tc gc) : ED J (tChain r r' ta tb tc) (gChain f f' ga gb gc) := fun σ H Γ fp R Q hp =>
  ha.go R hp fun x Γ1 v H1 fp1 hp R1 a1 s1 => hb.go R1 hp fun y Γ2 w H2 fp2 hp R2 a2 s2 => by
    cases e : f x y with
    | none => rw [e] at hp; exact hp.elim
    | some z =>
      refine hr H2 v w x y z _ (a1.mono s2.im) a2 e fun u H' ex az => ?_
      rw [e] at hp
      cases az <;> try exact hp.elim
      rename_i b
      have sx : Step (U fp2) (U fp2) H2 H' := Step.ofExt ex
      cases b with
      | false => exact ⟨false, rfl, hp _ H' fp2 (R2.ext ex) (.bl _) ((s1.trans s2).trans sx)⟩
      | true =>
        refine ⟨true, rfl, ?_⟩
        have hp' := hp.imp (fun _ _ z => z) fun _ _ z => XxE.from z sx
        refine hc.go (R2.ext ex) hp' fun t Γ3 w3 H3 fp3 hp R3 a3 s3 => ?_
        obtain ⟨z, e, q⟩ := hp.ofOpt
        exact hr' H3 w w3 y t z Q (a2.mono (sx.im.trans s3.im)) a3 e fun u H' ex az => q u H' fp3 (R3.ext ex) az ((((s1.trans s2).trans sx).trans s3).trans (Step.ofExt ex))
/-! arguments, displays -/
variable {tl : TA} {gl : G (List D)}
theorem ea_nil : EA J tNil gNilA := fun σ H Γ fp R Q hp => hp [] H fp R .nil (Step.refl _ _)
theorem ea_cons (ha : ED J ta ga) (hl : EA J tl gl) : EA J (tCons ta tl) (gConsA ga gl) := fun σ H Γ fp R Q hp =>
  ha.go R hp fun x Γ1 v H1 fp1 hp R1 a1 s1 => hl.go R1 hp fun xs Γ2 vs H2 fp2 hp R2 a2 s2 => hp _ H2 fp2 R2 (.cons (a1.mono s2.im) a2) (s1.trans s2)
theorem small_ok {n : Nat} (h : small n = true) : n ≤ sizeLine := Nat.le_trans (of_decide_eq_true h) (by decide)
theorem ed_tup (hl : EA J tl gl) : ED J (tTup tl) (gTup gl) := fun σ H Γ fp R Q hp =>
  hl.go R hp fun xs Γ1 vs H1 fp1 hp R1 a1 s1 => by
    by_cases c : small xs.length = true
    · rw [if_pos c] at hp
      refine ⟨by rw [a1.length]; exact small_ok c, fun p np => hp _ _ fp1 (R1.ext (Ext.new np)) (.tup (.inl (.inl upd_same)) (a1.mono (Ext.new np).im)) (s1.trans (Step.ofExt (Ext.new np)))⟩
    · rw [if_neg c] at hp; exact hp.elim
theorem Rel.nofp {K : Frag} {H : Hp} {σ : St} {Γ : Env} {fp : Nat → Fp} (R : Rel K H σ Γ fp) {p : Addr} (np : H p = none) : ¬ U fp p := fun z => (R.own p z).ne_none np
/-- a new list, owned -/
theorem new_list {K : Frag} {H : Hp} {σ : St} {Γ : Env} {fp : Nat → Fp} (R : Rel K H σ Γ fp) {p : Addr} {vs : List V} {xs : List D} (np : H p = none) (a : Ats K H vs xs) :
    Rel K (upd H p (.lst vs)) σ Γ fp ∧ RepO K (upd H p (.lst vs)) (.lst xs) (.ref p) (fun b => b = p) ∧ (∀ b, b = p → U fp b → False) ∧ Step (U fp) (fun b => b = p ∨ U fp b) H (upd H p (.lst vs)) :=
  ⟨R.ext (Ext.new np), .lst upd_same (a.mono (Ext.new np).im) fun _ => Iff.rfl, fun b e z => R.nofp np (e ▸ z),
    ⟨(Ext.new np).im, fun b o h _ => Ext.new np b o h, fun b z => z.elim (fun e => .inr (e ▸ np)) .inl⟩⟩
theorem eo_lst (hl : EA J tl gl) : EO J (tLst tl) (gLst gl) := fun σ H Γ fp R Q hp =>
  hl.go R hp fun xs Γ1 vs H1 fp1 hp R1 a1 s1 => by
    by_cases c : small xs.length = true
    · rw [if_pos c] at hp
      refine ⟨by rw [a1.length]; exact small_ok c, fun p np => ?_⟩
      obtain ⟨R2, r2, d2, t2⟩ := new_list R1 np a1
      exact hp _ _ fp1 _ R2 r2 d2 (s1.trans t2)
    · rw [if_neg c] at hp; exact hp.elim
theorem ed_cal {r : RC} {f : List D → Option D} (hr : CalD J.K r f) (hl : EA J tl gl) : ED J (tCB r tl) (gCal f gl) := fun σ H Γ fp R Q hp =>
  hl.go R hp fun xs Γ1 vs H1 fp1 hp R1 a1 s1 => by
    obtain ⟨z, e, q⟩ := hp.ofOpt
    exact hr H1 vs xs z Q a1 e fun u H' ex az => q u H' fp1 (R1.ext ex) az (s1.trans (Step.ofExt ex))
/-! parts of slices -/
theorem ep_none : EP' J tNoPart gNoP := fun σ H Γ fp R Q hp => hp H fp R (Step.refl _ _)
theorem ep_some (ha : ED J ta ga) : EP' J (tPart ta) (gP ga) := fun σ H Γ fp R Q hp =>
  ha.go R hp fun x Γ1 v H1 fp1 hp R1 a1 s1 => by
    cases a1 <;> try exact hp.elim
    exact ⟨_, rfl, hp H1 fp1 R1 s1⟩
variable {to1 to2 : TO} {go1 go2 : G (Option Int)}
theorem ed_sl {r : R3} {f : D → Option Int → Option Int → Option D} (hr : SlD J.K r f) (ha : ED J ta ga) (h1 : EP' J to1 go1) (h2 : EP' J to2 go2) : ED J (tSl r ta to1 to2) (gSl f ga go1 go2) := fun σ H Γ fp R Q hp =>
  ha.go R hp fun x Γ1 v H1 fp1 hp R1 a1 s1 => h1.go R1 hp fun l Γ2 H2 fp2 hp R2 s2 => h2.go R2 hp fun h Γ3 H3 fp3 hp R3 s3 => by
    obtain ⟨z, e, q⟩ := hp.ofOpt
    exact hr H3 v x z l h Q (a1.mono (s2.im.trans s3.im)) e fun u H' ex az => q u H' fp3 (R3.ext ex) az (((s1.trans s2).trans s3).trans (Step.ofExt ex))
end

/-! ### list operands -/
section
variable {K : Frag} {H H' : Hp} {σ : St} {Γ : Env} {fp fp' : Nat → Fp} {s : Src} {v : V} {f : Fp}
theorem SrcR.own (h : SrcR K H σ s v f) : ∀ b, f b → Own1 (H b) := by
  cases s with
  | dat x => exact fun b z => (h.2 b z).elim
  | slot i => exact fun b z => (h.2 b z).elim
  | own xs => exact RepO.own h
theorem SrcR.frame (h : SrcR K H σ s v f) (t : Step (U fp) (U fp') H H') (d : ∀ b, f b → U fp b → False) : SrcR K H' σ s v f := by
  cases s with
  | dat x => exact ⟨h.1.mono t.im, h.2⟩
  | slot i => exact h
  | own xs => exact RepO.frame t.im h fun b u z e => t.keep b u e fun z2 => d b z z2
theorem dis_step {f : Fp} {F F' : Fp} (t : Step F F' H H') (ho : ∀ b, f b → Own1 (H b)) (d : ∀ b, f b → F b → False) : ∀ b, f b → F' b → False := fun b z1 z2 => by
  rcases t.fresh b z2 with z | z
  · exact d b z1 z
  · exact (ho b z1).ne_none z
theorem SrcR.view (R : Rel K H σ Γ fp) (h : SrcR K H σ s v f) {xs : List D} (e : Gm.view Γ s = some xs) : ∃ p vs, v = .ref p ∧ (SqL K H p vs ∨ SqT K H p vs) ∧ Ats K H vs xs := by
  cases s with
  | dat x =>
    cases x with
    | tup ys =>
      cases e
      cases h.1 with
      | tup h1 h2 => exact ⟨_, _, rfl, .inr h1, h2⟩
    | fl ys =>
      cases e
      cases h.1 with
      | fl h1 h2 => exact ⟨_, _, rfl, .inl h1.sq, h2⟩
    | _ => cases e
  | slot i =>
    simp only [Gm.view] at e
    split at e
    · rename_i ys e2
      cases e
      obtain ⟨w, q1, q2⟩ := R.rep i _ e2
      obtain ⟨q, _⟩ := h
      rw [q] at q1
      cases q1
      cases q2 with
      | lst h1 h2 _ => exact ⟨_, _, rfl, .inl (.inl (.inl h1)), h2⟩
    · cases e
  | own ys =>
    cases e
    cases h with
    | lst h1 h2 _ => exact ⟨_, _, rfl, .inl (.inl (.inl h1)), h2⟩
theorem SrcR.viewL (R : Rel K H σ Γ fp) (h : SrcR K H σ s v f) {xs : List D} (e : Gm.view Γ s = some xs) (nt : notTup s = true) : ∃ p vs, v = .ref p ∧ SqL K H p vs ∧ Ats K H vs xs := by
  cases s with
  | dat x =>
    cases x with
    | tup ys => cases nt
    | fl ys =>
      cases e
      cases h.1 with
      | fl h1 h2 => exact ⟨_, _, rfl, h1.sq, h2⟩
    | _ => cases e
  | slot i =>
    obtain ⟨p, vs, e1, q, a⟩ := SrcR.view R h e
    simp only [Gm.view] at e
    split at e
    · rename_i ys e2
      obtain ⟨w, q1, q2⟩ := R.rep i _ e2
      obtain ⟨q3, _⟩ := h
      rw [q3] at q1
      cases q1
      cases e
      cases q2 with
      | lst h1 h2 _ => exact ⟨_, _, rfl, .inl (.inl h1), h2⟩
    · cases e
  | own ys =>
    cases e
    cases h with
    | lst h1 h2 _ => exact ⟨_, _, rfl, .inl (.inl h1), h2⟩
/-- the operand as data that is compared -/
theorem SrcR.dp (R : Rel K H σ Γ fp) (h : SrcR K H σ s v f) {x : D} (e : srcD Γ s = some x) (c : (toPy x).canLay0 = true) : Dp K H v (toPy x) := by
  cases s with
  | dat y => cases e; exact h.1.dp c
  | slot i =>
    have e0 := e
    simp only [srcD] at e
    split at e
    · rename_i ys e2
      cases e
      obtain ⟨p, vs, rfl, q, a⟩ := SrcR.viewL (s := .slot i) R h (xs := ys) (by simp only [Gm.view, e2]) rfl
      exact .lst q (a.dp (by simpa [toPy, PyData.canLay0] using c))
    · cases e
  | own ys =>
    cases e
    obtain ⟨p, vs, rfl, q, a⟩ := SrcR.viewL (s := .own ys) R h (xs := ys) rfl rfl
    exact .lst q (a.dp (by simpa [toPy, PyData.canLay0] using c))
end
def rCatG (K : Frag) : R2 := fun x y H Q => ∃ l b xs zs, x = .ref l ∧ y = .ref b ∧ SqL K H l xs ∧ SqL K H b zs ∧ xs.length + zs.length ≤ sizeLine ∧ ∀ p, H p = none → Q (.ref p) (upd H p (.lst (xs ++ zs)))
section
variable {X : Cx}
theorem op_catG : OpR X (binaryOp .Add) (rCatG X.K) := by
  intro pins s σ H x y v u Q I rx ry h
  obtain ⟨l, b, xs, zs, rfl, rfl, hH, hB, hz, q⟩ := h
  cases rx
  cases ry
  obtain ⟨its, r, hl, z⟩ := I.list hH
  obtain ⟨its2, r2, hl2, z2⟩ := I.list hB
  obtain ⟨⟨cls, dd, data, sl⟩, n, ho, hc, hd, hs⟩ := hl
  obtain ⟨⟨cls2, dd2, data2, sl2⟩, n2, ho2, hc2, hd2, hs2⟩ := hl2
  simp only at hc hd hs hc2 hd2 hs2
  subst hc hd hs hc2 hd2 hs2
  have e1 := r.length
  have e2 := r2.length
  have ea : its.toArray ++ its2.toArray = (its ++ its2).toArray := by simp
  refine concat_meets ⟨_, ho, rfl⟩ ⟨_, ho2, rfl⟩ noFill_list_add seq_list_add PySem.F.slot_list_add PySem.F.entry_list_add (PySem.F.args_list_add_2 _ _)
    (list_addW l b its.toArray its2.toArray n n2 _ _ sl sl2 (by rw [List.size_toArray, List.size_toArray]; omega)) ⟨ho, ho2, ?_⟩
  rw [ea]
  exact ⟨.ref _, _, I.lnew (t' := s.toks) (r.append r2) (by rw [List.length_append]; omega), rfl, q _ I.fresh⟩
end
section
variable {J : Jc} {ts tt te tb : TE} {gs gt : G Src} {gb : G D} {to1 to2 : TO} {go1 go2 : G (Option Int)}
theorem sl_step {f F F' : Fp} {H H1 H2 : Hp} {fp1 fp2 : Nat → Fp} (s1 : Step F (fun b => f b ∨ U fp1 b) H H1) (s2 : Step (U fp1) (U fp2) H1 H2) : Step F (fun b => f b ∨ U fp2 b) H H2 := s1.trans s2.wide
theorem eo_slL (ha : ES J ts gs) (h1 : EP' J to1 go1) (h2 : EP' J to2 go2) : EO J (tSl (rSlL J.K) ts to1 to2) (gSlL gs go1 go2) := fun σ H Γ fp R Q hp =>
  ha.go R hp fun s Γ1 v H1 fp1 f hp R1 a1 d1 s1 => h1.go R1 hp fun l Γ2 H2 fp2 hp R2 s2 => h2.go R2 hp fun h Γ3 H3 fp3 hp R3 s3 => by
    have a3 := a1.frame (s2.trans s3) d1
    have d3 := dis_step (s2.trans s3) a1.own d1
    by_cases nt : notTup s = true
    · rw [if_pos nt] at hp
      obtain ⟨z, e, q0⟩ := hp.ofOpt
      rw [Option.map_eq_some_iff] at e
      obtain ⟨xs, e, rfl⟩ := e
      obtain ⟨p, vs, rfl, q, a⟩ := SrcR.viewL R3 a3 e nt
      refine ⟨p, vs, rfl, q, fun p' np => ?_⟩
      obtain ⟨R4, r4, d4, t4⟩ := new_list R3 np (a.cut l h)
      exact q0 _ _ fp3 _ R4 r4 d4 (((s1.sub fun _ => .inr).trans (s2.trans s3)).trans t4)
    · rw [if_neg nt] at hp; exact hp.elim
theorem eo_cat (ha : ES J ts gs) (hb : ES J tt gt) : EO J (tOp (rCatG J.K) ts tt) (gCat gs gt) := fun σ H Γ fp R Q hp =>
  ha.go R hp fun s Γ1 v H1 fp1 f hp R1 a1 d1 s1 => hb.go R1 hp fun t Γ2 w H2 fp2 g hp R2 b2 d2 s2 => by
    have s2' : Step (U fp1) (U fp2) H1 H2 := s2.sub fun _ => .inr
    have a2 := a1.frame s2' d1
    by_cases nt : (notTup s && notTup t) = true
    · rw [if_pos nt] at hp
      rw [Bool.and_eq_true] at nt
      obtain ⟨z, e, q0⟩ := hp.ofOpt
      rw [Option.bind_eq_some_iff] at e
      obtain ⟨xs, e1, e⟩ := e
      rw [Option.bind_eq_some_iff] at e
      obtain ⟨ys, e2, e⟩ := e
      unfold catL at e
      split at e
      · cases e
        obtain ⟨p, vs, rfl, q, a⟩ := SrcR.viewL R2 a2 e1 nt.1
        obtain ⟨p2, ws, rfl, q2, b⟩ := SrcR.viewL R2 b2 e2 nt.2
        refine ⟨p, p2, vs, ws, rfl, rfl, q, q2, by rw [a.length, b.length]; assumption, fun p' np => ?_⟩
        obtain ⟨R4, r4, d4, t4⟩ := new_list R2 np (a.append b)
        exact q0 _ _ fp2 _ R4 r4 d4 (((s1.sub fun _ => .inr).trans s2').trans t4)
      · cases e
    · rw [if_neg nt] at hp; exact hp.elim
theorem ed_ixS (ha : ES J ts gs) (hb : ED J tb gb) : ED J (tOp (rIx J.K) ts tb) (gIxS gs gb) := fun σ H Γ fp R Q hp =>
  ha.go R hp fun s Γ1 v H1 fp1 f hp R1 a1 d1 s1 => hb.go R1 hp fun y Γ2 w H2 fp2 hp R2 b2 s2 => by
    have a2 := a1.frame s2 d1
    have st := (s1.sub fun _ => .inr).trans s2
    cases s with
    | dat x =>
      obtain ⟨z, e, q⟩ := hp.ofOpt
      exact ix_D J.K H2 v w x y z Q a2.1 b2 e fun u H' ex az => q u H' fp2 (R2.ext ex) az (st.trans (Step.ofExt ex))
    | slot i =>
      cases b2 <;> try exact hp.elim
      obtain ⟨z, e, q⟩ := hp.ofOpt
      cases e1 : view Γ2 (.slot i) with
      | none => rw [e1] at e; cases e
      | some xs =>
        rw [e1] at e
        obtain ⟨p, vs, rfl, h1, a⟩ := SrcR.viewL R2 a2 e1 rfl
        obtain ⟨u, q1, q2⟩ := a.atI (show atI xs _ = some z from e)
        exact .inl ⟨_, _, _, u, rfl, rfl, h1, q1, q _ H2 fp2 R2 q2 st⟩
    | own xs =>
      cases b2 <;> try exact hp.elim
      obtain ⟨z, e, q⟩ := hp.ofOpt
      obtain ⟨p, vs, rfl, h1, a⟩ := SrcR.viewL (s := .own xs) R2 a2 rfl rfl
      obtain ⟨u, q1, q2⟩ := a.atI (show atI xs _ = some z from e)
      exact .inl ⟨_, _, _, u, rfl, rfl, h1, q1, q _ H2 fp2 R2 q2 st⟩
theorem ed_lenS (ha : ES J ts gs) : ED J (tCB (fun xs H Q => ∃ x n, xs = [x] ∧ LenV J.K x H n ∧ Q (.int n) H) (tCons ts tNil)) (gLenS gs) := fun σ H Γ fp R Q hp =>
  ha.go R hp fun s Γ1 v H1 fp1 f hp R1 a1 d1 s1 => by
    have st := s1.sub (F2 := U fp1) fun _ => .inr
    cases s with
    | dat x =>
      obtain ⟨z, e, q⟩ := hp.ofOpt
      exact len_D J.K H1 [v] [x] z Q (.cons a1.1 .nil) e fun u H' ex az => q u H' fp1 (R1.ext ex) az (st.trans (Step.ofExt ex))
    | slot i =>
      obtain ⟨z, e, q⟩ := hp.ofOpt
      rw [Option.map_eq_some_iff] at e
      obtain ⟨xs, e, rfl⟩ := e
      obtain ⟨p, vs, rfl, h1, a⟩ := SrcR.viewL R1 a1 e rfl
      exact ⟨_, _, rfl, .inl ⟨_, h1, rfl⟩, by rw [a.length]; exact q _ H1 fp1 R1 (.int _) st⟩
    | own xs =>
      obtain ⟨z, e, q⟩ := hp.ofOpt
      cases e
      obtain ⟨p, vs, rfl, h1, a⟩ := SrcR.viewL (s := .own xs) R1 a1 rfl rfl
      exact ⟨_, _, rfl, .inl ⟨_, h1, rfl⟩, by rw [a.length]; exact q _ H1 fp1 R1 (.int _) st⟩
theorem eo_listS (ha : ES J ts gs) : EO J (tCB (fun xs H Q => ∃ p ys, xs = [.ref p] ∧ (SqL J.K H p ys ∨ SqT J.K H p ys) ∧ ∀ l, H l = none → Q (.ref l) (upd H l (.lst ys))) (tCons ts tNil)) (gListS gs) := fun σ H Γ fp R Q hp =>
  ha.go R hp fun s Γ1 v H1 fp1 f hp R1 a1 d1 s1 => by
    obtain ⟨z, e, q⟩ := hp.ofOpt
    rw [Option.map_eq_some_iff] at e
    obtain ⟨xs, e, rfl⟩ := e
    obtain ⟨p, vs, rfl, h1, a⟩ := SrcR.view R1 a1 e
    refine ⟨p, vs, rfl, h1, fun l nl => ?_⟩
    obtain ⟨R4, r4, d4, t4⟩ := new_list R1 nl a
    exact q _ _ fp1 _ R4 r4 d4 ((s1.sub fun _ => .inr).trans t4)
theorem ed_tupS (ha : ES J ts gs) : ED J (tCB (fun xs H Q => ∃ p ys, xs = [.ref p] ∧ ((SqL J.K H p ys ∧ ∀ l, H l = none → Q (.ref l) (upd H l (.tup ys))) ∨ (SqT J.K H p ys ∧ Q (.ref p) H))) (tCons ts tNil)) (gTupS gs) := fun σ H Γ fp R Q hp =>
  ha.go R hp fun s Γ1 v H1 fp1 f hp R1 a1 d1 s1 => by
    obtain ⟨z, e, q⟩ := hp.ofOpt
    rw [Option.map_eq_some_iff] at e
    obtain ⟨xs, e, rfl⟩ := e
    have st := s1.sub (F2 := U fp1) fun _ => .inr
    obtain ⟨p, vs, rfl, h1, a⟩ := SrcR.view R1 a1 e
    rcases h1 with h1 | h1
    · exact ⟨p, vs, rfl, .inl ⟨h1, fun l nl => q _ _ fp1 (R1.ext (Ext.new nl)) (.tup (.inl (.inl upd_same)) (a.mono (Ext.new nl).im)) (st.trans (Step.ofExt (Ext.new nl)))⟩⟩
    · exact ⟨p, vs, rfl, .inr ⟨h1, q _ H1 fp1 R1 (.tup h1 a) st⟩⟩
theorem Ats.strs {K : Frag} {H : Hp} : ∀ {vs : List V} {xs : List D} {ys : List Str}, Ats K H vs xs → Gm.strsD xs = some ys → vs = ys.map V.str
  | _, _, _, .nil, e => by cases e; rfl
  | _, _, _, .cons (x := x) h hs, e => by
    cases h with
    | str z =>
      simp only [Gm.strsD] at e
      rw [Option.map_eq_some_iff] at e
      obtain ⟨zs, e, rfl⟩ := e
      rw [Ats.strs hs e]
      rfl
    | _ => simp [Gm.strsD] at e
theorem Ats.bls {K : Frag} {H : Hp} : ∀ {vs : List V} {xs : List D} {ys : List Bool}, Ats K H vs xs → Gm.blsD xs = some ys → vs = ys.map V.bl
  | _, _, _, .nil, e => by cases e; rfl
  | _, _, _, .cons (x := x) h hs, e => by
    cases h with
    | bl z =>
      simp only [Gm.blsD] at e
      rw [Option.map_eq_some_iff] at e
      obtain ⟨zs, e, rfl⟩ := e
      rw [Ats.bls hs e]
      rfl
    | _ => simp [Gm.blsD] at e
theorem Ats.ints {K : Frag} {H : Hp} : ∀ {vs : List V} {xs : List D} {ys : List Int}, Ats K H vs xs → Gm.intsD xs = some ys → vs = ys.map V.int
  | _, _, _, .nil, e => by cases e; rfl
  | _, _, _, .cons (x := x) h hs, e => by
    cases h with
    | int z =>
      simp only [Gm.intsD] at e
      rw [Option.map_eq_some_iff] at e
      obtain ⟨zs, e, rfl⟩ := e
      rw [Ats.ints hs e]
      rfl
    | _ => simp [Gm.intsD] at e
theorem ed_join {ta : TE} {ga : G D} (ha : ED J ta ga) (hb : ES J ts gs) : ED J (tM1 (fun x xs H Q => ∃ a p, ∃ ys : List Str, x = .str a ∧ xs = [.ref p] ∧ (SqL J.K H p (ys.map V.str) ∨ SqT J.K H p (ys.map V.str)) ∧
      (ys.map (·.length)).sum + ys.length * a.length ≤ 16777216 ∧ Q (.str (Txt.join a ys)) H) ta ts) (gJoin ga gs) := fun σ H Γ fp R Q hp =>
  ha.go R hp fun x Γ1 v H1 fp1 hp R1 a1 s1 => by
    cases a1 with
    | str z =>
      refine ⟨⟨z, rfl⟩, ?_⟩
      refine hb.go R1 hp fun s Γ2 w H2 fp2 f hp R2 b2 d2 s2 => ?_
      obtain ⟨y, e, q⟩ := hp.ofOpt
      rw [Option.bind_eq_some_iff] at e
      obtain ⟨xs, e1, e⟩ := e
      obtain ⟨p, vs, rfl, h1, a⟩ := SrcR.view R2 b2 e1
      unfold joinD at e
      split at e
      · rename_i ys ey
        split at e
        · cases e
          rw [a.strs ey] at h1
          exact ⟨z, p, ys, rfl, rfl, h1, by assumption, q _ H2 fp2 R2 (.str _) (s1.trans (s2.sub fun _ => .inr))⟩
        · cases e
      · cases e
    | _ => exact hp.elim
theorem ed_allS (ha : ES J ts gs) : ED J (tCB (rAll J.K) (tCons ts tNil)) (gAllS gs) := fun σ H Γ fp R Q hp =>
  ha.go R hp fun s Γ1 v H1 fp1 f hp R1 a1 d1 s1 => by
    by_cases nt : notTup s = true
    · rw [if_pos nt] at hp
      obtain ⟨z, e, q⟩ := hp.ofOpt
      rw [Option.bind_eq_some_iff] at e
      obtain ⟨xs, e1, e⟩ := e
      rw [Option.map_eq_some_iff] at e
      obtain ⟨bs, e2, rfl⟩ := e
      obtain ⟨p, vs, rfl, h1, a⟩ := SrcR.viewL R1 a1 e1 nt
      rw [a.bls e2] at h1
      exact ⟨p, bs, rfl, h1, q _ H1 fp1 R1 (.bl _) (s1.sub fun _ => .inr)⟩
    · rw [if_neg nt] at hp; exact hp.elim
theorem ed_anyS (ha : ES J ts gs) : ED J (tCB (rAny J.K) (tCons ts tNil)) (gAnyS gs) := fun σ H Γ fp R Q hp =>
  ha.go R hp fun s Γ1 v H1 fp1 f hp R1 a1 d1 s1 => by
    by_cases nt : notTup s = true
    · rw [if_pos nt] at hp
      obtain ⟨z, e, q⟩ := hp.ofOpt
      rw [Option.bind_eq_some_iff] at e
      obtain ⟨xs, e1, e⟩ := e
      rw [Option.map_eq_some_iff] at e
      obtain ⟨bs, e2, rfl⟩ := e
      obtain ⟨p, vs, rfl, h1, a⟩ := SrcR.viewL R1 a1 e1 nt
      rw [a.bls e2] at h1
      exact ⟨p, bs, rfl, h1, q _ H1 fp1 R1 (.bl _) (s1.sub fun _ => .inr)⟩
    · rw [if_neg nt] at hp; exact hp.elim
theorem ed_sumS (ha : ES J ts gs) : ED J (tCB (rSum J.K) (tCons ts tNil)) (gSumS gs) := fun σ H Γ fp R Q hp =>
  ha.go R hp fun s Γ1 v H1 fp1 f hp R1 a1 d1 s1 => by
    by_cases nt : notTup s = true
    · rw [if_pos nt] at hp
      obtain ⟨z, e, q⟩ := hp.ofOpt
      rw [Option.bind_eq_some_iff] at e
      obtain ⟨xs, e1, e⟩ := e
      rw [Option.map_eq_some_iff] at e
      obtain ⟨bs, e2, rfl⟩ := e
      obtain ⟨p, vs, rfl, h1, a⟩ := SrcR.viewL R1 a1 e1 nt
      rw [a.ints e2] at h1
      exact ⟨p, bs, rfl, h1, q _ H1 fp1 R1 (.int _) (s1.sub fun _ => .inr)⟩
    · rw [if_neg nt] at hp; exact hp.elim
/-- == and != where lists of one's own may stand -/
theorem eqS_go {f : D → D → Option D} {op : R2} (ha : ES J ts gs) (hb : ES J tt gt)
    (ho : ∀ H v w x y z (Q : VK), f x y = some z → ((toPy x).canLay0 = true → Dp J.K H v (toPy x)) → ((toPy y).canLay0 = true → Dp J.K H w (toPy y)) → (∀ b, x = .int b → v = .int b) → (∀ b, y = .int b → w = .int b) → (∀ b, x = .str b → v = .str b) → (∀ b, y = .str b → w = .str b) → (∀ xs, y = .fl [] → x = .fl xs → ∃ vs, NilR J.K H v w vs ∧ vs.isEmpty = xs.isEmpty) → (∀ xs, y = .tup [] → x = .tup xs → ∃ vs, NilR J.K H v w vs ∧ vs.isEmpty = xs.isEmpty) → (∀ u, At J.K H u z → Q u H) → op v w H Q) :
    ED J (tOp op ts tt) (gCmpS f gs gt) := fun σ H Γ fp R Q hp =>
  ha.go R hp fun s Γ1 v H1 fp1 f1 hp R1 a1 d1 s1 => hb.go R1 hp fun t Γ2 w H2 fp2 g hp R2 b2 d2 s2 => by
    have s2' : Step (U fp1) (U fp2) H1 H2 := s2.sub fun _ => .inr
    have a2 := a1.frame s2' d1
    obtain ⟨z, e, q⟩ := hp.ofOpt
    rw [Option.bind_eq_some_iff] at e
    obtain ⟨x, e1, e⟩ := e
    rw [Option.bind_eq_some_iff] at e
    obtain ⟨y, e2, e⟩ := e
    have flat : ∀ {s : Src} {v : V} {f : Fp} {x : D}, SrcR J.K H2 σ s v f → srcD Γ2 s = some x → (∀ b, x = .int b → v = .int b) ∧ (∀ b, x = .str b → v = .str b) := by
      intro s v f x hs hx
      cases s with
      | dat y => cases hx; exact ⟨fun b e => by subst e; cases hs.1; rfl, fun b e => by subst e; cases hs.1; rfl⟩
      | slot i =>
        simp only [srcD] at hx
        split at hx
        · cases hx; exact ⟨fun b e => (nomatch e), fun b e => (nomatch e)⟩
        · cases hx
      | own ys => cases hx; exact ⟨fun b e => (nomatch e), fun b e => (nomatch e)⟩
    have lst : ∀ {s : Src} {v : V} {f : Fp} {xs : List D}, SrcR J.K H2 σ s v f → srcD Γ2 s = some (.fl xs) → ∃ p vs, v = .ref p ∧ SqL J.K H2 p vs ∧ Ats J.K H2 vs xs := by
      intro s v f xs hs hx
      have hv : view Γ2 s = some xs ∧ notTup s = true := by
        cases s with
        | dat y => cases hx; exact ⟨rfl, rfl⟩
        | slot i =>
          simp only [srcD] at hx
          split at hx
          · rename_i h
            cases hx
            exact ⟨by unfold view; simp only [h], rfl⟩
          · cases hx
        | own ys => cases hx; exact ⟨rfl, rfl⟩
      obtain ⟨p, vs, h1, h2, h3⟩ := SrcR.viewL R2 hs hv.1 hv.2
      exact ⟨p, vs, h1, h2, h3⟩
    have tup : ∀ {s : Src} {v : V} {f : Fp} {xs : List D}, SrcR J.K H2 σ s v f → srcD Γ2 s = some (.tup xs) → At J.K H2 v (.tup xs) := by
      intro s v f xs hs hx
      cases s with
      | dat y => cases hx; exact hs.1
      | slot i =>
        simp only [srcD] at hx
        split at hx
        · cases hx
        · cases hx
      | own ys => cases hx
    exact ho H2 v w x y z Q e (fun c => SrcR.dp R2 a2 e1 c) (fun c => SrcR.dp R2 b2 e2 c) (flat a2 e1).1 (flat b2 e2).1 (flat a2 e1).2 (flat b2 e2).2 (fun xs q1 q2 => by
      subst q1 q2
      obtain ⟨p, vs, rfl, h1, h2⟩ := lst a2 e1
      obtain ⟨p', vs', rfl, h1', h2'⟩ := lst b2 e2
      cases h2'
      exact ⟨vs, ⟨_, _, rfl, rfl, .inl ⟨h1, h1'⟩⟩, by cases h2 <;> rfl⟩) (fun xs q1 q2 => by
      subst q1 q2
      exact tup_nilR (tup a2 e1) (tup b2 e2)) fun u az => q u H2 fp2 R2 az ((s1.sub fun _ => .inr).trans s2')
theorem ed_eqS (ha : ES J ts gs) (hb : ES J tt gt) : ED J (tOp (rEqA J.K) ts tt) (gCmpS oEq gs gt) := eqS_go ha hb fun H v w x y z Q e h1 h2 i1 i2 j1 j2 n1 n2 k => by
  unfold oEq at e
  split at e
  · rw [i1 _ rfl, i2 _ rfl]; cases e
    exact .inl ⟨rfl, by rw [dec_intV]; exact k _ (.bl _)⟩
  · rw [j1 _ rfl, j2 _ rfl]; cases e
    exact .inl ⟨rfl, by rw [dec_strV]; exact k _ (.bl _)⟩
  · cases e
    obtain ⟨vs, n, b⟩ := n1 _ rfl rfl
    exact .inr (.inr ⟨vs, n, by rw [b]; exact k _ (.bl _)⟩)
  · cases e
    obtain ⟨vs, n, b⟩ := n2 _ rfl rfl
    exact .inr (.inr ⟨vs, n, by rw [b]; exact k _ (.bl _)⟩)
  · split at e
    · rename_i h
      cases e
      simp only [Bool.and_eq_true, eqOk, decide_eq_true_eq] at h
      exact .inr (.inl ⟨_, _, h1 h.1.1, h2 h.2.1, h.1.1, h.2.1, h.1.2, k _ (.bl _)⟩)
    · cases e
theorem ed_neS (ha : ES J ts gs) (hb : ES J tt gt) : ED J (tOp (rNeA J.K) ts tt) (gCmpS oNe gs gt) := eqS_go ha hb fun H v w x y z Q e h1 h2 i1 i2 j1 j2 n1 n2 k => by
  unfold oNe at e
  split at e
  · rw [i1 _ rfl, i2 _ rfl]; cases e
    exact .inl ⟨rfl, by rw [dec_intV]; exact k _ (.bl _)⟩
  · rw [j1 _ rfl, j2 _ rfl]; cases e
    exact .inl ⟨rfl, by rw [dec_strV]; exact k _ (.bl _)⟩
  · cases e
    obtain ⟨vs, n, b⟩ := n1 _ rfl rfl
    exact .inr (.inr ⟨vs, n, by rw [b]; exact k _ (.bl _)⟩)
  · cases e
    obtain ⟨vs, n, b⟩ := n2 _ rfl rfl
    exact .inr (.inr ⟨vs, n, by rw [b]; exact k _ (.bl _)⟩)
  · split at e
    · rename_i h
      cases e
      simp only [Bool.and_eq_true, eqOk, decide_eq_true_eq] at h
      exact .inr (.inl ⟨_, _, h1 h.1.1, h2 h.2.1, h.1.1, h.2.1, h.1.2, k _ (.bl _)⟩)
    · cases e
/-- in a list of one's own, or a new one -/
def gInS (neg : Bool) (a : G D) (b : G Src) (Γ : Env) : Res D Env := (a Γ).bind fun x Γ => (b Γ).bind fun t Γ => match t with
  | .dat y => ofOpt ((if neg then oNotIn else oIn) x y) Γ
  | t => ofOpt ((view Γ t).bind fun ys => (oInL x ys).map fun c => .bl (if neg then !c else c)) Γ
theorem ed_inS {neg : Bool} {ta : TE} {ga : G D} (ha : ED J ta ga) (hb : ES J tt gt) : ED J (tOp (rInA J.K neg) ta tt) (gInS neg ga gt) := fun σ H Γ fp R Q hp =>
  ha.go R hp fun x Γ1 v H1 fp1 hp R1 a1 s1 => hb.go R1 hp fun t Γ2 w H2 fp2 g hp R2 b2 d2 s2 => by
    have st := s1.trans (s2.sub (F2 := U fp2) fun _ => .inr)
    have a2 := a1.mono s2.im
    have lst : ∀ t, SrcR J.K H2 σ t w g → Post (ofOpt ((view Γ2 t).bind fun ys => (oInL x ys).map fun c => .bl (if neg then !c else c)) Γ2) (OkD J σ (U fp) H Q) (XxE J σ (U fp2) H2) → rInA J.K neg v w H2 Q := fun t b2 hp => by
      obtain ⟨z, e, q⟩ := hp.ofOpt
      rw [Option.bind_eq_some_iff] at e
      obtain ⟨ys, e1, e⟩ := e
      rw [Option.map_eq_some_iff] at e
      obtain ⟨c, e2, rfl⟩ := e
      obtain ⟨p, vs, rfl, h1, a⟩ := SrcR.view R2 b2 e1
      exact .inr (inQ_of a2 h1 a e2 (q _ H2 fp2 R2 (.bl _) st))
    cases t with
    | dat y =>
      obtain ⟨z, e, q⟩ := hp.ofOpt
      cases neg with
      | true => exact notIn_D J.K H2 v w x y z Q a2 b2.1 e fun u H' ex az => q u H' fp2 (R2.ext ex) az (st.trans (Step.ofExt ex))
      | false => exact in_D J.K H2 v w x y z Q a2 b2.1 e fun u H' ex az => q u H' fp2 (R2.ext ex) az (st.trans (Step.ofExt ex))
    | slot i => exact lst _ b2 hp
    | own xs => exact lst _ b2 hp
end
end Gm

/-! Gm4: statements, loops, comprehensions, calls. -/
namespace PySem.W
open PySem PySem.Spec PyProof.Rows
theorem list_extend_tupW (l : Addr) (items : Array Value) (n : Nat) (b : Addr) (items2 : Array Value) (n2 : Nat) (dd : Option Addr) (sl : Array (Option Value)) (hs0 : ¬(!items.isEmpty && Builtin.List.listTooLong (items.size + items2.size)) = true) (hs1 : items.size ≤ sizeLine) (hs2 : items.size + items2.size ≤ sizeLine + 1) :
    Meets (Builtin.«list.extend» ⟨[.ref l, .ref b], []⟩) (fun _ R s => s.heap.get? l = some { cls := .type "list", dict := none, data := .seq items n, slots := #[] } ∧ s.heap.get? b = some { cls := .type "tuple", dict := dd, data := .seq items2 n2, slots := sl } ∧ R (.ok (.ret Value.none)) { s with heap := s.heap.update l (Obj.mapSeq fun x => x ++ items2), toks := s.toks }) :=
  .of_wp fun prog w A R s h => by
    obtain ⟨hp, g, d, tk, os⟩ := s; obtain ⟨hl, hb, h⟩ := h; have f1 := AutoSeq1.idx_int; have f2 := AutoSeq1.sub_tuple_tuple; have f3 := AutoSeq1.sub_list_list; have f4 := AutoSeq1.sub_tuple_list; have f5 := AutoSeq1.sub_list_tuple;
    have hz' : (items ++ items2).size ≤ sizeLine + 1 := by rw [Array.size_append]; exact hs2
    wp_walk using (wpAny_updateSeq hl rfl (hz := hs1) (_hz' := hz')), wpAny_loadPart' hl, wpAny_loadPart' hb; exact ⟨_, rfl, h⟩
end PySem.W
namespace Gm
open PySem PySem.Spec PyProof.Rows L2

section
variable {X : Cx}
/-- xs.extend(a tuple) -/
def rExtT (K : Frag) : V → List V → Hp → VK → Prop := fun x vs H Q => ∃ l b xs zs, x = .ref l ∧ vs = [.ref b] ∧ H l = some (.lst xs) ∧ SqT K H b zs ∧ xs.length + zs.length ≤ sizeLine ∧ Q .non (upd H l (.lst (xs ++ zs)))
theorem mt_extT : MtR X "list.extend" (rExtT X.K) := by
  intro pins s σ H x vs v us Q I rx rv h
  obtain ⟨l, b, xs, zs, rfl, rfl, hH, hB, hz, q⟩ := h
  cases rx
  obtain ⟨u, rfl, ru⟩ := Vals.one rv
  cases ru
  obtain ⟨z, its, n, r, hl, e⟩ := I.lstM hH
  obtain ⟨its2, r2, ⟨⟨cls, dd, data, sl⟩, ho, hc, n2, hd⟩, hz2⟩ := I.tuple hB
  simp only at hc hd
  subst hc hd
  have e2 := r2.length
  have hsz : its.toArray.size + its2.toArray.size ≤ sizeLine := by rw [List.size_toArray, List.size_toArray]; omega
  have hlong : ¬ (!its.toArray.isEmpty && Builtin.List.listTooLong (its.toArray.size + its2.toArray.size)) = true := by
    rw [notLongL hsz, Bool.and_false]
    exact Bool.false_ne_true
  refine call_meets F.slot_list_extend ⟨_, e, rfl⟩ F.entry_list_extend (F.args_list_extend_2 _ _)
    (PySem.W.list_extend_tupW l its.toArray n b its2.toArray n2 dd sl hlong (by rw [List.size_toArray]; omega) (by omega)) ⟨e, ho, ?_⟩
  refine ⟨.non, _, I.lset (its' := its ++ its2) hH e (by simp) (r.append r2) ?_, rfl, q⟩
  rw [List.length_append]
  omega
def rExtA (K : Frag) : V → List V → Hp → VK → Prop := fun x xs H Q => rExtend x xs H Q ∨ rExtT K x xs H Q
theorem mt_extA : MtR X "list.extend" (rExtA X.K) := MtR.or (fun pins s σ H x vs v us Q I rx rv h => mt_extend pins s σ H x vs v us Q I rx rv h) mt_extT
end

/-! ### an expression's new list is locked for good -/
def lockable : HO → Bool
  | .lst _ => true
  | .dK _ => true
  | _ => false
def tFrz (te : TE) : TE := fun σ H Q => te σ H fun v H1 => ∃ a u, v = .ref a ∧ H1 a = some u ∧ lockable u = true ∧ ∀ o, Q v (upd H1 a (.frz o u))
theorem lock_inv {X : Cx} {pins : List (Addr × Obj)} {σ : St} {H : Hp} {s : Shared} {a : Addr} {u : HO} (I : Inv X pins σ H s) (hu : H a = some u) (hl : lockable u = true) : ∃ o, Inv X pins σ (upd H a (.frz o u)) s := by
  obtain ⟨o, ho⟩ : ∃ o, s.heap.get? a = some o := by
    have ok := I.hok a u hu
    cases u with
    | lst xs => obtain ⟨_, _, _, _, e⟩ := ok; exact ⟨_, e⟩
    | dK kvs => obtain ⟨_, _, _, _, o, _, _, e, _⟩ := ok; exact ⟨_, e⟩
    | _ => cases hl
  have nt : ∀ b x, H b = some x → x ≠ u → b ≠ a := fun b x e n z => by rw [z, hu] at e; exact n (Option.some.inj e).symm
  have nown : ∀ c y, H c = some (.own y) → c ≠ a := fun c y e => nt c _ e (by intro z; rw [← z] at hl; cases hl)
  have ntup : ∀ c y, H c = some (.tup y) → c ≠ a := fun c y e => nt c _ e (by intro z; rw [← z] at hl; cases hl)
  have nfrz : ∀ c y z, H c = some (.frz y z) → c ≠ a := fun c y z e => nt c _ e (by intro z; rw [← z] at hl; cases hl)
  have ntbl : ∀ c y, H c = some (.tbl y) → c ≠ a := fun c y e => nt c _ e (by intro z; rw [← z] at hl; cases hl)
  have st : ∀ b x, H b = some x → ObjOk X.prog X.w (upd H a (.frz o u)) s.heap b x := fun b x e =>
    (I.hok b x e).stay (fun _ _ _ q => q) (fun c q => by rw [upd_ne (nown c b q)]; exact q) fun c xs q => by rw [upd_ne (ntup c xs q)]; exact q
  refine ⟨o, I.un (h' := s.heap) (t' := s.toks) ⟨fun b x q _ _ _ => q, fun b x q _ _ _ => ⟨x.slots, q⟩, fun b x q n _ => ?_, fun b x q _ => ⟨x, q⟩, fun b xs q => by rw [upd_ne (ntup b xs q)]; exact q, fun b x y q => by rw [upd_ne (nfrz b x y q)]; exact q, fun b ps q => ⟨#[], by rw [upd_ne (ntbl b ps q), q]; simp⟩⟩ fun b x e => ?_⟩
  · rw [upd_ne fun z => by rw [z, hu] at n; cases n]; exact n
  · by_cases hb : b = a
    · subst hb
      rw [upd_same] at e
      cases e
      exact ⟨ho, st _ _ hu⟩
    · rw [upd_ne hb] at e
      exact st b x e
theorem pe_frz {X : Cx} {e : Expr} {te : TE} (h : PE X e te) : PE X e (tFrz te) := by
  refine ⟨fun pins s σ H Q I hw => ?_⟩
  refine thn (h.run pins s σ H _ I hw) fun v s1 ⟨x, H1, I1, r1, a, u, e1, hu, hl, q⟩ => ?_
  obtain ⟨o, I2⟩ := lock_inv I1 hu hl
  exact ⟨x, _, I2, r1, q o⟩
section
variable {J : Jc} {te : TE}
/-- a new list that is handed on as data -/
def gFrz (a : G Ob) (Γ : Env) : Res D Env := (a Γ).bind fun o Γ => match o with
  | .lst xs => .ok (.fl xs) Γ
  | .dct [] => .ok .fd Γ
  | _ => .bad
theorem ed_frz {g : G Ob} (ha : EO J te g) : ED J (tFrz te) (gFrz g) := fun σ H Γ fp R Q hp =>
  ha.go R hp fun x Γ1 v H1 fp1 f hp R1 a1 d1 s1 => by
    have lock : ∀ (p : Addr) (u : HO) (o : Obj), H1 p = some u → lockable u = true → f p → Rel J.K (upd H1 p (.frz o u)) σ Γ1 fp1 ∧ Step (U fp) (U fp1) H (upd H1 p (.frz o u)) ∧ Im H1 (upd H1 p (.frz o u)) := fun p u o hu hl hf => by
      have im : Im H1 (upd H1 p (.frz o u)) := ⟨fun b xs e => by rw [upd_ne fun z => by rw [z, hu] at e; cases e; cases hl]; exact e, fun b x y e => by rw [upd_ne fun z => by rw [z, hu] at e; cases e; cases hl]; exact e, fun b y e => by rw [upd_ne fun z => by rw [z, hu] at e; cases e; cases hl]; exact e, fun b y e => by rw [upd_ne fun z => by rw [z, hu] at e; cases e; cases hl]; exact e⟩
      refine ⟨R1.frame im fun b x hb e => by rw [upd_ne (show b ≠ p from fun z => d1 p hf (z ▸ hb))]; exact e, ⟨s1.im.trans im, fun b x e n => ?_, fun b z => s1.fresh b (.inr z)⟩, im⟩
      have hb := s1.keep b x e n
      rw [upd_ne fun z => ?_]
      · exact hb
      · rcases s1.fresh p (.inl hf) with q | q
        · exact n (z ▸ q)
        · rw [z, q] at e; cases e
    cases a1 with
    | d => exact hp.elim
    | ins => exact hp.elim
    | exc => exact hp.elim
    | obs => exact hp.elim
    | hol => exact hp.elim
    | lst h1 h2 h3 =>
      refine ⟨_, _, rfl, h1, rfl, fun o => ?_⟩
      obtain ⟨R2, s2, im⟩ := lock _ _ o h1 rfl ((h3 _).mpr rfl)
      exact hp _ _ fp1 R2 (.fl (.inl ⟨o, upd_same⟩) (h2.mono im)) s2
    | dct h1 h2 h3 =>
      cases h2 with
      | nil =>
        refine ⟨_, _, rfl, h1, rfl, fun o => ?_⟩
        obtain ⟨R2, s2, im⟩ := lock _ _ o h1 rfl ((h3 _).mpr rfl)
        exact hp _ _ fp1 R2 (.fd upd_same) s2
      | cons => exact hp.elim
/-- {} -/
@[simp] def gNewD (Γ : Env) : Res Ob Env := .ok (.dct []) Γ
end

/-! ### statements -/
section
variable {J : Jc} {m : List Bool}
theorem XxP.e {σ : St} {F : Fp} {H : Hp} {x : Ex} {Γ : Env} (h : XxP J m σ F H x Γ) : XxE J σ F H x Γ := fun c d H' fp' R e s => h c d σ H' fp' R (Kp.refl m σ) e s
theorem XxP.from {σ σ1 : St} {F F1 : Fp} {H H1 : Hp} {x : Ex} {Γ : Env} (h : XxP J m σ F H x Γ) (k : Kp m σ σ1) (s : Step F F1 H H1) : XxP J m σ1 F1 H1 x Γ := fun c d σ' H' fp' R k' e t => h c d σ' H' fp' R (k.trans k') e (s.trans t)
theorem FlP.from {σ σ1 : St} {F F1 : Fp} {H H1 : Hp} {D' : Ends} {fl : Fl} {Γ : Env} (h : FlP J m σ F H D' fl Γ) (k : Kp m σ σ1) (s : Step F F1 H H1) : FlP J m σ1 F1 H1 D' fl Γ := fun σ' H' fp' R k' => by
  have q := h σ' H' fp' R (k.trans k')
  cases fl with
  | nx => exact fun t => q (s.trans t)
  | bk => exact fun t => q (s.trans t)
  | ct => exact fun t => q (s.trans t)
  | rt o => exact fun v f r d t => q v f r d (s.trans t)
@[simp] def gPass (Γ : Env) : Res Fl Env := .ok .nx Γ
@[simp] def gBk (Γ : Env) : Res Fl Env := .ok .bk Γ
@[simp] def gCt (Γ : Env) : Res Fl Env := .ok .ct Γ
def gSeq (a b : G Fl) (Γ : Env) : Res Fl Env := (a Γ).bind fun fl Γ => match fl with
  | .nx => b Γ
  | fl => .ok fl Γ
def gRet (a : G Ob) (Γ : Env) : Res Fl Env := (a Γ).bind fun o Γ => .ok (.rt o) Γ
def gRetD (a : G D) (Γ : Env) : Res Fl Env := (a Γ).bind fun x Γ => .ok (.rt (.d x)) Γ
@[simp] def gRetN (Γ : Env) : Res Fl Env := .ok (.rt (.d .non)) Γ
def gIf (t : G Bool) (a b : G Fl) (Γ : Env) : Res Fl Env := (t Γ).bind fun c Γ => if c then a Γ else b Γ
@[simp] def putD (i : Nat) (x : D) (Γ : Env) : Option Env := if i < Γ.length then some (Γ.set i (some (.d x))) else none
def gAsg (i : Nat) (a : G D) (Γ : Env) : Res Fl Env := (a Γ).bind fun x Γ => if i < Γ.length then .ok .nx (Γ.set i (some (.d x))) else .bad
def gAsgO (i : Nat) (a : G Ob) (Γ : Env) : Res Fl Env := (a Γ).bind fun o Γ => if i < Γ.length then .ok .nx (Γ.set i (some o)) else .bad
def gAug (f : D → D → Option D) (i : Nat) (a : G D) (Γ : Env) : Res Fl Env := match Γ[i]? with
  | some (some (.d x)) => (a Γ).bind fun y Γ => match f x y with
    | some z => .ok .nx (Γ.set i (some (.d z)))
    | none => .bad
  | _ => .bad
def gDrop {α : Type} (a : G α) (Γ : Env) : Res Fl Env := (a Γ).bind fun _ Γ => .ok .nx Γ
variable {ts tu : TS} {ga gb : G Fl} {te : TE} {tt : TT} {gt : G Bool} {gd : G D} {go : G Ob}
theorem ss_pass : SS J m tNext gPass := fun σ H Γ fp R D hp => hp σ H fp R (Kp.refl _ _) (Step.refl _ _)
theorem ss_bk : SS J m tBreak gBk := fun σ H Γ fp R D hp => hp σ H fp R (Kp.refl _ _) (Step.refl _ _)
theorem ss_ct : SS J m tCont gCt := fun σ H Γ fp R D hp => hp σ H fp R (Kp.refl _ _) (Step.refl _ _)
theorem ss_seq (ha : SS J m ts ga) (hb : SS J m tu gb) : SS J m (tSeq ts tu) (gSeq ga gb) := fun σ H Γ fp R D hp =>
  ha σ H Γ fp R { D with nx := tu D } ((Post.bind hp).imp (fun fl Γ1 q σ' H' fp' R' k => by
    cases fl with
    | nx => exact fun s => hb σ' H' Γ1 fp' R' D (q.imp (fun _ _ z => z.from k s) fun _ _ z => z.from k s)
    | bk => exact fun s => q σ' H' fp' R' k s
    | ct => exact fun s => q σ' H' fp' R' k s
    | rt o => exact fun v f r d s => q σ' H' fp' R' k v f r d s) fun _ _ z => z)
theorem ss_ret (ha : EO J te go) : SS J m (tRet te) (gRet go) := fun σ H Γ fp R D hp =>
  ha σ H Γ fp R D.rt ((Post.bind hp).imp (fun o Γ1 q v H' fp' f R' r d s => q σ H' fp' R' (Kp.refl _ _) v f r d s) fun _ _ z => z.e)
theorem ss_retD (ha : ED J te gd) : SS J m (tRet te) (gRetD gd) := fun σ H Γ fp R D hp =>
  ha σ H Γ fp R D.rt ((Post.bind hp).imp (fun o Γ1 q v H' fp' R' r s => q σ H' fp' R' (Kp.refl _ _) v (fun _ => False) (.d r fun _ z => z) (fun _ z => z.elim) (s.sub fun b z => z.elim (fun z => z.elim) id)) fun _ _ z => z.e)
theorem ss_retN : SS J m tRetN gRetN := fun σ H Γ fp R D hp =>
  hp σ H fp R (Kp.refl _ _) .non (fun _ => False) (.d .non fun _ z => z) (fun _ z => z.elim) ((Step.refl _ _).sub fun b z => z.elim (fun z => z.elim) id)
theorem ss_if (ht : ET J tt gt) (ha : SS J m ts ga) (hb : SS J m tu gb) : SS J m (tIfS tt ts tu) (gIf gt ga gb) := fun σ H Γ fp R D hp =>
  ht σ H Γ fp R _ ((Post.bind hp).imp (fun c Γ1 q H' fp' R' s => by
    cases c with
    | true => exact ha σ H' Γ1 fp' R' D (q.imp (fun _ _ z => z.from (Kp.refl _ _) s) fun _ _ z => z.from (Kp.refl _ _) s)
    | false => exact hb σ H' Γ1 fp' R' D (q.imp (fun _ _ z => z.from (Kp.refl _ _) s) fun _ _ z => z.from (Kp.refl _ _) s)) fun _ _ z => z.e)
theorem kp_set {σ : St} {i : Nat} {v : V} (hm : m[i]? ≠ some true) : Kp m σ (σ.set i (some v)) := fun j hj => List.getElem?_set_ne (show i ≠ j from fun e => hm (e ▸ hj))
/-- a slot is stored -/
theorem put_slot {K : Frag} {H : Hp} {σ : St} {Γ : Env} {fp : Nat → Fp} (R : Rel K H σ Γ fp) {i : Nat} (hi : i < Γ.length) {o : Ob} {v : V} {f : Fp} (r : RepO K H o v f) (hd : ∀ b, f b → U fp b → False) :
    ∃ fp', Rel K H (σ.set i (some v)) (Γ.set i (some o)) fp' ∧ ∀ b, U fp' b → f b ∨ U fp b := by
  have hl : i < σ.length := by rw [R.len]; exact hi
  obtain ⟨h1, h2⟩ := R.put (σ' := σ.set i (some v)) (i := i) (by rw [List.length_set]) (List.getElem?_set_self hl) (fun j hj => List.getElem?_set_ne (Ne.symm hj)) r hd
  exact ⟨_, h1, h2⟩
theorem ss_asgO {i : Nat} (hm : m[i]? ≠ some true) (ha : EO J te go) : SS J m (tAsg te (gName i)) (gAsgO i go) := fun σ H Γ fp R D hp =>
  ha σ H Γ fp R _ ((Post.bind hp).imp (fun o Γ1 q v H' fp' f R' r d s => by
    by_cases c : i < Γ1.length
    · rw [if_pos c] at q
      obtain ⟨fp2, R2, u2⟩ := put_slot R' c r d
      exact q _ H' fp2 R2 (kp_set hm) (s.sub u2)
    · rw [if_neg c] at q; exact q.elim) fun _ _ z => z.e)
theorem ss_asg {i : Nat} (hm : m[i]? ≠ some true) (ha : ED J te gd) : SS J m (tAsg te (gName i)) (gAsg i gd) := fun σ H Γ fp R D hp =>
  ha σ H Γ fp R _ ((Post.bind hp).imp (fun o Γ1 q v H' fp' R' r s => by
    by_cases c : i < Γ1.length
    · rw [if_pos c] at q
      obtain ⟨fp2, R2, u2⟩ := put_slot R' c (RepO.d r (f := fun _ => False) fun _ z => z) fun _ z => z.elim
      exact q _ H' fp2 R2 (kp_set hm) (s.sub fun b z => (u2 b z).elim (fun z => z.elim) id)
    · rw [if_neg c] at q; exact q.elim) fun _ _ z => z.e)
theorem ss_drop (ha : ED J te gd) : SS J m (tDrop te) (gDrop gd) := fun σ H Γ fp R D hp =>
  ha σ H Γ fp R _ ((Post.bind hp).imp (fun o Γ1 q v H' fp' R' r s => q σ H' fp' R' (Kp.refl _ _) s) fun _ _ z => z.e)
theorem ss_dropO (ha : EO J te go) : SS J m (tDrop te) (gDrop go) := fun σ H Γ fp R D hp =>
  ha σ H Γ fp R _ ((Post.bind hp).imp (fun o Γ1 q v H' fp' f R' r d s => q σ H' fp' R' (Kp.refl _ _) (s.sub fun _ => .inr)) fun _ _ z => z.e)
/-- x op= e, of data, where the operator does what the plain one does -/
def IpD (K : Frag) (ti : TIp) (f : D → D → Option D) : Prop := ∀ (H : Hp) (v w : V) (x y z : D) (Q : VK), At K H v x → At K H w y → f x y = some z → (∀ u H', Ext H H' → At K H' u z → Q u H') → ti v w H Q
theorem ipI_D {K : Frag} {g : Int → Int → Int} : IpD K (ipI g) (oI0 fun a b => .int (g a b)) := by
  intro H v w x y z Q hx hy e k
  unfold oI0 at e
  split at e
  · cases hx; cases hy; cases e
    exact ⟨_, _, rfl, rfl, k _ H (Ext.refl H) (.int _)⟩
  · cases e
theorem ss_aug {i : Nat} {ti : TIp} {f : D → D → Option D} (hm : m[i]? ≠ some true) (hi : IpD J.K ti f) (ha : ED J te gd) : SS J m (tAug i te ti) (gAug f i gd) := fun σ H Γ fp R D hp => by
  unfold gAug at hp
  split at hp
  · rename_i x e
    obtain ⟨v, h1, h2⟩ := R.rep i _ e
    cases h2 with
    | d a n =>
      refine ⟨v, h1, ha σ H Γ fp R _ ((Post.bind hp).imp (fun y Γ1 q w H' fp' R' r s => ?_) fun _ _ z => z.e)⟩
      cases ez : f x y with
      | none => rw [ez] at q; exact q.elim
      | some z =>
        rw [ez] at q
        refine hi H' v w x y z _ (a.mono s.im) r ez fun u H2 ex az => ?_
        have hl : i < Γ1.length := by rw [← R'.len]; exact (List.getElem?_eq_some_iff.mp h1).1
        obtain ⟨fp2, R2, u2⟩ := put_slot (R'.ext ex) hl (RepO.d az (f := fun _ => False) fun _ z => z) fun _ z => z.elim
        exact q _ H2 fp2 R2 (kp_set hm) ((s.trans (Step.ofExt ex)).sub fun b z => (u2 b z).elim (fun z => z.elim) id)
  · exact hp.elim
/-! ### a slot's own list changes -/
theorem slot_list {K : Frag} {H : Hp} {σ : St} {Γ : Env} {fp : Nat → Fp} (R : Rel K H σ Γ fp) {i : Nat} {xs : List D} (e : Γ[i]? = some (some (.lst xs))) :
    ∃ p vs, σ[i]? = some (some (.ref p)) ∧ H p = some (.lst vs) ∧ Ats K H vs xs ∧ U fp p ∧ ∀ (ws : List V) (ys : List D), Ats K H ws ys → Rel K (upd H p (.lst ws)) σ (Γ.set i (some (.lst ys))) fp ∧ Step (U fp) (U fp) H (upd H p (.lst ws)) := by
  obtain ⟨v, h1, h2⟩ := R.rep i _ e
  cases h2 with
  | lst hp ha hf =>
    rename_i p vs
    have fpi : fp i p := (hf p).mpr rfl
    refine ⟨p, vs, h1, hp, ha, ⟨i, fpi⟩, fun ws ys hw => ?_⟩
    have im : Im H (upd H p (.lst ws)) := ⟨fun b xs e => by rw [upd_ne fun z => by rw [z, hp] at e; cases e]; exact e, fun b x y e => by rw [upd_ne fun z => by rw [z, hp] at e; cases e]; exact e, fun b y e => by rw [upd_ne fun z => by rw [z, hp] at e; cases e]; exact e, fun b y e => by rw [upd_ne fun z => by rw [z, hp] at e; cases e]; exact e⟩
    have hi : i < Γ.length := (List.getElem?_eq_some_iff.mp e).1
    refine ⟨⟨by rw [List.length_set]; exact R.len, fun j o' e' => ?_, R.dis, fun j b q => ?_⟩, ⟨im, fun b o h n => by rw [upd_ne (show b ≠ p from fun z => n ⟨i, z ▸ fpi⟩)]; exact h, fun b z => .inl z⟩⟩
    · by_cases hj : j = i
      · subst hj
        rw [List.getElem?_set_self hi] at e'
        cases e'
        exact ⟨_, h1, .lst upd_same (hw.mono im) hf⟩
      · rw [List.getElem?_set_ne (Ne.symm hj)] at e'
        obtain ⟨w, q1, q2⟩ := R.rep j o' e'
        exact ⟨w, q1, q2.frame im fun b u g h => by rw [upd_ne (show b ≠ p from fun z => hj (R.dis j i b g (z ▸ fpi)))]; exact h⟩
    · by_cases hj : j = i
      · subst hj; exact ⟨_, List.getElem?_set_self hi⟩
      · rw [List.getElem?_set_ne (Ne.symm hj)]
        exact R.emp j b q
@[simp] def lstAt (Γ : Env) (i : Nat) : Option (List D) := match Γ[i]? with
  | some (some (.lst xs)) => some xs
  | _ => none
theorem lstAt_some {Γ : Env} {i : Nat} {xs : List D} (h : lstAt Γ i = some xs) : Γ[i]? = some (some (.lst xs)) := by
  unfold lstAt at h
  split at h
  · cases h; assumption
  · cases h
def gApp (i : Nat) (a : G D) (Γ : Env) : Res Fl Env := match lstAt Γ i with
  | none => .bad
  | some _ => (a Γ).bind fun x Γ => match lstAt Γ i with
    | some xs => if small xs.length then .ok .nx (Γ.set i (some (.lst (xs ++ [x])))) else .bad
    | none => .bad
theorem small_lt {n : Nat} (h : small n = true) : n < sizeLine := Nat.lt_of_le_of_lt (of_decide_eq_true h) (by decide)
theorem ss_app {i : Nat} (ha : ED J te gd) : SS J m (tDrop (tBM J.K "list" rAppend (tVar i) (tCons te tNil))) (gApp i gd) := fun σ H Γ fp R D hp => by
  unfold gApp at hp
  cases e0 : lstAt Γ i with
  | none => rw [e0] at hp; exact hp.elim
  | some xs0 =>
    rw [e0] at hp
    obtain ⟨p, vs, h1, h2, h3, h4, _⟩ := slot_list R (lstAt_some e0)
    refine ⟨.ref p, h1, .inl ⟨rfl, vs, .inl (.inl h2)⟩, ha σ H Γ fp R _ ((Post.bind hp).imp (fun x Γ1 q v H' fp' R' r s => ?_) fun _ _ z => z.e)⟩
    cases e1 : lstAt Γ1 i with
    | none => rw [e1] at q; exact q.elim
    | some xs =>
      rw [e1] at q
      obtain ⟨p', ws, k1, k2, k3, k4, k5⟩ := slot_list R' (lstAt_some e1)
      rw [h1] at k1
      cases k1
      by_cases c : small xs.length = true
      · simp only [if_pos c] at q
        obtain ⟨R2, s2⟩ := k5 (ws ++ [v]) (xs ++ [x]) (k3.append (.cons r .nil))
        exact ⟨p, ws, v, rfl, rfl, k2, by rw [k3.length]; exact small_lt c, q σ _ fp' R2 (Kp.refl _ _) (s.trans s2)⟩
      · simp only [if_neg c] at q; exact q.elim
/-- xs.extend(operand) -/
def extOk : Src → Bool
  | .own _ => true
  | .dat (.tup _) => true
  | _ => false
@[simp] def extL (Γ : Env) (i : Nat) (s : Src) : Option (List D) := if extOk s then (lstAt Γ i).bind fun xs => (view Γ s).bind fun ys => if xs.length + ys.length ≤ sizeLine then some (xs ++ ys) else none else none
def gExt (i : Nat) (a : G Src) (Γ : Env) : Res Fl Env := match lstAt Γ i with
  | none => .bad
  | some _ => (a Γ).bind fun s Γ => match extL Γ i s with
    | some zs => .ok .nx (Γ.set i (some (.lst zs)))
    | none => .bad
theorem ss_ext {i : Nat} {gs : G Src} (ha : ES J te gs) : SS J m (tDrop (tBM J.K "list" (rExtA J.K) (tVar i) (tCons te tNil))) (gExt i gs) := fun σ H Γ fp R D' hp => by
  unfold gExt at hp
  cases e0 : lstAt Γ i with
  | none => rw [e0] at hp; exact hp.elim
  | some xs0 =>
    rw [e0] at hp
    obtain ⟨p, vs, h1, h2, h3, h4, _⟩ := slot_list R (lstAt_some e0)
    refine ⟨.ref p, h1, .inl ⟨rfl, vs, .inl (.inl h2)⟩, ha σ H Γ fp R _ ((Post.bind hp).imp (fun t Γ1 q v H' fp' f R' r d s => ?_) fun _ _ z => z.e)⟩
    cases e : extL Γ1 i t with
    | none => simp only [e] at q; exact q.elim
    | some zs =>
      simp only [e] at q
      unfold extL at e
      split at e
      · rename_i hok
        rw [Option.bind_eq_some_iff] at e
        obtain ⟨xs, e1, e⟩ := e
        rw [Option.bind_eq_some_iff] at e
        obtain ⟨ys, e2, e⟩ := e
        split at e
        · rename_i hz
          cases e
          obtain ⟨p', ws, k1, k2, k3, k4, k5⟩ := slot_list R' (lstAt_some e1)
          rw [h1] at k1
          cases k1
          cases t with
          | slot j => cases hok
          | dat y =>
            cases y with
            | tup us =>
              cases e2
              cases r.1 with
              | tup q1 q2 =>
                obtain ⟨R2, s2⟩ := k5 _ _ (k3.append q2)
                exact .inr ⟨p, _, ws, _, rfl, rfl, k2, q1, by rw [k3.length, q2.length]; exact hz, q σ _ fp' R2 (Kp.refl _ _) ((s.sub fun _ => .inr).trans s2)⟩
            | _ => cases hok
          | own us =>
            cases e2
            cases r with
            | lst q1 q2 q3 =>
              obtain ⟨R2, s2⟩ := k5 _ _ (k3.append q2)
              exact .inl ⟨p, _, ws, _, rfl, rfl, k2, q1, by rw [k3.length, q2.length]; exact hz, q σ _ fp' R2 (Kp.refl _ _) ((s.sub fun _ => .inr).trans s2)⟩
        · cases e
      · cases e
/-- xs.pop() -/
@[simp] def gPop (i : Nat) (Γ : Env) : Res D Env := match lstAt Γ i with
  | none => .bad
  | some xs => match xs[xs.length - 1]? with
    | some x => .ok x (Γ.set i (some (.lst xs.dropLast)))
    | none => .bad
theorem ed_pop (i : Nat) : ED J (tBM0 J.K "list" rPop (tVar i)) (gPop i) := fun σ H Γ fp R Q hp => by
  unfold gPop at hp
  cases e0 : lstAt Γ i with
  | none => rw [e0] at hp; exact hp.elim
  | some xs =>
    rw [e0] at hp
    obtain ⟨p, vs, h1, h2, h3, h4, h5⟩ := slot_list R (lstAt_some e0)
    cases e1 : xs[xs.length - 1]? with
    | none => simp only [e1] at hp; exact hp.elim
    | some x =>
      simp only [e1] at hp
      obtain ⟨v, q1, q2⟩ := h3.get e1
      obtain ⟨R2, s2⟩ := h5 _ _ h3.dropLast
      exact ⟨.ref p, h1, .inl ⟨rfl, vs, .inl (.inl h2)⟩, p, vs, v, rfl, rfl, h2, by rw [h3.length]; exact q1, hp v _ fp R2 (q2.mono s2.im) s2⟩
/-- xs[i] = e -/
def gSetIx (i : Nat) (a b : G D) (Γ : Env) : Res Fl Env := (a Γ).bind fun x Γ => match lstAt Γ i with
  | none => .bad
  | some _ => (b Γ).bind fun y Γ => match y, lstAt Γ i with
    | .int k, some xs => match ixN xs.length k with
      | some j => .ok .nx (Γ.set i (some (.lst (xs.set j x))))
      | none => .bad
    | _, _ => .bad
theorem ss_setIx {i : Nat} {tb : TE} {gi : G D} (ha : ED J te gd) (hb : ED J tb gi) : SS J m (tAsg te (gSub (tVar i) tb rSetL)) (gSetIx i gd gi) := fun σ H Γ fp R D hp =>
  ha σ H Γ fp R _ ((Post.bind hp).imp (fun x Γ1 q v H1 fp1 R1 r s => by
    cases e0 : lstAt Γ1 i with
    | none => rw [e0] at q; exact q.elim
    | some xs0 =>
      rw [e0] at q
      obtain ⟨p, vs, h1, h2, h3, h4, _⟩ := slot_list R1 (lstAt_some e0)
      refine ⟨.ref p, h1, hb σ H1 Γ1 fp1 R1 _ ((Post.bind q).imp (fun y Γ2 q w H2 fp2 R2 r2 s2 => ?_) fun _ _ z => XxE.from z.e s)⟩
      cases e1 : lstAt Γ2 i with
      | none => simp only [e1] at q; exact q.elim
      | some xs =>
        cases r2 with
        | int k =>
          simp only [e1] at q
          cases e2 : ixN xs.length k with
          | none => simp only [e2] at q; exact q.elim
          | some j =>
            simp only [e2] at q
            obtain ⟨p', ws, k1, k2, k3, k4, k5⟩ := slot_list R2 (lstAt_some e1)
            rw [h1] at k1
            cases k1
            obtain ⟨R3, s3⟩ := k5 _ _ (k3.set (r.mono s2.im) j)
            exact ⟨p, ws, k, j, rfl, rfl, k2, by rw [k3.length]; exact e2, q σ _ fp2 R3 (Kp.refl _ _) ((s.trans s2).trans s3)⟩
        | _ => exact q.elim) fun _ _ z => z.e)
end
end Gm

/-! Gm5: loops, comprehensions, calls, defs. -/
namespace Gm
open PySem PySem.Spec PyProof.Rows L2

/-! ### what is walked -/
/-- f is left alone -/
def Fr (f : Fp) (H H' : Hp) : Prop := Im H H' ∧ ∀ b u, f b → H b = some u → H' b = some u
theorem Fr.trans {f : Fp} {H H1 H2 : Hp} (a : Fr f H H1) (b : Fr f H1 H2) : Fr f H H2 := ⟨a.1.trans b.1, fun c u h e => b.2 c u h (a.2 c u h e)⟩
theorem Fr.refl (f : Fp) (H : Hp) : Fr f H H := ⟨Im.refl H, fun _ _ _ e => e⟩
theorem Fr.of {f F F' : Fp} {H H' : Hp} (s : Step F F' H H') (d : ∀ b, f b → F b → False) : Fr f H H' := ⟨s.im, fun b u h e => s.keep b u e fun z => d b h z⟩
def ItR (K : Frag) (H : Hp) (I : It) (ds : List D) (f : Fp) : Prop := ∀ H', Fr f H H' → ∀ i, (∀ x, ds[i]? = some x → I.go i H' ∧ ∀ v H'', I.yld i H' v H'' → Ext H' H'' ∧ At K H'' v x) ∧ (ds.length ≤ i → I.stop i H')
theorem ItR.mono {K : Frag} {H H1 : Hp} {I : It} {ds : List D} {f : Fp} (h : ItR K H I ds f) (r : Fr f H H1) : ItR K H1 I ds f := fun H' r' => h H' (r.trans r')
section
variable (J : Jc)
def OkI (σ : St) (F : Fp) (H : Hp) (R : It → Hp → Prop) (ds : List D) (Γ' : Env) : Prop := ∀ I H' fp' f, Rel J.K H' σ Γ' fp' → ItR J.K H' I ds f → (∀ b, f b → Own1 (H' b)) → (∀ b, f b → U fp' b → False) → Step F (fun b => f b ∨ U fp' b) H H' → R I H'
def EI (ti : TI) (g : G (List D)) : Prop := ∀ σ H Γ fp, Rel J.K H σ Γ fp → ∀ R, Post (g Γ) (OkI J σ (U fp) H R) (XxE J σ (U fp) H) → ti σ H R
end
/-- a text's signs -/
def signsD (z : Str) : List D := z.cps.toList.map fun c => .str ⟨#[c]⟩
/-- items of what is walked: a sequence, or a text's signs -/
def items (Γ : Env) : Src → Option (List D)
  | .dat (.str z) => some (signsD z)
  | .slot _ => none
  | s => view Γ s
def gItems (a : G Src) (Γ : Env) : Res (List D) Env := (a Γ).bind fun s Γ => ofOpt (items Γ s) Γ
def gRange1 (a : G D) (Γ : Env) : Res (List D) Env := (a Γ).bind fun x Γ => match x with
  | .int n => if -100000 ≤ n ∧ n ≤ 100000 then .ok ((List.range n.toNat).map fun (i : Nat) => D.int (i : Int)) Γ else .bad
  | _ => .bad
def enumD (xs : List D) : List D := (List.range xs.length).zip xs |>.map fun p => .tup [.int p.1, p.2]
def gEnum (a : G Src) (Γ : Env) : Res (List D) Env := (a Γ).bind fun s Γ => match s with
  | .slot _ => .bad
  | .dat (.tup _) => .bad
  | s => ofOpt ((view Γ s).map enumD) Γ
section
variable {K : Frag} {H : Hp}
theorem itr_list {p : Addr} {vs : List V} {xs : List D} {f : Fp} (hq : ∀ H', Fr f H H' → SqL K H' p vs) (a : Ats K H vs xs) : ItR K H (Itl K p) xs f := fun H' r i => by
  refine ⟨fun x e => ?_, fun e => ⟨vs, hq H' r, by rw [a.length]; exact e⟩⟩
  obtain ⟨v, h1, h2⟩ := a.get e
  refine ⟨⟨vs, v, hq H' r, h1⟩, fun w H'' y => ?_⟩
  obtain ⟨rfl, y⟩ := y
  have e2 := y vs (hq _ r)
  rw [h1] at e2
  cases e2
  exact ⟨Ext.refl _, h2.mono r.1⟩
theorem itr_tup {p : Addr} {vs : List V} {xs : List D} {f : Fp} (hq : SqT K H p vs) (a : Ats K H vs xs) : ItR K H (Itt K p) xs f := fun H' r i => by
  refine ⟨fun x e => ?_, fun e => ⟨vs, r.1.sqT hq, by rw [a.length]; exact e⟩⟩
  obtain ⟨v, h1, h2⟩ := a.get e
  refine ⟨⟨vs, v, r.1.sqT hq, h1⟩, fun w H'' y => ?_⟩
  obtain ⟨rfl, y⟩ := y
  have e2 := y vs (r.1.sqT hq)
  rw [h1] at e2
  cases e2
  exact ⟨Ext.refl _, h2.mono r.1⟩
theorem itr_str {z : Str} {f : Fp} : ItR K H (Its z) (signsD z) f := fun H' r i => by
  refine ⟨fun x e => ?_, fun e => ?_⟩
  · unfold signsD at e
    rw [List.getElem?_map, Option.map_eq_some_iff] at e
    obtain ⟨c, e, rfl⟩ := e
    rw [Array.getElem?_toList] at e
    refine ⟨(Array.getElem?_eq_some_iff.mp e).1, fun v H'' y => ?_⟩
    obtain ⟨rfl, c', e', rfl⟩ := y
    rw [e] at e'
    cases e'
    exact ⟨Ext.refl _, .str _⟩
  · unfold signsD at e
    rw [List.length_map, Array.length_toList] at e
    exact e
theorem itr_range {n : Nat} {f : Fp} : ItR K H (Itr 0 n) ((List.range n).map fun (i : Nat) => .int (i : Int)) f := fun H' r i => by
  refine ⟨fun x e => ?_, fun e => ?_⟩
  · rw [List.getElem?_map, Option.map_eq_some_iff] at e
    obtain ⟨c, e, rfl⟩ := e
    have hi : i < n := by
      have := (List.getElem?_eq_some_iff.mp e).1
      simpa using this
    rw [List.getElem?_range hi] at e
    cases e
    refine ⟨hi, fun v H'' y => ?_⟩
    obtain ⟨rfl, rfl⟩ := y
    rw [Int.zero_add]
    exact ⟨Ext.refl _, .int _⟩
  · rw [List.length_map, List.length_range] at e
    exact e
theorem enumD_get {xs : List D} {i : Nat} : (enumD xs)[i]? = (xs[i]?).map fun x => .tup [.int i, x] := by
  unfold enumD
  rw [List.getElem?_map]
  cases e : xs[i]? with
  | none =>
    have : xs.length ≤ i := List.getElem?_eq_none_iff.mp e
    rw [List.getElem?_eq_none (by simp; omega)]
    rfl
  | some x =>
    have hi : i < xs.length := (List.getElem?_eq_some_iff.mp e).1
    have hx : xs[i] = x := (List.getElem?_eq_some_iff.mp e).2
    rw [List.getElem?_eq_getElem (by simp; exact hi)]
    simp [hx]
theorem enumD_length {xs : List D} : (enumD xs).length = xs.length := by
  unfold enumD
  simp
theorem itr_enum {p : Addr} {vs : List V} {xs : List D} {f : Fp} (hq : ∀ H', Fr f H H' → SqL K H' p vs) (a : Ats K H vs xs) : ItR K H (Ite K p) (enumD xs) f := fun H' r i => by
  refine ⟨fun x e => ?_, fun e => ⟨vs, hq H' r, by rw [a.length]; rw [enumD_length] at e; exact e⟩⟩
  rw [enumD_get, Option.map_eq_some_iff] at e
  obtain ⟨x, e, rfl⟩ := e
  obtain ⟨v, h1, h2⟩ := a.get e
  refine ⟨⟨vs, v, hq H' r, h1⟩, fun w H'' y => ?_⟩
  obtain ⟨T, z, rfl, nT, rfl, y⟩ := y
  have e2 := y vs (hq _ r)
  rw [h1] at e2
  cases e2
  exact ⟨Ext.new nT, .tup (.inl (.inl upd_same)) (.cons (.int _) (.cons (h2.mono (r.1.trans (Ext.new nT).im)) .nil))⟩
end
section
variable {J : Jc} {te : TE} {gs : G Src}
/-- a sequence or a text, whatever it is -/
def iSeq (K : Frag) (te : TE) : TI := fun σ H R => te σ H fun x H1 => (∃ a, x = .ref a ∧ (∃ xs, SqL K H1 a xs) ∧ R (Itl K a) H1) ∨ (∃ a, x = .ref a ∧ (∃ xs, SqT K H1 a xs) ∧ R (Itt K a) H1) ∨ ∃ z, x = .str z ∧ R (Its z) H1
theorem pi_seq {X : Cx} {tg l : Expr} {tl : TE} (hl : PE X l tl) : PI X tg l (iSeq X.K tl) := by
  refine ⟨fun pins s σ H R I h => ?_⟩
  refine thn (hl.run pins s σ H _ I h) fun v s1 ⟨x, H1, I1, r1, q1⟩ => ?_
  -- each of the three rules, over a reading that has come to x
  have one : PE X l (fun _ H0 Q => H0 = H1 ∧ Q x H1) → True := fun _ => trivial
  rcases q1 with ⟨a, e, ⟨xs, hq⟩, q⟩ | ⟨a, e, ⟨xs, hq⟩, q⟩ | ⟨z, e, q⟩
  · subst e
    cases r1
    obtain ⟨its, rv, p, hz⟩ := I1.list hq
    refine wpAny_pyIter_list p.isList ?_
    refine ⟨s1.heap.objs.size, [s1.heap.objs.size], _, _, H1, rfl, I1.kept (t' := s1.toks) fun b o e => Heap.get?_push_of_some _ e, turn_list a _, ⟨_, Heap.get?_push_size _ rfl, rfl, rfl⟩, fun b hb => ?_, q⟩
    have e : b = s1.heap.objs.size := by simpa using hb
    subst e
    exact I1.fpOk (Nat.le_refl _) (I1.hok.fresh (Nat.le_refl _))
  · subst e
    cases r1
    obtain ⟨its, rv, p, hz⟩ := I1.tuple hq
    refine wpAny_pyIter_tuple (show s1.heap.IsTuple a its.toArray from p) ?_
    refine ⟨s1.heap.objs.size, [s1.heap.objs.size], _, _, H1, rfl, I1.kept (t' := s1.toks) fun b o e => Heap.get?_push_of_some _ e, turn_tuple a _, ⟨_, Heap.get?_push_size _ rfl, rfl, rfl⟩, fun b hb => ?_, q⟩
    have e : b = s1.heap.objs.size := by simpa using hb
    subst e
    exact I1.fpOk (Nat.le_refl _) (I1.hok.fresh (Nat.le_refl _))
  · subst e
    obtain ⟨t, rfl⟩ := r1
    cases ha : z.cps.all (· < 128)
    · exact wpAny_pyIter_wide ha (pi_one (tk := s1.toks) I1 _ (turn_str _ z t "str_iterator" (.inr rfl)) ⟨_, Heap.get?_push_size _ rfl, rfl, rfl⟩ q)
    · exact wpAny_pyIter_ascii ha (pi_one (tk := s1.toks) I1 _ (turn_str _ z t "str_ascii_iterator" (.inl rfl)) ⟨_, Heap.get?_push_size _ rfl, rfl, rfl⟩ q)
theorem ei_seq (ha : ES J te gs) : EI J (iSeq J.K te) (gItems gs) := fun σ H Γ fp R K hp =>
  ha.go R hp fun s Γ1 v H1 fp1 f hp R1 a1 d1 s1 => by
    obtain ⟨ds, e, q⟩ := hp.ofOpt
    cases s with
    | slot i => cases e
    | dat x =>
      have fe := a1.2
      have s1' : Step (U fp) (fun b => (fun _ => False) b ∨ U fp1 b) H H1 := s1.sub fun b z => z.elim (fun z => z.elim) .inr
      cases x with
      | str z =>
        cases e
        cases a1.1
        exact .inr (.inr ⟨z, rfl, q _ H1 fp1 (fun _ => False) R1 itr_str (fun _ z => z.elim) (fun _ z => z.elim) s1'⟩)
      | tup xs =>
        cases e
        cases a1.1 with
        | tup h1 h2 => exact .inr (.inl ⟨_, rfl, ⟨_, h1⟩, q _ H1 fp1 (fun _ => False) R1 (itr_tup h1 h2) (fun _ z => z.elim) (fun _ z => z.elim) s1'⟩)
      | fl xs =>
        cases e
        cases a1.1 with
        | fl h1 h2 => exact .inl ⟨_, rfl, ⟨_, h1.sq⟩, q _ H1 fp1 (fun _ => False) R1 (itr_list (fun H' r => (r.1.fz h1).sq) h2) (fun _ z => z.elim) (fun _ z => z.elim) s1'⟩
      | _ => cases e
    | own xs =>
      cases e
      have ho := SrcR.own a1
      cases a1 with
      | lst h1 h2 h3 => exact .inl ⟨_, rfl, ⟨_, .inl (.inl h1)⟩, q _ H1 fp1 f R1 (itr_list (fun H' r => .inl (.inl (r.2 _ _ ((h3 _).mpr rfl) h1))) h2) ho d1 s1⟩
theorem ei_range1 {ga : G D} (ha : ED J te ga) : EI J (iRng1 (tCons te tNil)) (gRange1 ga) := fun σ H Γ fp R K hp =>
  ha.go R hp fun x Γ1 v H1 fp1 hp R1 a1 s1 => by
    cases a1 with
    | int n =>
      by_cases c : -100000 ≤ n ∧ n ≤ 100000
      · simp only [if_pos c] at hp
        exact ⟨n, rfl, by omega, by omega, hp _ H1 fp1 (fun _ => False) R1 itr_range (fun _ z => z.elim) (fun _ z => z.elim) (s1.sub fun b z => z.elim (fun z => z.elim) id)⟩
      · simp only [if_neg c] at hp; exact hp.elim
    | _ => exact hp.elim
theorem ei_enum (ha : ES J te gs) : EI J (iEnum J.K (tCons te tNil)) (gEnum gs) := fun σ H Γ fp R K hp =>
  ha.go R hp fun s Γ1 v H1 fp1 f hp R1 a1 d1 s1 => by
    cases s with
    | slot i => exact hp.elim
    | dat x =>
      have s1' : Step (U fp) (fun b => (fun _ => False) b ∨ U fp1 b) H H1 := s1.sub fun b z => z.elim (fun z => z.elim) .inr
      cases x with
      | fl xs =>
        cases a1.1 with
        | fl h1 h2 => exact ⟨_, _, rfl, h1.sq, hp _ H1 fp1 (fun _ => False) R1 (itr_enum (fun H' r => (r.1.fz h1).sq) h2) (fun _ z => z.elim) (fun _ z => z.elim) s1'⟩
      | _ => exact hp.elim
    | own xs =>
      have ho := SrcR.own a1
      cases a1 with
      | lst h1 h2 h3 => exact ⟨_, _, rfl, .inl (.inl h1), hp _ H1 fp1 f R1 (itr_enum (fun H' r => .inl (.inl (r.2 _ _ ((h3 _).mpr rfl) h1))) h2) ho d1 s1⟩
end

/-! ### targets -/
section
variable (J : Jc)
/-- a target stores into the slots ts alone -/
def LT (tg : TG) (ts : List Nat) (h : D → Env → Option Env) : Prop := ∀ v x σ H Γ fp Γ', Rel J.K H σ Γ fp → At J.K H v x → h x Γ = some Γ' → ∀ Q : St → Hp → Prop,
  (∀ σ' fp', Rel J.K H σ' Γ' fp' → σ'.length = σ.length → (∀ j, j ∉ ts → σ'[j]? = σ[j]?) → (∀ b, U fp' b → U fp b) → Q σ' H) → tg v σ H Q
def LTs (tg : TGs) (ts : List Nat) (h : List D → Env → Option Env) : Prop := ∀ vs xs σ H Γ fp Γ', Rel J.K H σ Γ fp → Ats J.K H vs xs → h xs Γ = some Γ' → ∀ Q : St → Hp → Prop,
  (∀ σ' fp', Rel J.K H σ' Γ' fp' → σ'.length = σ.length → (∀ j, j ∉ ts → σ'[j]? = σ[j]?) → (∀ b, U fp' b → U fp b) → Q σ' H) → tg vs σ H Q
end
def hNil : List D → Env → Option Env
  | [], Γ => some Γ
  | _ :: _, _ => none
def hCons (h : D → Env → Option Env) (r : List D → Env → Option Env) : List D → Env → Option Env
  | x :: xs, Γ => (h x Γ).bind fun Γ => r xs Γ
  | [], _ => none
def hTup (n : Nat) (r : List D → Env → Option Env) : D → Env → Option Env
  | .tup xs, Γ => if xs.length = n then r xs Γ else none
  | _, _ => none
section
variable {J : Jc}
theorem lt_name (i : Nat) : LT J (gName i) [i] (putD i) := fun v x σ H Γ fp Γ' R a e Q k => by
  unfold putD at e
  split at e
  · rename_i hi
    cases e
    obtain ⟨fp2, R2, u2⟩ := put_slot R hi (RepO.d a (f := fun _ => False) fun _ z => z) fun _ z => z.elim
    exact k _ fp2 R2 (by rw [List.length_set]) (fun j hj => List.getElem?_set_ne (show i ≠ j from fun e => hj (by rw [e]; exact List.mem_singleton_self _))) fun b z => (u2 b z).elim (fun z => z.elim) id
  · cases e
theorem lts_nil : LTs J gNil [] hNil := fun vs xs σ H Γ fp Γ' R a e Q k => by
  cases a with
  | nil => cases e; exact ⟨rfl, k σ fp R rfl (fun _ _ => rfl) fun _ z => z⟩
  | cons => cases e
theorem lts_cons {t : TG} {u : TGs} {ts us : List Nat} {h : D → Env → Option Env} {r : List D → Env → Option Env} (ht : LT J t ts h) (hu : LTs J u us r) : LTs J (gCons t u) (ts ++ us) (hCons h r) := fun vs xs σ H Γ fp Γ' R a e Q k => by
  cases a with
  | nil => cases e
  | cons a1 a2 =>
    simp only [hCons] at e
    rw [Option.bind_eq_some_iff] at e
    obtain ⟨Γ1, e1, e2⟩ := e
    refine ⟨_, _, rfl, ht _ _ σ H Γ fp Γ1 R a1 e1 _ fun σ1 fp1 R1 l1 k1 u1 => ?_⟩
    refine hu _ _ σ1 H Γ1 fp1 Γ' R1 a2 e2 Q fun σ2 fp2 R2 l2 k2 u2 => ?_
    exact k σ2 fp2 R2 (l2.trans l1) (fun j hj => (k2 j fun z => hj (List.mem_append_right _ z)).trans (k1 j fun z => hj (List.mem_append_left _ z))) fun b z => u1 b (u2 b z)
theorem lt_tup {n : Nat} {t : TGs} {ts : List Nat} {r : List D → Env → Option Env} (ht : LTs J t ts r) : LT J (L2.gTup J.K n t) ts (hTup n r) := fun v x σ H Γ fp Γ' R a e Q k => by
  cases a with
  | tup h1 h2 =>
    simp only [hTup] at e
    split at e
    · rename_i hn
      exact ⟨_, _, rfl, h1, by rw [h2.length]; exact hn, ht _ _ σ H Γ fp Γ' R h2 e Q k⟩
    · cases e
  | _ => cases e
/-- a, b = e -/
def gAsgT (h : D → Env → Option Env) (a : G D) (Γ : Env) : Res Fl Env := (a Γ).bind fun x Γ => match h x Γ with
  | some Γ => .ok .nx Γ
  | none => .bad
theorem kp_of {m : List Bool} {ts : List Nat} {σ σ' : St} (hm : ∀ i ∈ ts, m[i]? ≠ some true) (h : ∀ j, j ∉ ts → σ'[j]? = σ[j]?) : Kp m σ σ' := fun i hi => h i fun z => hm i z hi
theorem ss_asgT {m : List Bool} {te : TE} {gd : G D} {tg : TG} {ts : List Nat} {h : D → Env → Option Env} (hm : ∀ i ∈ ts, m[i]? ≠ some true) (ht : LT J tg ts h) (ha : ED J te gd) : SS J m (tAsg te tg) (gAsgT h gd) := fun σ H Γ fp R D hp =>
  ha σ H Γ fp R _ ((Post.bind hp).imp (fun x Γ1 q v H' fp' R' r s => by
    cases e : h x Γ1 with
    | none => simp only [e] at q; exact q.elim
    | some Γ2 =>
      simp only [e] at q
      exact ht v x σ H' Γ1 fp' Γ2 R' r e _ fun σ2 fp2 R2 l2 k2 u2 => q σ2 H' fp2 R2 (kp_of hm k2) (s.sub u2)) fun _ _ z => z.e)
end

/-! ### for -/
def forR (h : D → Env → Option Env) (b : G Fl) : List D → G Fl
  | [], Γ => .ok .nx Γ
  | x :: xs, Γ => match h x Γ with
    | none => .bad
    | some Γ => (b Γ).bind fun fl Γ => match fl with
      | .nx => forR h b xs Γ
      | .ct => forR h b xs Γ
      | .bk => .ok .nx Γ
      | .rt o => .ok (.rt o) Γ
def gFor (it : G (List D)) (h : D → Env → Option Env) (b : G Fl) (Γ : Env) : Res Fl Env := (it Γ).bind fun ds Γ => forR h b ds Γ
def whileR (c : G Bool) (b : G Fl) : Nat → G Fl
  | 0, _ => .bad
  | n + 1, Γ => (c Γ).bind fun t Γ => if t then (b Γ).bind fun fl Γ => match fl with
      | .nx => whileR c b n Γ
      | .ct => whileR c b n Γ
      | .bk => .ok .nx Γ
      | .rt o => .ok (.rt o) Γ
    else .ok .nx Γ
section
variable {J : Jc} {m : List Bool}
theorem ss_for {ti : TI} {gi : G (List D)} {tg : TG} {ts : List Nat} {h : D → Env → Option Env} {tb : TS} {gb : G Fl} (hi : EI J ti gi) (hm : ∀ i ∈ ts, m[i]? ≠ some true) (ht : LT J tg ts h) (hb : SS J m tb gb) : SS J m (tFor ti tg tb) (gFor gi h gb) := fun σ H Γ fp R D hp =>
  hi σ H Γ fp R _ ((Post.bind hp).imp (fun ds Γ1 q I H1 fp1 f R1 it ho d1 s1 => by
    refine ⟨fun i k σ' H' => k = ds.length - i ∧ i ≤ ds.length ∧ ∃ Γ' fp', Rel J.K H' σ' Γ' fp' ∧ Kp m σ σ' ∧ (∀ b, f b → U fp' b → False) ∧ (∀ b, f b → Own1 (H' b)) ∧ Fr f H1 H' ∧ Step (U fp) (fun b => f b ∨ U fp' b) H H' ∧ Post (forR h gb (ds.drop i) Γ') (FlP J m σ (U fp) H D) (XxP J m σ (U fp) H),
      ⟨ds.length, by simp, Nat.zero_le _, Γ1, fp1, R1, Kp.refl _ _, d1, ho, Fr.refl _ _, s1, q⟩, ?_⟩
    rintro i k σ2 H2 ⟨rfl, hi, Γ2, fp2, R2, k2, d2, ho2, fr2, s2, q⟩
    by_cases hlt : i < ds.length
    · have hx : ds[i]? = some ds[i] := List.getElem?_eq_getElem hlt
      obtain ⟨hgo, hy⟩ := (it H2 fr2 i).1 _ hx
      rw [List.drop_eq_getElem_cons hlt] at q
      simp only [forR] at q
      cases e : h ds[i] Γ2 with
      | none => simp only [e] at q; exact q.elim
      | some Γ3 =>
        simp only [e] at q
        refine .inr ⟨hgo, fun σ' H' => i + 1 ≤ ds.length ∧ ∃ Γ' fp', Rel J.K H' σ' Γ' fp' ∧ Kp m σ σ' ∧ (∀ b, f b → U fp' b → False) ∧ (∀ b, f b → Own1 (H' b)) ∧ Fr f H1 H' ∧ Step (U fp) (fun b => f b ∨ U fp' b) H H' ∧ Post (forR h gb (ds.drop (i + 1)) Γ') (FlP J m σ (U fp) H D) (XxP J m σ (U fp) H), fun σ' H' n => ⟨ds.length - (i + 1), by omega, rfl, n.1, n.2⟩, fun v H3 y => ?_⟩
        obtain ⟨ex, av⟩ := hy v H3 y
        refine ht v _ σ2 H3 Γ2 fp2 Γ3 (R2.ext ex) av e _ fun σ4 fp4 R4 l4 k4 u4 => ?_
        have k4' : Kp m σ σ4 := k2.trans (kp_of hm k4)
        have d4 : ∀ b, f b → U fp4 b → False := fun b z1 z2 => d2 b z1 (u4 b z2)
        have ho4 : ∀ b, f b → Own1 (H3 b) := fun b z => by
          obtain ⟨u, hu⟩ := (ho2 b z).some
          rw [ex b u hu, ← hu]
          exact ho2 b z
        have s4 : Step (U fp) (fun b => f b ∨ U fp4 b) H H3 := (s2.trans (Step.ofExt ex)).sub fun b z => z.imp id (u4 b)
        have fr4 : Fr f H1 H3 := fr2.trans ⟨ex.im, fun b u _ e => ex b u e⟩
        refine hb σ4 H3 Γ3 fp4 R4 _ ((Post.bind q).imp (fun fl Γ5 q σ5 H5 fp5 R5 k5 => ?_) fun x Γ5 z => z.from k4' (s4.sub fun _ => .inr))
        have again : Step (U fp4) (U fp5) H3 H5 → Post (forR h gb (ds.drop (i + 1)) Γ5) (FlP J m σ (U fp) H D) (XxP J m σ (U fp) H) → i + 1 ≤ ds.length ∧ ∃ Γ' fp', Rel J.K H5 σ5 Γ' fp' ∧ Kp m σ σ5 ∧ (∀ b, f b → U fp' b → False) ∧ (∀ b, f b → Own1 (H5 b)) ∧ Fr f H1 H5 ∧ Step (U fp) (fun b => f b ∨ U fp' b) H H5 ∧ Post (forR h gb (ds.drop (i + 1)) Γ') (FlP J m σ (U fp) H D) (XxP J m σ (U fp) H) := fun s5 q => by
          refine ⟨hlt, Γ5, fp5, R5, k4'.trans k5, dis_step s5 ho4 d4, fun b z => ?_, fr4.trans (Fr.of s5 d4), s4.trans s5.wide, q⟩
          obtain ⟨u, hu⟩ := (ho4 b z).some
          rw [s5.keep b u hu fun z2 => d4 b z z2, ← hu]
          exact ho4 b z
        cases fl with
        | nx => exact fun s5 => again s5 q
        | ct => exact fun s5 => again s5 q
        | bk => exact fun s5 => q σ5 H5 fp5 R5 (k4'.trans k5) ((s4.sub fun _ => .inr).trans s5)
        | rt o => exact fun v f r d s5 => q σ5 H5 fp5 R5 (k4'.trans k5) v f r d ((s4.sub fun _ => .inr).trans s5)
    · have e : i = ds.length := by omega
      subst e
      refine .inl ⟨(it H2 fr2 _).2 (Nat.le_refl _), ?_⟩
      rw [List.drop_length] at q
      exact q σ2 H2 fp2 R2 k2 (s2.sub fun _ => .inr)) fun _ _ z => z.e)
theorem ss_while (n : Nat) {tc : TT} {gc : G Bool} {tb : TS} {gb : G Fl} (hc : ET J tc gc) (hb : SS J m tb gb) : SS J m (tWhile tc tb) (whileR gc gb n) := fun σ H Γ fp R D hp => by
  refine ⟨fun k σ' H' => ∃ Γ' fp', Rel J.K H' σ' Γ' fp' ∧ Kp m σ σ' ∧ Step (U fp) (U fp') H H' ∧ Post (whileR gc gb k Γ') (FlP J m σ (U fp) H D) (XxP J m σ (U fp) H), ⟨n, Γ, fp, R, Kp.refl _ _, Step.refl _ _, hp⟩, ?_⟩
  rintro k σ1 H1 ⟨Γ1, fp1, R1, k1, s1, q⟩
  cases k with
  | zero => exact q.elim
  | succ k =>
    simp only [whileR] at q
    refine hc σ1 H1 Γ1 fp1 R1 _ ((Post.bind q).imp (fun c Γ2 q H2 fp2 R2 s2 => ?_) fun x Γ2 z => (z.from k1 s1).e)
    have s2' := s1.trans s2
    cases c with
    | false => exact q σ1 H2 fp2 R2 k1 s2'
    | true =>
      rw [if_pos rfl] at q
      show if true = true then _ else _
      rw [if_pos rfl]
      refine ⟨fun σ' H' => ∃ Γ' fp', Rel J.K H' σ' Γ' fp' ∧ Kp m σ σ' ∧ Step (U fp) (U fp') H H' ∧ Post (whileR gc gb k Γ') (FlP J m σ (U fp) H D) (XxP J m σ (U fp) H), fun σ' H' z => ⟨k, Nat.lt_succ_self _, z⟩, ?_⟩
      refine hb σ1 H2 Γ2 fp2 R2 _ ((Post.bind q).imp (fun fl Γ3 q σ3 H3 fp3 R3 k3 => ?_) fun x Γ3 z => z.from k1 s2')
      cases fl with
      | nx => exact fun s3 => ⟨Γ3, fp3, R3, k1.trans k3, s2'.trans s3, q⟩
      | ct => exact fun s3 => ⟨Γ3, fp3, R3, k1.trans k3, s2'.trans s3, q⟩
      | bk => exact fun s3 => q σ3 H3 fp3 R3 (k1.trans k3) (s2'.trans s3)
      | rt o => exact fun v f r d s3 => q σ3 H3 fp3 R3 (k1.trans k3) v f r d (s2'.trans s3)
end
end Gm

/-! Gm6: comprehensions, calls, defs. -/
namespace Gm
open PySem PySem.Spec PyProof.Rows L2

/-! ### comprehensions -/
def wipeG (Γ : Env) : List Nat → Env
  | [] => Γ
  | v :: vs => (wipeG Γ vs).set v none
def lcR (h : D → Env → Option Env) (t : G Bool) (e : G D) (vs : List Nat) : List D → List D → G (List D)
  | [], acc, Γ => .ok acc Γ
  | x :: xs, acc, Γ => match h x Γ with
    | none => .bad
    | some Γ => match t Γ with
      | .ok b Γ => if b then (match e Γ with
          | .ok y Γ => if small acc.length then lcR h t e vs xs (acc ++ [y]) (wipeG Γ vs) else .bad
          | _ => .bad)
        else lcR h t e vs xs acc (wipeG Γ vs)
      | _ => .bad
def gLc (it : G (List D)) (h : D → Env → Option Env) (t : G Bool) (e : G D) (vs : List Nat) (Γ : Env) : Res Ob Env := (it Γ).bind fun ds Γ => match lcR h t e vs ds [] (wipeG Γ vs) with
  | .ok xs Γ => .ok (.lst xs) Γ
  | _ => .bad
@[simp] def gYes (Γ : Env) : Res Bool Env := .ok true Γ
theorem wipe_in {σ : St} {j : Nat} : ∀ {vs : List Nat}, j ∈ vs → j < σ.length → (wipe σ vs)[j]? = some none
  | v :: vs, h, hl => by
    unfold wipe
    by_cases e : v = j
    · subst e
      exact List.getElem?_set_self (by rw [wipe_length]; exact hl)
    · rw [List.getElem?_set_ne e]
      exact wipe_in ((List.mem_cons.mp h).resolve_left fun z => e z.symm) hl
theorem wipe_eq {σ σ' : St} {vs : List Nat} (hl : σ'.length = σ.length) (h : ∀ j, j ∉ vs → σ'[j]? = σ[j]?) : wipe σ' vs = wipe σ vs := by
  apply List.ext_getElem?
  intro j
  by_cases hj : j ∈ vs
  · by_cases hb : j < σ.length
    · rw [wipe_in hj hb, wipe_in hj (hl ▸ hb)]
    · rw [List.getElem?_eq_none (by rw [wipe_length]; omega), List.getElem?_eq_none (by rw [wipe_length]; omega)]
  · rw [wipe_out hj, wipe_out hj]
    exact h j hj
section
variable {K : Frag} {H : Hp} {σ : St} {Γ : Env} {fp : Nat → Fp}
theorem Rel.wipe (R : Rel K H σ Γ fp) : ∀ vs : List Nat, ∃ fp', Rel K H (L2.wipe σ vs) (wipeG Γ vs) fp' ∧ ∀ b, U fp' b → U fp b
  | [] => ⟨fp, R, fun _ z => z⟩
  | v :: vs => by
    obtain ⟨fp1, R1, u1⟩ := R.wipe vs
    obtain ⟨R2, u2⟩ := R1.drop (σ' := L2.wipe σ (v :: vs)) (i := v) (by show ((L2.wipe σ vs).set v none).length = _; rw [List.length_set]) fun j hj => by
      show ((L2.wipe σ vs).set v none)[j]? = _
      exact List.getElem?_set_ne (Ne.symm hj)
    exact ⟨_, R2, fun b z => u1 b (u2 b z)⟩
theorem Rel.unwipe {vs : List Nat} (R : Rel K H (L2.wipe σ vs) Γ fp) : Rel K H σ Γ fp :=
  ⟨by rw [← R.len, wipe_length], fun i o e => let ⟨v, h, r⟩ := R.rep i o e; ⟨v, (wipe_some h).1, r⟩, R.dis, R.emp⟩
end
/-- nothing may leave -/
def Jc.none (J : Jc) : Jc := ⟨J.K, J.mg, fun _ _ _ _ => False⟩
section
variable {J : Jc}
theorem et_yes : ET J tYes gYes := fun σ H Γ fp R Q hp => hp H fp R (Step.refl _ _)
theorem eo_lc {ti : TI} {gi : G (List D)} {tg : TG} {ts vs : List Nat} {h : D → Env → Option Env} {tt : TT} {gt : G Bool} {te : TE} {ge : G D} (hi : EI J ti gi) (hs : ∀ j ∈ ts, j ∈ vs) (ht : LT J.none tg ts h) (htt : ET J.none tt gt) (he : ED J.none te ge) :
    EO J (tLc ti tg tt te vs) (gLc gi h gt ge vs) := fun σ H Γ fp R Q hp =>
  hi σ H Γ fp R _ ((Post.bind hp).imp (fun ds Γ1 q I H1 fp1 f R1 it ho d1 s1 => by
    intro L nL
    cases er : lcR h gt ge vs ds [] (wipeG Γ1 vs) with
    | ex x Γ2 => simp only [er] at q; exact q.elim
    | bad => simp only [er] at q; exact q.elim
    | ok xs Γf =>
      simp only [er] at q
      obtain ⟨fp2, R2, u2⟩ := R1.wipe vs
      have nfL : ¬ f L := fun z => (ho L z).ne_none nL
      refine ⟨fun i k H' => k = ds.length - i ∧ i ≤ ds.length ∧ ∃ acc accD Γ' fp', H' L = some (.lst acc) ∧ Ats J.K H' acc accD ∧ Rel J.K H' (L2.wipe σ vs) Γ' fp' ∧ (∀ b, (b = L ∨ f b) → U fp' b → False) ∧ (∀ b, f b → Own1 (H' b)) ∧ Fr f H1 H' ∧ Step (U fp) (fun b => (b = L ∨ f b) ∨ U fp' b) H H' ∧ lcR h gt ge vs (ds.drop i) accD Γ' = .ok xs Γf,
        ⟨ds.length, by simp, Nat.zero_le _, [], [], _, fp2, upd_same, .nil, R2.ext (Ext.new nL), fun b z1 z2 => ?_, fun b z => ?_, ⟨(Ext.new nL).im, fun b u _ e => Ext.new nL b u e⟩, ?_, er⟩, ?_⟩
      · rcases z1 with z1 | z1
        · exact R1.nofp nL (z1 ▸ u2 b z2)
        · exact d1 b z1 (u2 b z2)
      · obtain ⟨u, hu⟩ := (ho b z).some
        rw [Ext.new nL b u hu, ← hu]
        exact ho b z
      · refine ⟨s1.im.trans (Ext.new nL).im, fun b o e n => Ext.new nL b o (s1.keep b o e n), fun b z => ?_⟩
        rcases z with (z | z) | z
        · subst z
          cases e : H b with
          | none => exact .inr rfl
          | some o =>
            by_cases n : U fp b
            · exact .inl n
            · rw [s1.keep b o e n] at nL; cases nL
        · exact s1.fresh b (.inl z)
        · exact s1.fresh b (.inr (u2 b z))
      rintro i k H2 ⟨rfl, hi, acc, accD, Γ2, fp3, hL, ha, R3, d3, ho3, fr3, s3, er⟩
      by_cases hlt : i < ds.length
      · have hx : ds[i]? = some ds[i] := List.getElem?_eq_getElem hlt
        obtain ⟨hgo, hy⟩ := (it H2 fr3 i).1 _ hx
        rw [List.drop_eq_getElem_cons hlt] at er
        simp only [lcR] at er
        cases e : h ds[i] Γ2 with
        | none => simp only [e] at er; cases er
        | some Γ3 =>
          simp only [e] at er
          refine .inr ⟨hgo, fun H' => i + 1 ≤ ds.length ∧ ∃ acc accD Γ' fp', H' L = some (.lst acc) ∧ Ats J.K H' acc accD ∧ Rel J.K H' (L2.wipe σ vs) Γ' fp' ∧ (∀ b, (b = L ∨ f b) → U fp' b → False) ∧ (∀ b, f b → Own1 (H' b)) ∧ Fr f H1 H' ∧ Step (U fp) (fun b => (b = L ∨ f b) ∨ U fp' b) H H' ∧ lcR h gt ge vs (ds.drop (i + 1)) accD Γ' = .ok xs Γf, fun H' n => ⟨ds.length - (i + 1), by omega, rfl, n.1, n.2⟩, fun v H3 y => ?_⟩
          obtain ⟨ex, av⟩ := hy v H3 y
          refine ht v _ (L2.wipe σ vs) H3 Γ2 fp3 Γ3 (R3.ext ex) av e _ fun σ4 fp4 R4 l4 k4 u4 => ?_
          have w4 : L2.wipe σ4 vs = L2.wipe σ vs := by
            have e1 : L2.wipe σ4 vs = L2.wipe (L2.wipe σ vs) vs := wipe_eq l4 fun j hj => k4 j fun z => hj (hs j z)
            rw [e1]
            exact wipe_eq (wipe_length _ _) fun j hj => wipe_out hj
          refine ⟨w4, ?_⟩
          have hL3 : H3 L = some (.lst acc) := ex L _ hL
          have d4 : ∀ b, (b = L ∨ f b) → U fp4 b → False := fun b z1 z2 => d3 b z1 (u4 b z2)
          have own : ∀ {H : Hp} {acc : List V}, H L = some (.lst acc) → (∀ b, f b → Own1 (H b)) → ∀ b, (b = L ∨ f b) → Own1 (H b) := fun {H acc} e hf b z => z.elim (fun z => by rw [z, e]; trivial) fun z => hf b z
          have ho4 : ∀ b, f b → Own1 (H3 b) := fun b z => by
            obtain ⟨u, hu⟩ := (ho3 b z).some
            rw [ex b u hu, ← hu]
            exact ho3 b z
          have s4 : Step (U fp) (fun b => (b = L ∨ f b) ∨ U fp4 b) H H3 := (s3.trans (Step.ofExt ex)).sub fun b z => z.imp id (u4 b)
          have fr4 : Fr f H1 H3 := fr3.trans ⟨ex.im, fun b u _ e => ex b u e⟩
          have a4 := ha.mono ex.im
          -- behind a step that leaves L and f alone
          have go : ∀ {H5 : Hp} {fp5 : Nat → Fp}, Step (U fp4) (U fp5) H3 H5 → H5 L = some (.lst acc) ∧ (∀ b, (b = L ∨ f b) → U fp5 b → False) ∧ (∀ b, f b → Own1 (H5 b)) ∧ Fr f H1 H5 ∧ Step (U fp) (fun b => (b = L ∨ f b) ∨ U fp5 b) H H5 := fun {H5 fp5} s5 =>
            ⟨s5.keep L _ hL3 fun z => d4 L (.inl rfl) z, dis_step s5 (own hL3 ho4) d4, fun b z => by
              obtain ⟨u, hu⟩ := (ho4 b z).some
              rw [s5.keep b u hu fun z2 => d4 b (.inr z) z2, ← hu]
              exact ho4 b z, fr4.trans (Fr.of s5 fun b z => d4 b (.inr z)), s4.trans s5.wide⟩
          refine htt σ4 H3 Γ3 fp4 R4 _ ?_
          cases et : gt Γ3 with
          | ex x Γ4 => simp only [et] at er; cases er
          | bad => simp only [et] at er; cases er
          | ok b Γ4 =>
            simp only [et] at er
            intro H5 fp5 R5 s5
            cases b with
            | false =>
              simp only [Bool.false_eq_true, if_false] at er
              show if false = true then _ else _
              rw [if_neg Bool.false_ne_true]
              obtain ⟨g1, g2, g3, g4, g5⟩ := go s5
              obtain ⟨fp6, R6, u6⟩ := R5.wipe vs
              rw [w4] at R6
              exact ⟨hlt, acc, accD, _, fp6, g1, a4.mono s5.im, R6, fun b z1 z2 => g2 b z1 (u6 b z2), g3, g4, g5.sub fun b z => z.imp id (u6 b), er⟩
            | true =>
              simp only [if_true] at er
              show if true = true then _ else _
              rw [if_pos rfl]
              refine he σ4 H5 Γ4 fp5 R5 _ ?_
              cases ee : ge Γ4 with
              | ex x Γ5 => simp only [ee] at er; cases er
              | bad => simp only [ee] at er; cases er
              | ok y Γ5 =>
                simp only [ee] at er
                by_cases c : small accD.length = true
                · rw [if_pos c] at er
                  intro w H6 fp6 R6 aw s6
                  obtain ⟨g1, g2, g3, g4, g5⟩ := go (s5.trans s6)
                  have im : Im H6 (upd H6 L (.lst (acc ++ [w]))) := ⟨fun b xs e => by rw [upd_ne (show b ≠ L from fun z => by rw [z, g1] at e; cases e)]; exact e, fun b x y e => by rw [upd_ne (show b ≠ L from fun z => by rw [z, g1] at e; cases e)]; exact e, fun b y e => by rw [upd_ne (show b ≠ L from fun z => by rw [z, g1] at e; cases e)]; exact e, fun b y e => by rw [upd_ne (show b ≠ L from fun z => by rw [z, g1] at e; cases e)]; exact e⟩
                  have R7 : Rel J.K (upd H6 L (.lst (acc ++ [w]))) σ4 Γ5 fp6 := R6.frame im fun b u hb e => by rw [upd_ne (show b ≠ L from fun z => g2 L (.inl rfl) (z ▸ hb))]; exact e
                  obtain ⟨fp8, R8, u8⟩ := R7.wipe vs
                  rw [w4] at R8
                  have kf : ∀ b, f b → (upd H6 L (.lst (acc ++ [w]))) b = H6 b := fun b z => upd_ne (show b ≠ L from fun e => nfL (e ▸ z))
                  refine ⟨acc, g1, by rw [ha.length]; exact small_lt c, hlt, acc ++ [w], accD ++ [y], _, fp8, upd_same, ((a4.mono (s5.im.trans s6.im)).append (.cons aw .nil)).mono im, R8, fun b z1 z2 => g2 b z1 (u8 b z2), fun b z => by rw [kf b z]; exact g3 b z, g4.trans ⟨im, fun b u z e => by rw [kf b z]; exact e⟩, ?_, er⟩
                  refine ⟨g5.im.trans im, fun b o e n => ?_, fun b z => g5.fresh b (z.imp id (u8 b))⟩
                  rw [upd_ne (show b ≠ L from fun z => ?_)]
                  · exact g5.keep b o e n
                  · rcases g5.fresh L (.inl (.inl rfl)) with q2 | q2
                    · exact n (z ▸ q2)
                    · rw [z, q2] at e; cases e
                · rw [if_neg c] at er; cases er
      · have e : i = ds.length := by omega
        subst e
        rw [List.drop_length] at er
        simp only [lcR] at er
        cases er
        refine .inl ⟨(it H2 fr3 _).2 (Nat.le_refl _), ?_⟩
        refine q (.ref L) H2 fp3 (fun b => b = L) R3.unwipe (.lst hL ha fun _ => Iff.rfl) (fun b z1 z2 => d3 b (.inl z1) z2) (s3.sub fun b z => z.imp .inl id)) fun _ _ z => z)
end

/-! ### arguments of calls -/
inductive Arg where
  | dat (x : D) | slot (i : Nat) | own (o : Ob) | itm (i j : Nat) (xs : List Ob)
def ArgR (K : Frag) (H : Hp) (σ : St) : Arg → V → Fp → Prop
  | .dat x, v, f => At K H v x ∧ ∀ b, ¬ f b
  | .slot i, v, f => σ[i]? = some (some v) ∧ ∀ b, ¬ f b
  | .own o, v, f => RepO K H o v f
  | .itm i j xs, v, f => ∃ p vs g, σ[i]? = some (some (.ref p)) ∧ H p = some (.lst vs) ∧ RepOs K H xs vs g ∧ ¬ g p ∧ (∀ b, f b ↔ b = p ∨ g b) ∧ vs[j]? = some v
inductive ArgsR (K : Frag) (H : Hp) (σ : St) : List Arg → List V → Fp → Prop
  | nil {f : Fp} : (∀ b, ¬ f b) → ArgsR K H σ [] [] f
  | cons {a : Arg} {as : List Arg} {v : V} {vs : List V} {f g h : Fp} : ArgR K H σ a v f → ArgsR K H σ as vs g → (∀ b, f b → g b → False) → (∀ b, h b ↔ f b ∨ g b) → ArgsR K H σ (a :: as) (v :: vs) h
section
variable (J : Jc)
def OkC (σ : St) (F : Fp) (H : Hp) (Q : List V → Hp → Prop) (as : List Arg) (Γ' : Env) : Prop := ∀ vs H' fp' f, Rel J.K H' σ Γ' fp' → ArgsR J.K H' σ as vs f → (∀ b, f b → U fp' b → False) → Step F (fun b => f b ∨ U fp' b) H H' → Q vs H'
def OkC1 (σ : St) (F : Fp) (H : Hp) (Q : VK) (a : Arg) (Γ' : Env) : Prop := ∀ v H' fp' f, Rel J.K H' σ Γ' fp' → ArgR J.K H' σ a v f → (∀ b, f b → U fp' b → False) → Step F (fun b => f b ∨ U fp' b) H H' → Q v H'
def EC (ta : TA) (g : G (List Arg)) : Prop := ∀ σ H Γ fp, Rel J.K H σ Γ fp → ∀ Q : List V → Hp → Prop, Post (g Γ) (OkC J σ (U fp) H Q) (XxE J σ (U fp) H) → ta σ H Q
def EC1 (te : TE) (g : G Arg) : Prop := ∀ σ H Γ fp, Rel J.K H σ Γ fp → ∀ Q : VK, Post (g Γ) (OkC1 J σ (U fp) H Q) (XxE J σ (U fp) H) → te σ H Q
end
@[simp] def gcNil (Γ : Env) : Res (List Arg) Env := .ok [] Γ
def gcCons (a : G Arg) (r : G (List Arg)) (Γ : Env) : Res (List Arg) Env := (a Γ).bind fun x Γ => (r Γ).bind fun xs Γ => .ok (x :: xs) Γ
def gcD (a : G D) (Γ : Env) : Res Arg Env := (a Γ).bind fun x Γ => .ok (.dat x) Γ
def gcO (a : G Ob) (Γ : Env) : Res Arg Env := (a Γ).bind fun x Γ => .ok (.own x) Γ
@[simp] def gcS (i : Nat) (Γ : Env) : Res Arg Env := match Γ[i]? with
  | some (some _) => .ok (.slot i) Γ
  | _ => .bad
section
variable {K : Frag} {H H' : Hp} {σ : St} {Γ : Env} {fp fp' : Nat → Fp}
theorem ArgR.own : ∀ {a : Arg} {v : V} {f : Fp}, ArgR K H σ a v f → ∀ b, f b → Own1 (H b)
  | .dat _, _, _, h, b, z => (h.2 b z).elim
  | .slot _, _, _, h, b, z => (h.2 b z).elim
  | .own _, _, _, h, b, z => RepO.own h b z
  | .itm _ _ _, _, _, ⟨_, _, _, _, h1, h2, n, e, _⟩, b, z => RepO.own (.obs h1 h2 n e) b z
theorem ArgR.frame : ∀ {a : Arg} {v : V} {f : Fp}, ArgR K H σ a v f → Im H H' → (∀ b u, f b → H b = some u → H' b = some u) → ArgR K H' σ a v f
  | .dat _, _, _, h, m, _ => ⟨h.1.mono m, h.2⟩
  | .slot _, _, _, h, _, _ => h
  | .own _, _, _, h, m, k => RepO.frame m h k
  | .itm _ _ _, _, _, ⟨p, vs, g, h0, h1, h2, n, e, h3⟩, m, k => ⟨p, vs, g, h0, k _ _ ((e _).mpr (.inl rfl)) h1, h2.frame m fun b u z => k b u ((e b).mpr (.inr z)), n, e, h3⟩
theorem ArgsR.length : ∀ {as : List Arg} {vs : List V} {f : Fp}, ArgsR K H σ as vs f → as.length = vs.length
  | _, _, _, .nil _ => rfl
  | _, _, _, .cons _ r _ _ => congrArg (· + 1) r.length
end
section
variable {J : Jc} {te : TE} {ta : TA}
theorem ec_nil : EC J tNil gcNil := fun σ H Γ fp R Q hp => hp [] H fp (fun _ => False) R (.nil fun _ z => z) (fun _ z => z.elim) ((Step.refl _ _).sub fun b z => z.elim (fun z => z.elim) id)
theorem ec1_d {g : G D} (h : ED J te g) : EC1 J te (gcD g) := fun σ H Γ fp R Q hp =>
  h.go R hp fun x Γ1 v H1 fp1 hp R1 a1 s1 => hp v H1 fp1 (fun _ => False) R1 ⟨a1, fun _ z => z⟩ (fun _ z => z.elim) (s1.sub fun b z => z.elim (fun z => z.elim) id)
theorem ec1_o {g : G Ob} (h : EO J te g) : EC1 J te (gcO g) := fun σ H Γ fp R Q hp =>
  h.go R hp fun x Γ1 v H1 fp1 f hp R1 a1 d1 s1 => hp v H1 fp1 f R1 a1 d1 s1
theorem ec1_s (i : Nat) : EC1 J (tVar i) (gcS i) := fun σ H Γ fp R Q hp => by
  unfold gcS at hp
  split at hp
  · rename_i x e
    obtain ⟨v, h1, h2⟩ := R.rep i _ e
    exact ⟨v, h1, hp v H fp (fun _ => False) R ⟨h1, fun _ z => z⟩ (fun _ z => z.elim) ((Step.refl _ _).sub fun b z => z.elim (fun z => z.elim) id)⟩
  · exact hp.elim
theorem ec_cons {g : G Arg} {r : G (List Arg)} (h : EC1 J te g) (hr : EC J ta r) : EC J (tCons te ta) (gcCons g r) := fun σ H Γ fp R Q hp =>
  h σ H Γ fp R _ ((Post.bind hp).imp (fun x Γ1 q v H1 fp1 f R1 a1 d1 s1 =>
    hr σ H1 Γ1 fp1 R1 _ ((Post.bind q).imp (fun xs Γ2 q vs H2 fp2 g R2 a2 d2 s2 => by
      have s2' : Step (U fp1) (U fp2) H1 H2 := s2.sub fun _ => .inr
      refine q (v :: vs) H2 fp2 (fun b => f b ∨ g b) R2 (.cons (a1.frame s2.im fun b u z e => s2.keep b u e fun z2 => d1 b z z2) a2 (fun b z1 z2 => ?_) fun _ => Iff.rfl) (fun b z1 z2 => z1.elim (fun z => dis_step s2' a1.own d1 b z z2) fun z => d2 b z z2) ((s1.trans s2.wide).sub fun b z => ?_)
      · rcases s2.fresh b (.inl z2) with z | z
        · exact d1 b z1 z
        · exact (a1.own b z1).ne_none z
      · rcases z with (z | z) | z
        · exact .inl z
        · exact .inr (.inl z)
        · exact .inr (.inr z)) fun _ _ z => z.from (s1.sub fun _ => .inr))) fun _ _ z => z)
end
def takeA : List Arg → Env → Option (List Ob × Env)
  | [], Γ => some ([], Γ)
  | .dat x :: as, Γ => (takeA as Γ).map fun p => (.d x :: p.1, p.2)
  | .own o :: as, Γ => (takeA as Γ).map fun p => (o :: p.1, p.2)
  | .slot i :: as, Γ => match Γ[i]? with
    | some (some o) => (takeA as (Γ.set i none)).map fun p => (o :: p.1, p.2)
    | _ => none
  | .itm i j xs :: as, Γ => match Γ[i]?, xs[j]? with
    | some none, some x => match takeA as (Γ.set i (some (.obs (xs.set j .hol)))) with
      | some p => match p.2[i]? with
        | some (some (.obs _)) => some (x :: p.1, p.2)
        | _ => none
      | none => none
    | _, _ => none
def putA : List Arg → List Ob → Env → Env
  | .slot i :: as, o :: os, Γ => (putA as os Γ).set i (some o)
  | .itm i j _ :: as, o :: os, Γ => match (putA as os Γ)[i]? with
    | some (some (.obs ys)) => (putA as os Γ).set i (some (.obs (ys.set j o)))
    | _ => putA as os Γ
  | _ :: as, _ :: os, Γ => putA as os Γ
  | _, _, Γ => Γ
abbrev Mf := List Ob → Res Ob (List Ob)
def gCall (mf : Mf) (ga : G (List Arg)) (Γ : Env) : Res Ob Env := (ga Γ).bind fun as Γ => match takeA as Γ with
  | none => .bad
  | some p => match mf p.1 with
    | .ok r os => .ok r (putA as os p.2)
    | .ex x os => .ex x (putA as os p.2)
    | .bad => .bad
abbrev Reps (K : Frag) (H : Hp) (vs : List V) (os : List Ob) (fs : Nat → Fp) : Prop := Rel K H (vs.map some) (os.map some) fs
/-- a def's promise by its mirror -/
def SpM (K : Frag) (mg : Str → Option Value) (mf : Mf) : Sp := fun vs H Q E => ∃ os fs, Reps K H vs os fs ∧ Post (mf os)
  (fun r os' => ∀ v H' fs' f, Reps K H' vs os' fs' → RepO K H' r v f → (∀ b, f b → U fs' b → False) → Step (U fs) (fun b => f b ∨ U fs' b) H H' → Q v H')
  (fun x os' => ∀ cls d H' fs', Reps K H' vs os' fs' → ExR K mg x cls d H' → Step (U fs) (U fs') H H' → E cls d H')
section
variable {K : Frag} {H : Hp}
theorem Reps.nil : Reps K H [] [] fun _ _ => False := ⟨rfl, fun i o e => by simp at e, fun _ _ _ z => z.elim, fun _ _ z => z.elim⟩
theorem Reps.cons {v : V} {o : Ob} {f : Fp} {vs : List V} {os : List Ob} {fs : Nat → Fp} (h : RepO K H o v f) (r : Reps K H vs os fs) (d : ∀ b, f b → U fs b → False) :
    Reps K H (v :: vs) (o :: os) (fun i => match i with | 0 => f | i + 1 => fs i) := by
  refine ⟨by simpa using r.len, fun i o' e => ?_, fun i j b z1 z2 => ?_, fun i b z => ?_⟩
  · cases i with
    | zero => simp at e; subst e; exact ⟨v, rfl, h⟩
    | succ i =>
      obtain ⟨w, h1, h2⟩ := r.rep i o' (by simpa using e)
      exact ⟨w, by simpa using h1, h2⟩
  · cases i with
    | zero => cases j with
      | zero => rfl
      | succ j => exact (d b z1 ⟨j, z2⟩).elim
    | succ i => cases j with
      | zero => exact (d b z2 ⟨i, z1⟩).elim
      | succ j => exact congrArg (· + 1) (r.dis i j b z1 z2)
  · cases i with
    | zero => exact ⟨o, rfl⟩
    | succ i =>
      obtain ⟨o', e⟩ := r.emp i b z
      exact ⟨o', by simpa using e⟩
theorem Reps.cons_U {f : Fp} {fs : Nat → Fp} {b : Addr} : U (fun i => match i with | 0 => f | i + 1 => fs i) b ↔ f b ∨ U fs b := by
  constructor
  · rintro ⟨i, z⟩
    cases i with
    | zero => exact .inl z
    | succ i => exact .inr ⟨i, z⟩
  · rintro (z | ⟨i, z⟩)
    · exact ⟨0, z⟩
    · exact ⟨i + 1, z⟩
theorem Reps.uncons {v : V} {o : Ob} {vs : List V} {os : List Ob} {fs : Nat → Fp} (r : Reps K H (v :: vs) (o :: os) fs) : RepO K H o v (fs 0) ∧ Reps K H vs os (fun i => fs (i + 1)) ∧ (∀ b, fs 0 b → U (fun i => fs (i + 1)) b → False) ∧ ∀ b, U fs b ↔ fs 0 b ∨ U (fun i => fs (i + 1)) b := by
  refine ⟨?_, ⟨by simpa using r.len, fun i o' e => ?_, fun i j b z1 z2 => ?_, fun i b z => ?_⟩, fun b z1 ⟨i, z2⟩ => ?_, fun b => ⟨fun ⟨i, z⟩ => ?_, fun z => ?_⟩⟩
  · obtain ⟨w, h1, h2⟩ := r.rep 0 o rfl
    simp at h1
    subst h1
    exact h2
  · obtain ⟨w, h1, h2⟩ := r.rep (i + 1) o' (by simpa using e)
    exact ⟨w, by simpa using h1, h2⟩
  · have := r.dis (i + 1) (j + 1) b z1 z2
    omega
  · obtain ⟨o', e⟩ := r.emp (i + 1) b z
    exact ⟨o', by simpa using e⟩
  · have := r.dis 0 (i + 1) b z1 z2
    omega
  · cases i with
    | zero => exact .inl z
    | succ i => exact .inr ⟨i, z⟩
  · rcases z with z | ⟨i, z⟩
    · exact ⟨0, z⟩
    · exact ⟨i + 1, z⟩
theorem Reps.length {vs : List V} {os : List Ob} {fs : Nat → Fp} (r : Reps K H vs os fs) : vs.length = os.length := by simpa using r.len
/-- the arguments are taken out of the slots -/
theorem take_ok {σ : St} : ∀ {as : List Arg} {vs : List V} {f : Fp} {Γ Γ1 : Env} {fp : Nat → Fp} {os : List Ob}, Rel K H σ Γ fp → ArgsR K H σ as vs f → (∀ b, f b → U fp b → False) → takeA as Γ = some (os, Γ1) →
    ∃ fs fp1, Reps K H vs os fs ∧ Rel K H σ Γ1 fp1 ∧ (∀ b, U fs b → U fp1 b → False) ∧ (∀ b, (U fs b ∨ U fp1 b) ↔ (f b ∨ U fp b)) ∧ ∀ (i : Nat) (p : Addr), (∃ j xs, Arg.itm i j xs ∈ as) → σ[i]? = some (some (.ref p)) → U fp1 p
  | _, _, f, Γ, _, fp, _, R, .nil n, d, e => by
    cases e
    refine ⟨fun _ _ => False, fp, Reps.nil, R, fun b ⟨_, z⟩ => z.elim, fun b => ⟨fun z => z.elim (fun ⟨_, z⟩ => z.elim) .inr, fun z => z.elim (fun z => (n b z).elim) .inr⟩, fun i p ⟨_, _, z⟩ => by simp at z⟩
  | _, _, f, Γ, Γ1, fp, os, R, .cons (a := a) (as := as) (vs := vs0) (f := fa) (g := g_1) ha r dfg hf, d, e => by
    have simple : ∀ {o : Ob} {v : V}, RepO K H o v fa → (∃ p, takeA as Γ = some p ∧ (o :: p.1, p.2) = (os, Γ1)) → ∃ fs fp1, Reps K H (v :: vs0) os fs ∧ Rel K H σ Γ1 fp1 ∧ (∀ b, U fs b → U fp1 b → False) ∧ (∀ b, (U fs b ∨ U fp1 b) ↔ (f b ∨ U fp b)) ∧ ∀ (i : Nat) (p : Addr), (∃ j xs, Arg.itm i j xs ∈ as) → σ[i]? = some (some (.ref p)) → U fp1 p := by
      intro o v ho he
      obtain ⟨⟨os', Γ'⟩, e1, e2⟩ := he
      cases e2
      obtain ⟨fs, fp1, r1, R1, d1, u1, k1⟩ := take_ok R r (fun b z => d b ((hf b).mpr (.inr z))) e1
      refine ⟨_, fp1, Reps.cons ho r1 fun b z1 z2 => ?_, R1, fun b z1 z2 => ?_, fun b => ?_, k1⟩
      · rcases (u1 b).mp (.inl z2) with z | z
        · exact dfg b z1 z
        · exact d b ((hf b).mpr (.inl z1)) z
      · rcases Reps.cons_U.mp z1 with z | z
        · rcases (u1 b).mp (.inr z2) with y | y
          · exact dfg b z y
          · exact d b ((hf b).mpr (.inl z)) y
        · exact d1 b z z2
      · have h1 := u1 b
        have h2 := hf b
        have h3 := @Reps.cons_U fa fs b
        constructor
        · rintro (z | z)
          · rcases h3.mp z with y | y
            · exact .inl (h2.mpr (.inl y))
            · rcases h1.mp (.inl y) with x | x
              · exact .inl (h2.mpr (.inr x))
              · exact .inr x
          · rcases h1.mp (.inr z) with x | x
            · exact .inl (h2.mpr (.inr x))
            · exact .inr x
        · rintro (z | z)
          · rcases h2.mp z with y | y
            · exact .inl (h3.mpr (.inl y))
            · rcases h1.mpr (.inl y) with x | x
              · exact .inl (h3.mpr (.inr x))
              · exact .inr x
          · rcases h1.mpr (.inr z) with x | x
            · exact .inl (h3.mpr (.inr x))
            · exact .inr x
    cases a with
    | dat x =>
      simp only [takeA, Option.map_eq_some_iff] at e
      obtain ⟨fs, fp1, w1, w2, w3, w4, w5⟩ := simple (.d ha.1 ha.2) e
      exact ⟨fs, fp1, w1, w2, w3, w4, fun i p ⟨j, xs, z⟩ h => w5 i p ⟨j, xs, by simpa using z⟩ h⟩
    | own o =>
      simp only [takeA, Option.map_eq_some_iff] at e
      obtain ⟨fs, fp1, w1, w2, w3, w4, w5⟩ := simple ha e
      exact ⟨fs, fp1, w1, w2, w3, w4, fun i p ⟨j, xs, z⟩ h => w5 i p ⟨j, xs, by simpa using z⟩ h⟩
    | itm i j xs =>
      simp only [takeA] at e
      cases eg : Γ[i]? with
      | none => rw [eg] at e; simp at e
      | some w =>
        cases w with
        | some o => rw [eg] at e; simp at e
        | none =>
          rw [eg] at e
          cases ex : xs[j]? with
          | none => rw [ex] at e; simp at e
          | some x =>
            rw [ex] at e
            simp only at e
            cases et : takeA as (Γ.set i (some (.obs (xs.set j .hol)))) with
            | none => rw [et] at e; simp at e
            | some pr =>
              obtain ⟨os', Γ'⟩ := pr
              rw [et] at e
              simp only at e
              cases ei : Γ'[i]? with
              | none => rw [ei] at e; simp at e
              | some w =>
                cases w with
                | none => rw [ei] at e; simp at e
                | some oo =>
                  rw [ei] at e
                  cases oo with
                  | obs ys =>
                    simp only [Option.some.injEq, Prod.mk.injEq] at e
                    obtain ⟨e1, e2⟩ := e
                    subst e1 e2
                    obtain ⟨p, vs, g, h1, h2, h3, h4, h5, h6⟩ := ha
                    obtain ⟨v', fx, gr, q1, q2, q3, q4, q5⟩ := h3.take ex
                    rw [h6] at q1
                    cases q1
                    have nf : ∀ b, ¬ fp i b := fun b z => by
                      obtain ⟨o, eo⟩ := R.emp i b z
                      rw [eg] at eo
                      cases eo
                    have spine : RepO K H (.obs (xs.set j .hol)) (.ref p) (fun b => b = p ∨ gr b) := .obs h2 q3 (fun z => h4 ((q5 p).mpr (.inr z))) fun _ => Iff.rfl
                    have fin : ∀ b, (b = p ∨ gr b) → fa b := fun b z => (h5 b).mpr (z.imp id fun z => (q5 b).mpr (.inr z))
                    obtain ⟨R2, u2⟩ := R.put (σ' := σ) (i := i) rfl h1 (fun _ _ => rfl) spine fun b z1 z2 => d b ((hf b).mpr (.inl (fin b z1))) z2
                    obtain ⟨fs, fp1, r1, R1, d1, u1, k1⟩ := take_ok R2 r (fun b z1 z2 => by
                      rcases u2 b z2 with z | z
                      · exact dfg b (fin b z) z1
                      · exact d b ((hf b).mpr (.inr z1)) z) et
                    have xin : ∀ b, fx b → fa b := fun b z => (h5 b).mpr (.inr ((q5 b).mpr (.inl z)))
                    have xsp : ∀ b, fx b → (b = p ∨ gr b) → False := fun b z1 z2 => by
                      rcases z2 with z | z
                      · subst z; exact h4 ((q5 b).mpr (.inl z1))
                      · exact q4 b z1 z
                    have all : ∀ b, fx b → (g_1 b ∨ U (fun j b => (j = i ∧ (b = p ∨ gr b)) ∨ (j ≠ i ∧ fp j b)) b) → False := fun b z1 z2 => by
                      rcases z2 with z | z
                      · exact dfg b (xin b z1) z
                      · rcases u2 b z with y | y
                        · exact xsp b z1 y
                        · exact d b ((hf b).mpr (.inl (xin b z1))) y
                    refine ⟨_, fp1, Reps.cons q2 r1 fun b z1 z2 => all b z1 ((u1 b).mp (.inl z2)), R1, fun b z1 z2 => ?_, fun b => ?_, fun i' p' ⟨j', xs', z⟩ h => ?_⟩
                    · rcases Reps.cons_U.mp z1 with z | z
                      · exact all b z ((u1 b).mp (.inr z2))
                      · exact d1 b z z2
                    · constructor
                      · intro z
                        have step : (g_1 b ∨ U (fun j b => (j = i ∧ (b = p ∨ gr b)) ∨ (j ≠ i ∧ fp j b)) b) → f b ∨ U fp b := fun z => by
                          rcases z with z | z
                          · exact .inl ((hf b).mpr (.inr z))
                          · rcases u2 b z with y | y
                            · exact .inl ((hf b).mpr (.inl (fin b y)))
                            · exact .inr y
                        rcases z with z | z
                        · rcases Reps.cons_U.mp z with y | y
                          · exact .inl ((hf b).mpr (.inl (xin b y)))
                          · exact step ((u1 b).mp (.inl y))
                        · exact step ((u1 b).mp (.inr z))
                      · intro z
                        have back : (g_1 b ∨ U (fun j b => (j = i ∧ (b = p ∨ gr b)) ∨ (j ≠ i ∧ fp j b)) b) → U (fun i => match i with | 0 => fx | i + 1 => fs i) b ∨ U fp1 b := fun z => ((u1 b).mpr z).imp (fun z => Reps.cons_U.mpr (.inr z)) id
                        rcases z with z | ⟨k, z⟩
                        · rcases (hf b).mp z with y | y
                          · rcases (h5 b).mp y with w | w
                            · exact back (.inr ⟨i, .inl ⟨rfl, .inl w⟩⟩)
                            · rcases (q5 b).mp w with w | w
                              · exact .inl (Reps.cons_U.mpr (.inl w))
                              · exact back (.inr ⟨i, .inl ⟨rfl, .inr w⟩⟩)
                          · exact back (.inl y)
                        · exact back (.inr ⟨k, .inr ⟨fun q => nf b (q ▸ z), z⟩⟩)
                    · simp only [List.mem_cons, Arg.itm.injEq] at z
                      rcases z with ⟨z, _, _⟩ | z
                      · subst z
                        obtain ⟨v2, w1, w2⟩ := R1.rep _ _ ei
                        rw [h] at w1
                        cases w1
                        cases w2 with
                        | obs a1 a2 a3 a4 => exact ⟨_, (a4 _).mpr (.inl rfl)⟩
                      · exact k1 i' p' ⟨j', xs', z⟩ h
                  | _ => simp at e
    | slot i =>
      simp only [takeA] at e
      split at e
      · rename_i o eo
        rw [Option.map_eq_some_iff] at e
        obtain ⟨⟨os', Γ'⟩, e1, e2⟩ := e
        cases e2
        obtain ⟨v, h1, h2, R2, hd, hu⟩ := R.take eo
        obtain ⟨h3, h4⟩ := ha
        rw [h1] at h3
        cases h3
        obtain ⟨fs, fp1, r1, R1, d1, u1, k1⟩ := take_ok R2 r (fun b z y => d b ((hf b).mpr (.inr z)) ((hu b).mpr (.inr y))) e1
        refine ⟨_, fp1, Reps.cons h2 r1 fun b z1 z2 => ?_, R1, fun b z1 z2 => ?_, fun b => ?_, fun i p ⟨j, xs, z⟩ h => k1 i p ⟨j, xs, by simpa using z⟩ h⟩
        · rcases (u1 b).mp (.inl z2) with z | z
          · exact d b ((hf b).mpr (.inr z)) ((hu b).mpr (.inl z1))
          · exact hd b z1 z
        · rcases Reps.cons_U.mp z1 with z | z
          · rcases (u1 b).mp (.inr z2) with y | y
            · exact d b ((hf b).mpr (.inr y)) ((hu b).mpr (.inl z))
            · exact hd b z y
          · exact d1 b z z2
        · have q1 := u1 b
          have q2 := hf b
          have q3 := @Reps.cons_U (fp i) fs b
          have q4 := hu b
          have q5 := h4 b
          constructor
          · rintro (z | z)
            · rcases q3.mp z with y | y
              · exact .inr (q4.mpr (.inl y))
              · rcases q1.mp (.inl y) with x | x
                · exact .inl (q2.mpr (.inr x))
                · exact .inr (q4.mpr (.inr x))
            · rcases q1.mp (.inr z) with x | x
              · exact .inl (q2.mpr (.inr x))
              · exact .inr (q4.mpr (.inr x))
          · rintro (z | z)
            · rcases q2.mp z with y | y
              · exact (q5 y).elim
              · rcases q1.mpr (.inl y) with x | x
                · exact .inl (q3.mpr (.inr x))
                · exact .inr x
            · rcases q4.mp z with y | y
              · exact .inl (q3.mpr (.inl y))
              · rcases q1.mpr (.inr y) with x | x
                · exact .inl (q3.mpr (.inr x))
                · exact .inr x
      · cases e
/-- .. and put back -/
theorem put_ok {H' : Hp} {σ : St} : ∀ {as : List Arg} {vs : List V} {f : Fp} {Γ : Env} {fp fs : Nat → Fp} {os : List Ob}, Rel K H' σ Γ fp → ArgsR K H σ as vs f → Reps K H' vs os fs → (∀ b, U fs b → U fp b → False) →
    (∀ (i : Nat) (p : Addr) (vs : List V), (∃ j xs, Arg.itm i j xs ∈ as) → σ[i]? = some (some (.ref p)) → H p = some (.lst vs) → H' p = some (.lst vs)) →
    ∃ fp', Rel K H' σ (putA as os Γ) fp' ∧ ∀ b, U fp' b → U fs b ∨ U fp b
  | _, _, _, Γ, fp, fs, os, R, .nil n, r, d, hk => by
    have : os = [] := List.eq_nil_of_length_eq_zero r.length.symm
    subst this
    exact ⟨fp, R, fun _ z => .inr z⟩
  | _, _, _, Γ, fp, fs, os, R, .cons (a := a) (as := as) ha r' dfg hf, r, d, hk => by
    cases os with
    | nil => cases r.length
    | cons o os =>
      obtain ⟨q1, q2, q3, q4⟩ := r.uncons
      obtain ⟨fp1, R1, u1⟩ := put_ok R r' q2 (fun b z => d b ((q4 b).mpr (.inr z))) fun i p vs ⟨j, xs, z⟩ => hk i p vs ⟨j, xs, List.mem_cons_of_mem _ z⟩
      have rest : ∃ fp', Rel K H' σ (putA as os Γ) fp' ∧ ∀ b, U fp' b → U fs b ∨ U fp b := ⟨fp1, R1, fun b z => (u1 b z).imp (fun z => (q4 b).mpr (.inr z)) id⟩
      cases a with
      | dat x => exact rest
      | own x => exact rest
      | slot i =>
        obtain ⟨h3, h4⟩ := ha
        obtain ⟨R2, u2⟩ := R1.put (σ' := σ) (i := i) rfl h3 (fun _ _ => rfl) q1 fun b z1 z2 => by
          rcases u1 b z2 with z | z
          · exact q3 b z1 z
          · exact d b ((q4 b).mpr (.inl z1)) z
        exact ⟨_, R2, fun b z => (u2 b z).elim (fun z => .inl ((q4 b).mpr (.inl z))) fun z => (u1 b z).imp (fun z => (q4 b).mpr (.inr z)) id⟩
      | itm i j xs =>
        obtain ⟨p, vs, g, h1, h2, h3, h4, h5, h6⟩ := ha
        have hp := hk i p vs ⟨j, xs, List.mem_cons_self⟩ h1 h2
        unfold putA
        cases ei : (putA as os Γ)[i]? with
        | none => exact rest
        | some w =>
          cases w with
          | none => exact rest
          | some oo =>
            cases oo with
            | obs ys =>
              obtain ⟨v', w1, w2, R2, hd, hu⟩ := R1.take ei
              rw [h1] at w1
              cases w1
              cases w2 with
              | obs a1 a2 a3 a4 =>
                rw [hp] at a1
                cases a1
                have off : ∀ b, fs 0 b → U fp1 b → False := fun b z1 z2 => by
                  rcases u1 b z2 with z | z
                  · exact q3 b z1 z
                  · exact d b ((q4 b).mpr (.inl z1)) z
                obtain ⟨g', b1, b2⟩ := a2.put h6 q1 fun b z1 z2 => off b z1 ((hu b).mpr (.inl ((a4 b).mpr (.inr z2))))
                have b3 : ¬ g' p := fun z => by
                  rcases b2 p z with y | y
                  · exact off p y ((hu p).mpr (.inl ((a4 p).mpr (.inl rfl))))
                  · exact a3 y
                obtain ⟨R3, u3⟩ := R2.put (σ' := σ) (i := i) rfl h1 (fun _ _ => rfl) (.obs hp b1 b3 (f := fun b => b = p ∨ g' b) fun _ => Iff.rfl) fun b z1 z2 => by
                  rcases z1 with z | z
                  · subst z; exact hd _ ((a4 _).mpr (.inl rfl)) z2
                  · rcases b2 b z with y | y
                    · exact off b y ((hu b).mpr (.inr z2))
                    · exact hd b ((a4 b).mpr (.inr y)) z2
                rw [List.set_set] at R3
                have back : ∀ b, U fp1 b → U fs b ∨ U fp b := fun b z => (u1 b z).imp (fun z => (q4 b).mpr (.inr z)) id
                refine ⟨_, R3, fun b z => ?_⟩
                rcases u3 b z with y | y
                · rcases y with y | y
                  · exact back b ((hu b).mpr (.inl ((a4 b).mpr (.inl y))))
                  · rcases b2 b y with y | y
                    · exact .inl ((q4 b).mpr (.inl y))
                    · exact back b ((hu b).mpr (.inl ((a4 b).mpr (.inr y))))
                · exact back b ((hu b).mpr (.inr y))
            | _ => exact rest
end
section
variable {J : Jc} {ta : TA} {ga : G (List Arg)}
@[reducible] def callA (mf : Mf) (as : List Arg) (Γ : Env) : Res Ob Env := match takeA as Γ with
  | none => .bad
  | some p => match mf p.1 with
    | .ok r os => .ok r (putA as os p.2)
    | .ex x os => .ex x (putA as os p.2)
    | .bad => .bad
/-- the callee runs on its arguments -/
theorem call_run {mf : Mf} {σ : St} {H H1 : Hp} {Γ1 : Env} {fp fp1 : Nat → Fp} {as : List Arg} {vs : List V} {f : Fp} {Q : VK} (R1 : Rel J.K H1 σ Γ1 fp1) (a1 : ArgsR J.K H1 σ as vs f) (d1 : ∀ b, f b → U fp1 b → False) (s1 : Step (U fp) (fun b => f b ∨ U fp1 b) H H1)
    (q : Post (callA mf as Γ1) (OkO J σ (U fp) H Q) (XxE J σ (U fp) H)) : SpM J.K J.mg mf vs H1 Q (WE J.W σ) := by
  unfold callA at q
  cases e : takeA as Γ1 with
  | none => simp only [e] at q; exact q.elim
  | some p =>
    obtain ⟨os, Γ2⟩ := p
    simp only [e] at q
    obtain ⟨fs, fp2, r2, R2, d2, u2, k2⟩ := take_ok R1 a1 d1 e
    have s2 : Step (U fp) (fun b => U fp2 b ∨ U fs b) H H1 := s1.sub fun b z => (u2 b).mp z.symm
    refine ⟨os, fs, r2, ?_⟩
    -- behind the callee
    have back : ∀ {H' : Hp} {fs' : Nat → Fp} {f' : Fp}, Step (U fs) (fun b => f' b ∨ U fs' b) H1 H' → Rel J.K H' σ Γ2 fp2 ∧ (∀ b, (f' b ∨ U fs' b) → U fp2 b → False) ∧ Step (U fp) (fun b => U fp2 b ∨ (f' b ∨ U fs' b)) H H' := fun {H' fs' f'} s3 => by
      refine ⟨R2.frame s3.im fun b u z e => s3.keep b u e fun z2 => d2 b z2 z, fun b z1 z2 => ?_, s2.trans s3.wide⟩
      rcases s3.fresh b z1 with z | z
      · exact d2 b z z2
      · exact (R2.own b z2).ne_none z
    cases em : mf os with
    | bad => simp only [em] at q; exact q.elim
    | ok r os' =>
      simp only [em] at q
      intro v H' fs' f' r3 rv d3 s3
      obtain ⟨R3, d4, s4⟩ := back s3
      obtain ⟨fp4, R4, u4⟩ := put_ok R3 a1 r3 (fun b z => d4 b (.inr z)) fun i p vs m h1 h2 => s3.keep p _ h2 fun z => d2 p z (k2 i p m h1)
      refine q v H' fp4 f' R4 rv (fun b z1 z2 => ?_) (s4.sub fun b z => ?_)
      · rcases u4 b z2 with z | z
        · exact d3 b z1 z
        · exact d4 b (.inl z1) z
      · rcases z with z | z
        · exact .inr (.inl z)
        · rcases u4 b z with y | y
          · exact .inr (.inr y)
          · exact .inl y
    | ex x os' =>
      simp only [em] at q
      intro cls d H' fs' r3 ex s3
      obtain ⟨R3, d4, s4⟩ := back (f' := fun _ => False) (s3.sub fun b z => z.elim (fun z => z.elim) id)
      obtain ⟨fp4, R4, u4⟩ := put_ok R3 a1 r3 (fun b z => d4 b (.inr z)) fun i p vs m h1 h2 => s3.keep p _ h2 fun z => d2 p z (k2 i p m h1)
      refine q cls d H' fp4 R4 ex (s4.sub fun b z => ?_)
      rcases u4 b z with y | y
      · exact .inr (.inr y)
      · exact .inl y
theorem eo_call {mf : Mf} (ha : EC J ta ga) : EO J (tCallS (SpM J.K J.mg mf) (WE J.W) ta) (gCall mf ga) := fun σ H Γ fp R Q hp =>
  ha σ H Γ fp R _ ((Post.bind hp).imp (fun as Γ1 q vs H1 fp1 f R1 a1 d1 s1 => call_run R1 a1 d1 s1 q) fun _ _ z => z)
end

/-! ### defs -/
def collect : List Bool → List Ob → Env → Option (List Ob)
  | true :: ps, _ :: os, some o :: Γ => (collect ps os Γ).map (o :: ·)
  | false :: ps, .d x :: os, _ :: Γ => (collect ps os Γ).map (.d x :: ·)
  | [], [], _ => some []
  | _, _, _ => none
/-- a def's mirror from its body's: the mask tells the parameters that are its callers' own objects -/
def fin (m : List Bool) (os : List Ob) (r : Res Fl Env) : Res Ob (List Ob) := match r with
  | .ok fl Γ => match fl, collect m os Γ with
    | .nx, some os' => .ok (.d .non) os'
    | .rt o, some os' => .ok o os'
    | _, _ => .bad
  | .ex x Γ => match collect m os Γ with
    | some os' => .ex x os'
    | none => .bad
  | .bad => .bad
def gBody (m : List Bool) (n : Nat) (g : G Fl) : Mf := fun os => fin m os (g (os.map some ++ List.replicate (n - os.length) none))
section
variable {K : Frag} {H : Hp}
theorem collect_ok {H' : Hp} {f : Fp} : ∀ {m : List Bool} {os os' : List Ob} {vs : List V} {σ : St} {Γ : Env} {fs fp : Nat → Fp}, Reps K H vs os fs → Im H H' → Rel K H' σ Γ fp → (∀ i : Nat, m[i]? = some true → σ[i]? = (vs.map some)[i]?) → collect m os Γ = some os' → ∃ fs', Reps K H' vs os' fs' ∧ ∀ b, U fs' b → U fp b := by
  intro m
  induction m with
  | nil =>
    intro os os' vs σ Γ fs fp r im R k e
    cases os with
    | nil =>
      cases e
      have : vs = [] := List.eq_nil_of_length_eq_zero r.length
      subst this
      exact ⟨_, Reps.nil, fun b ⟨_, z⟩ => z.elim⟩
    | cons o os => cases e
  | cons c m ih =>
    intro os os' vs σ Γ fs fp r im R k e
    cases os with
    | nil => cases c <;> cases e
    | cons o os =>
      cases vs with
      | nil => cases r.length
      | cons v vs =>
        obtain ⟨q1, q2, q3, q4⟩ := r.uncons
        cases Γ with
        | nil => cases c <;> cases o <;> cases e
        | cons g Γ =>
          cases σ with
          | nil => cases R.len
          | cons w σ =>
            have R' : Rel K H' σ Γ (fun i => fp (i + 1)) := ⟨by simpa using R.len, fun i o' e' => by
              obtain ⟨x, h1, h2⟩ := R.rep (i + 1) o' (by simpa using e')
              exact ⟨x, by simpa using h1, h2⟩, fun i j b z1 z2 => by have := R.dis _ _ b z1 z2; omega, fun i b z => by
              obtain ⟨o', e'⟩ := R.emp (i + 1) b z
              exact ⟨o', by simpa using e'⟩⟩
            have k' : ∀ i : Nat, m[i]? = some true → σ[i]? = (vs.map some)[i]? := fun i h => by
              have := k (i + 1) (by simpa using h)
              simpa using this
            cases c with
            | true =>
              cases g with
              | none => cases o <;> cases e
              | some o2 =>
                simp only [collect, Option.map_eq_some_iff] at e
                obtain ⟨os2, e, rfl⟩ := e
                obtain ⟨fs2, r2, u2⟩ := ih q2 im R' k' e
                have kw := k 0 rfl
                simp at kw
                subst kw
                obtain ⟨x, h1, h2⟩ := R.rep 0 o2 rfl
                simp at h1
                subst h1
                refine ⟨_, Reps.cons h2 r2 fun b z1 z2 => ?_, fun b z => ?_⟩
                · obtain ⟨i, z⟩ := u2 b z2
                  have := R.dis _ _ b z1 z
                  omega
                · rcases Reps.cons_U.mp z with y | y
                  · exact ⟨0, y⟩
                  · obtain ⟨i, y⟩ := u2 b y
                    exact ⟨i + 1, y⟩
            | false =>
              cases o with
              | d x =>
                simp only [collect, Option.map_eq_some_iff] at e
                obtain ⟨os2, e, rfl⟩ := e
                obtain ⟨fs2, r2, u2⟩ := ih q2 im R' k' e
                cases q1 with
                | d a n =>
                  refine ⟨_, Reps.cons (f := fun _ => False) (.d (a.mono im) fun _ z => z) r2 fun b z => z.elim, fun b z => ?_⟩
                  rcases Reps.cons_U.mp z with y | y
                  · exact y.elim
                  · obtain ⟨i, y⟩ := u2 b y
                    exact ⟨i + 1, y⟩
              | _ => cases e
/-- the slots at a def's entry -/
theorem start_ok {vs : List V} {os : List Ob} {fs : Nat → Fp} {N : List Str} (r : Reps K H vs os fs) : Rel K H (start N vs) (os.map some ++ List.replicate (N.length - os.length) none) fs := by
  have hl := r.length
  unfold L2.start
  refine ⟨by simp [hl], fun i o e => ?_, r.dis, fun i b z => ?_⟩
  · by_cases hi : i < os.length
    · rw [List.getElem?_append_left (by simpa using hi)] at e
      obtain ⟨v, h1, h2⟩ := r.rep i o e
      exact ⟨v, by rw [List.getElem?_append_left (by simpa [hl] using hi)]; exact h1, h2⟩
    · rw [List.getElem?_append_right (by simpa using hi)] at e
      rw [List.getElem?_replicate] at e
      split at e <;> cases e
  · obtain ⟨o, e⟩ := r.emp i b z
    have hi : i < os.length := by
      have := (List.getElem?_eq_some_iff.mp e).1
      simpa using this
    exact ⟨o, by rw [List.getElem?_append_left (by simpa using hi)]; exact e⟩
theorem start_at {vs : List V} {N : List Str} {i : Nat} (h : i < vs.length) : (start N vs)[i]? = (vs.map some)[i]? := by
  unfold L2.start
  rw [List.getElem?_append_left (by simpa using h)]
/-- a body that follows its mirror keeps the promise -/
theorem body_ok {mg : Str → Option Value} {m : List Bool} {N : List Str} {ts : TS} {g : G Fl} {E : XK} (h : SS ⟨K, mg, fun cls d _ H => E cls d H⟩ m ts g) {vs : List V} {Q : VK} (hm : m.length ≤ vs.length) (sp : SpM K mg (gBody m N.length g) vs H Q E) : ts { nx := fun _ H' => Q .non H', rt := Q } (start N vs) H := by
  obtain ⟨os, fs, r, hp⟩ := sp
  refine h _ H _ fs (start_ok (N := N) r) _ ?_
  unfold gBody fin at hp
  have kp : ∀ {σ' : St}, Kp m (start N vs) σ' → ∀ i : Nat, m[i]? = some true → σ'[i]? = (vs.map some)[i]? := fun {σ'} k i hi => by
    have hlt : i < m.length := (List.getElem?_eq_some_iff.mp hi).1
    rw [k i hi, start_at (by omega)]
  cases eg : g (os.map some ++ List.replicate (N.length - os.length) none) with
  | bad => rw [eg] at hp; exact hp.elim
  | ok fl Γ =>
    simp only [eg] at hp
    intro σ' H' fp' R' k
    cases fl with
    | nx =>
      cases ec : collect m os Γ with
      | none => simp only [ec] at hp; exact hp.elim
      | some os' =>
        simp only [ec] at hp
        intro s
        obtain ⟨fs', r', u'⟩ := collect_ok (f := fun _ => False) r s.im R' (kp k) ec
        exact hp .non H' fs' (fun _ => False) r' (.d .non fun _ z => z) (fun _ z => z.elim) (s.sub fun b z => z.elim (fun z => z.elim) (u' b))
    | rt o =>
      cases ec : collect m os Γ with
      | none => simp only [ec] at hp; exact hp.elim
      | some os' =>
        simp only [ec] at hp
        intro v f rv d s
        obtain ⟨fs', r', u'⟩ := collect_ok (f := fun _ => False) r s.im R' (kp k) ec
        exact hp v H' fs' f r' rv (fun b z1 z2 => d b z1 (u' b z2)) (s.sub fun b z => z.imp id (u' b))
    | bk => exact hp.elim
    | ct => exact hp.elim
  | ex x Γ =>
    simp only [eg] at hp
    intro cls d σ' H' fp' R' k ex s
    cases ec : collect m os Γ with
    | none => simp only [ec] at hp; exact hp.elim
    | some os' =>
      simp only [ec] at hp
      obtain ⟨fs', r', u'⟩ := collect_ok (f := fun _ => False) r s.im R' (kp k) ec
      exact hp cls d H' fs' r' ex (s.sub u')
end
end Gm

/-! Gm7: the rules that a def's term is made of: the piece of syntax, its reading, its mirror. -/
namespace Gm
open PySem PySem.Spec PyProof.Rows L2

section
variable (K : Frag) (mg : Str → Option Value) (X : Cx) (W : WX)
abbrev jc : Jc := ⟨K, mg, W⟩
def VD (e : Expr) (te : TE) (g : G D) : Prop := X.K = K → X.mg = mg → PE X e te ∧ ED (jc K mg W) te g
def VS (e : Expr) (te : TE) (g : G Src) : Prop := X.K = K → X.mg = mg → PE X e te ∧ ES (jc K mg W) te g
def VO (e : Expr) (te : TE) (g : G Ob) : Prop := X.K = K → X.mg = mg → PE X e te ∧ EO (jc K mg W) te g
def VT (e : Expr) (tt : TT) (g : G Bool) : Prop := X.K = K → X.mg = mg → PT X e tt ∧ ET (jc K mg W) tt g
def VW (e : Expr) (tt : TT) (g : G Bool) : Prop := X.K = K → X.mg = mg → PW X e tt ∧ ET (jc K mg W) tt g
def VTs (es : List Expr) (tt : TT) (g : G Bool) : Prop := X.K = K → X.mg = mg → PTs X es tt ∧ ET (jc K mg W) tt g
def VA (es : List Expr) (ta : TA) (g : G (List D)) : Prop := X.K = K → X.mg = mg → PA X es ta ∧ EA (jc K mg W) ta g
def VC (es : List Expr) (ta : TA) (g : G (List Arg)) : Prop := X.K = K → X.mg = mg → PA X es ta ∧ EC (jc K mg W) ta g
def VC1 (e : Expr) (te : TE) (g : G Arg) : Prop := X.K = K → X.mg = mg → PE X e te ∧ EC1 (jc K mg W) te g
def VP (e : Option Expr) (to : TO) (g : G (Option Int)) : Prop := X.K = K → X.mg = mg → PO X e to ∧ EP' (jc K mg W) to g
def VI (tg e : Expr) (ti : TI) (g : G (List D)) : Prop := X.K = K → X.mg = mg → PI X tg e ti ∧ EI (jc K mg W) ti g
def VL (tg : Expr) (t : TG) (ts : List Nat) (h : D → Env → Option Env) : Prop := X.K = K → X.mg = mg → PG X tg t ∧ LT (jc K mg W) t ts h
def VLs (tgs : List Expr) (t : TGs) (ts : List Nat) (h : List D → Env → Option Env) : Prop := X.K = K → X.mg = mg → PGs X tgs t ∧ LTs (jc K mg W) t ts h
def VSt (m : List Bool) (s : Stmt) (ts : TS) (g : G Fl) : Prop := X.K = K → X.mg = mg → PS X s ts ∧ SS (jc K mg W) m ts g
def VB (m : List Bool) (s : List Stmt) (ts : TS) (g : G Fl) : Prop := X.K = K → X.mg = mg → PSs X s ts ∧ SS (jc K mg W) m ts g
end

section
variable {K : Frag} {mg : Str → Option Value} {X : Cx} {W : WX} {a b c e : Expr} {es : List Expr} {pos : Pos} {ta tb tc te : TE} {ga gb gc : G D} {gs gt : G Src} {go gp : G Ob} {tl : TA} {gl : G (List D)}
/-! ### names and constants -/
theorem d_var (i : Nat) {x : Str} (hN : X.N[i]? = some x := by rfl) (hv : Vis X.env.scope x := by first | exact Or.inl rfl | exact Or.inr (Or.inl rfl) | exact Or.inr (Or.inr rfl)) (hd : (x == ("__debug__" : Str)) = false := by decide)
    (hcd : (x == ("__classdict__" : Str)) = false := by decide) : VD K mg X W (.Name x pos) (tVar i) (gVar i) := fun _ _ => ⟨pe_var hN hv hd hcd, ed_var i⟩
theorem s_slot (i : Nat) {x : Str} (hN : X.N[i]? = some x := by rfl) (hv : Vis X.env.scope x := by first | exact Or.inl rfl | exact Or.inr (Or.inl rfl) | exact Or.inr (Or.inr rfl)) (hd : (x == ("__debug__" : Str)) = false := by decide)
    (hcd : (x == ("__classdict__" : Str)) = false := by decide) : VS K mg X W (.Name x pos) (tVar i) (gSlot i) := fun _ _ => ⟨pe_var hN hv hd hcd, es_slot i⟩
theorem o_move (i : Nat) {x : Str} (hN : X.N[i]? = some x := by rfl) (hv : Vis X.env.scope x := by first | exact Or.inl rfl | exact Or.inr (Or.inl rfl) | exact Or.inr (Or.inr rfl)) (hd : (x == ("__debug__" : Str)) = false := by decide)
    (hcd : (x == ("__classdict__" : Str)) = false := by decide) : VO K mg X W (.Name x pos) (tVar i) (gMove i) := fun _ _ => ⟨pe_var hN hv hd hcd, eo_move i⟩
theorem c_slot (i : Nat) {x : Str} (hN : X.N[i]? = some x := by rfl) (hv : Vis X.env.scope x := by first | exact Or.inl rfl | exact Or.inr (Or.inl rfl) | exact Or.inr (Or.inr rfl)) (hd : (x == ("__debug__" : Str)) = false := by decide)
    (hcd : (x == ("__classdict__" : Str)) = false := by decide) : VC1 K mg X W (.Name x pos) (tVar i) (gcS i) := fun _ _ => ⟨pe_var hN hv hd hcd, ec1_s i⟩
theorem d_int {i j} : VD K mg X W (.Constant (.int i) j pos) (tC (.int i)) (gC (.int i)) := fun _ _ => ⟨pe_int, ed_int⟩
theorem d_str {i j} : VD K mg X W (.Constant (.str i) j pos) (tC (.str i)) (gC (.str i)) := fun _ _ => ⟨pe_str, ed_str⟩
theorem d_bl {i j} : VD K mg X W (.Constant (.bool i) j pos) (tC (.bl i)) (gC (.bl i)) := fun _ _ => ⟨pe_bl, ed_bl⟩
theorem d_non {j} : VD K mg X W (.Constant .none j pos) (tC .non) (gC .non) := fun _ _ => ⟨pe_non, ed_non⟩
/-- a name of the module that holds data -/
theorem d_glob {x : Str} {v : V} {u : Value} {y : D} (hm : mg x = some u) (r : RelV v u) (hy : ∀ H, At K H v y) (hg : Gl X x := by rfl) (hd : (x == ("__debug__" : Str)) = false := by decide) : VD K mg X W (.Name x pos) (tC v) (gC y) := fun hK hM => by
  subst hK hM
  exact ⟨pe_glob hg hm r hd, ed_c hy⟩
/-! ### from one kind to another -/
theorem s_d (h : VD K mg X W e te ga) : VS K mg X W e te (gDat ga) := fun k m => ⟨(h k m).1, es_d (h k m).2⟩
theorem o_d (h : VD K mg X W e te ga) : VO K mg X W e te (gOb ga) := fun k m => ⟨(h k m).1, eo_d (h k m).2⟩
theorem d_o (h : VO K mg X W e te go) : VD K mg X W e te (gToD go) := fun k m => ⟨(h k m).1, ed_o (h k m).2⟩
theorem s_o (h : VO K mg X W e te go) : VS K mg X W e te (gOwnS go) := fun k m => ⟨(h k m).1, es_o (h k m).2⟩
theorem d_frz (h : VO K mg X W e te go) : VD K mg X W e (tFrz te) (gFrz go) := fun k m => ⟨pe_frz (h k m).1, ed_frz (h k m).2⟩
theorem c_d (h : VD K mg X W e te ga) : VC1 K mg X W e te (gcD ga) := fun k m => ⟨(h k m).1, ec1_d (h k m).2⟩
theorem c_o (h : VO K mg X W e te go) : VC1 K mg X W e te (gcO go) := fun k m => ⟨(h k m).1, ec1_o (h k m).2⟩
/-! ### operators -/
theorem d_op {op : Operator} {r : R2} {f : D → D → Option D} (ho : X.K = K → OpR X (binaryOp op) r) (hf : OpD K r f) (ha : VD K mg X W a ta ga) (hb : VD K mg X W b tb gb) : VD K mg X W (.BinOp a op b pos) (tOp r ta tb) (g2 f ga gb) :=
  fun k m => ⟨pe_op (ho k) (ha k m).1 (hb k m).1, ed_op hf (ha k m).2 (hb k m).2⟩
theorem d_add (ha : VD K mg X W a ta ga) (hb : VD K mg X W b tb gb) : VD K mg X W (.BinOp a .Add b pos) (tOp (rAddA K) ta tb) (g2 oAdd ga gb) := d_op (fun k => by subst k; exact op_addA) (add_D K) ha hb
theorem d_sub (ha : VD K mg X W a ta ga) (hb : VD K mg X W b tb gb) : VD K mg X W (.BinOp a .Sub b pos) (tOp (rI0 fun i j => .int (i - j)) ta tb) (g2 oSub ga gb) := d_op (fun _ => op_sub) sub_D ha hb
theorem d_mul (ha : VD K mg X W a ta ga) (hb : VD K mg X W b tb gb) : VD K mg X W (.BinOp a .Mult b pos) (tOp (rI CMul fun i j => .int (i * j)) ta tb) (g2 oMul ga gb) := d_op (fun _ => op_mul) mul_D ha hb
theorem d_mod (ha : VD K mg X W a ta ga) (hb : VD K mg X W b tb gb) : VD K mg X W (.BinOp a .Mod b pos) (tOp (rI (fun _ j => 0 < j) fun i j => .int (i % j)) ta tb) (g2 oMod ga gb) := d_op (fun _ => op_mod) mod_D ha hb
theorem d_div (ha : VD K mg X W a ta ga) (hb : VD K mg X W b tb gb) : VD K mg X W (.BinOp a .FloorDiv b pos) (tOp (rI CDiv fun i j => .int (i / j)) ta tb) (g2 oDiv ga gb) := d_op (fun _ => op_fdiv) div_D ha hb
theorem d_pow (ha : VD K mg X W a ta ga) (hb : VD K mg X W b tb gb) : VD K mg X W (.BinOp a .Pow b pos) (tOp (rI CPow fun i j => .int (i ^ j.toNat)) ta tb) (g2 oPow ga gb) := d_op (fun _ => op_pow) pow_D ha hb
theorem o_cat {sa sb : G Src} (ha : VS K mg X W a ta sa) (hb : VS K mg X W b tb sb) : VO K mg X W (.BinOp a .Add b pos) (tOp (rCatG K) ta tb) (gCat sa sb) := fun k m => ⟨pe_op (by subst k; exact op_catG) (ha k m).1 (hb k m).1, eo_cat (ha k m).2 (hb k m).2⟩
/-! ### comparisons, as values and as tests. A rule of one comparison: -/
structure CmpV (K : Frag) (mg : Str → Option Value) (X : Cx) (W : WX) (op : CmpOp) (a b : Expr) (te : TE) (g : G D) : Prop where
  val : ∀ {pos : Pos}, VD K mg X W (.Compare a [op] [b] pos) te g
  test : ∀ {pos : Pos}, VT K mg X W (.Compare a [op] [b] pos) (tTest te) (gTest g)
theorem cmp_of {op : CmpOp} {r : R2} {f : D → D → Option D} (ho : X.K = K → OpR X (compareOp op) r) (hf : OpD K r f) (ha : VD K mg X W a ta ga) (hb : VD K mg X W b tb gb) (hm : behindInMarks op b = false) : CmpV K mg X W op a b (tOp r ta tb) (g2 f ga gb) :=
  ⟨fun k m => ⟨pe_cmpR (ho k) (ha k m).1 (hb k m).1 hm, ed_op hf (ha k m).2 (hb k m).2⟩, fun k m => ⟨pt_cmpR (ho k) (ha k m).1 (hb k m).1 hm, et_test (ed_op hf (ha k m).2 (hb k m).2)⟩⟩
theorem k_lt (ha : VD K mg X W a ta ga) (hb : VD K mg X W b tb gb) : CmpV K mg X W .Lt a b (tOp (rI0 fun i j => .bl (decide (i < j))) ta tb) (g2 oLt ga gb) := cmp_of (fun _ => op_lt) lt_D ha hb (nomark _)
theorem k_le (ha : VD K mg X W a ta ga) (hb : VD K mg X W b tb gb) : CmpV K mg X W .LtE a b (tOp (rI0 fun i j => .bl (decide (i ≤ j))) ta tb) (g2 oLe ga gb) := cmp_of (fun _ => op_le) le_D ha hb (nomark _)
theorem k_gt (ha : VD K mg X W a ta ga) (hb : VD K mg X W b tb gb) : CmpV K mg X W .Gt a b (tOp (rI0 fun i j => .bl (decide (j < i))) ta tb) (g2 oGt ga gb) := cmp_of (fun _ => op_gt) gt_D ha hb (nomark _)
theorem k_ge (ha : VD K mg X W a ta ga) (hb : VD K mg X W b tb gb) : CmpV K mg X W .GtE a b (tOp (rI0 fun i j => .bl (decide (j ≤ i))) ta tb) (g2 oGe ga gb) := cmp_of (fun _ => op_ge) ge_D ha hb (nomark _)
theorem k_eq {n : Nat} (hr : Room n X.A) (ha : VD K mg X W a ta ga) (hb : VD K mg X W b tb gb) : CmpV K mg X W .Eq a b (tOp (rEqA K) ta tb) (g2 oEq ga gb) := cmp_of (fun k => by subst k; exact op_eqA (Room.u200 hr)) (eqA_D K) ha hb (nomark _)
theorem k_ne {n : Nat} (hr : Room n X.A) (ha : VD K mg X W a ta ga) (hb : VD K mg X W b tb gb) : CmpV K mg X W .NotEq a b (tOp (rNeA K) ta tb) (g2 oNe ga gb) := cmp_of (fun k => by subst k; exact op_neA (Room.u200 hr)) (neA_D K) ha hb (nomark _)
theorem k_isN (ha : VD K mg X W a ta ga) (hb : VD K mg X W b tb gb) : CmpV K mg X W .Is a b (tOp (fun x y H Q => y = .non ∧ Q (.bl (decide (x = .non))) H) ta tb) (g2 oIsN ga gb) := cmp_of (fun _ => op_isN) (isN_D K) ha hb (nomark _)
theorem k_notN (ha : VD K mg X W a ta ga) (hb : VD K mg X W b tb gb) : CmpV K mg X W .IsNot a b (tOp (fun x y H Q => y = .non ∧ Q (.bl (!decide (x = .non))) H) ta tb) (g2 oNotN ga gb) := cmp_of (fun _ => op_notN) (notN_D K) ha hb (nomark _)
theorem Room.u201' {k : Nat} {A : Around} (r : Room (k + 1) A) : A.units + 201 < cLine := Room.u201 r
theorem k_in {n : Nat} (hr : Room (n + 1) X.A) (ha : VD K mg X W a ta ga) (hb : VD K mg X W b tb gb) (hm : behindInMarks .In b = false := by rfl) : CmpV K mg X W .In a b (tOp (rInA K false) ta tb) (g2 oIn ga gb) := cmp_of (fun k => by subst k; exact op_inA (Room.u201 hr)) (in_D K) ha hb hm
theorem k_notIn {n : Nat} (hr : Room (n + 1) X.A) (ha : VD K mg X W a ta ga) (hb : VD K mg X W b tb gb) (hm : behindInMarks .NotIn b = false := by rfl) : CmpV K mg X W .NotIn a b (tOp (rInA K true) ta tb) (g2 oNotIn ga gb) := cmp_of (fun k => by subst k; exact op_notInA (Room.u201 hr)) (notIn_D K) ha hb hm
theorem cmpS_of {op : CmpOp} {r : R2} {sa sb : G Src} {g : G D} (ho : X.K = K → OpR X (compareOp op) r) (he : ED (jc K mg W) (tOp r ta tb) g) (ha : VS K mg X W a ta sa) (hb : VS K mg X W b tb sb) (hm : behindInMarks op b = false) : CmpV K mg X W op a b (tOp r ta tb) g :=
  ⟨fun k m => ⟨pe_cmpR (ho k) (ha k m).1 (hb k m).1 hm, he⟩, fun k m => ⟨pt_cmpR (ho k) (ha k m).1 (hb k m).1 hm, et_test he⟩⟩
theorem k_eqS {n : Nat} {sa sb : G Src} (hr : Room n X.A) (ha : VS K mg X W a ta sa) (hb : VS K mg X W b tb sb) : CmpV K mg X W .Eq a b (tOp (rEqA K) ta tb) (gCmpS oEq sa sb) :=
  ⟨fun k m => ⟨pe_cmpR (by subst k; exact op_eqA (Room.u200 hr)) (ha k m).1 (hb k m).1 (nomark _), ed_eqS (ha k m).2 (hb k m).2⟩, fun k m => ⟨pt_cmpR (by subst k; exact op_eqA (Room.u200 hr)) (ha k m).1 (hb k m).1 (nomark _), et_test (ed_eqS (ha k m).2 (hb k m).2)⟩⟩
theorem k_neS {n : Nat} {sa sb : G Src} (hr : Room n X.A) (ha : VS K mg X W a ta sa) (hb : VS K mg X W b tb sb) : CmpV K mg X W .NotEq a b (tOp (rNeA K) ta tb) (gCmpS oNe sa sb) :=
  ⟨fun k m => ⟨pe_cmpR (by subst k; exact op_neA (Room.u200 hr)) (ha k m).1 (hb k m).1 (nomark _), ed_neS (ha k m).2 (hb k m).2⟩, fun k m => ⟨pt_cmpR (by subst k; exact op_neA (Room.u200 hr)) (ha k m).1 (hb k m).1 (nomark _), et_test (ed_neS (ha k m).2 (hb k m).2)⟩⟩
theorem k_inS {n : Nat} {sb : G Src} (hr : Room (n + 1) X.A) (ha : VD K mg X W a ta ga) (hb : VS K mg X W b tb sb) (hm : behindInMarks .In b = false := by rfl) : CmpV K mg X W .In a b (tOp (rInA K false) ta tb) (gInS false ga sb) :=
  ⟨fun k m => ⟨pe_cmpR (by subst k; exact op_inA (Room.u201 hr)) (ha k m).1 (hb k m).1 hm, ed_inS (ha k m).2 (hb k m).2⟩, fun k m => ⟨pt_cmpR (by subst k; exact op_inA (Room.u201 hr)) (ha k m).1 (hb k m).1 hm, et_test (ed_inS (ha k m).2 (hb k m).2)⟩⟩
theorem k_notInS {n : Nat} {sb : G Src} (hr : Room (n + 1) X.A) (ha : VD K mg X W a ta ga) (hb : VS K mg X W b tb sb) (hm : behindInMarks .NotIn b = false := by rfl) : CmpV K mg X W .NotIn a b (tOp (rInA K true) ta tb) (gInS true ga sb) :=
  ⟨fun k m => ⟨pe_cmpR (by subst k; exact op_notInA (Room.u201 hr)) (ha k m).1 (hb k m).1 hm, ed_inS (ha k m).2 (hb k m).2⟩, fun k m => ⟨pt_cmpR (by subst k; exact op_notInA (Room.u201 hr)) (ha k m).1 (hb k m).1 hm, et_test (ed_inS (ha k m).2 (hb k m).2)⟩⟩
/-- x OP y OP z of numbers -/
structure ChR (X : Cx) (op : CmpOp) (r : R2) (f : D → D → Option D) : Prop where
  op : OpR X (compareOp op) r
  d : ∀ K, OpD K r f
theorem ch_lt : ChR X .Lt (rI0 fun i j => .bl (decide (i < j))) oLt := ⟨op_lt, fun _ => lt_D⟩
theorem ch_le : ChR X .LtE (rI0 fun i j => .bl (decide (i ≤ j))) oLe := ⟨op_le, fun _ => le_D⟩
theorem ch_gt : ChR X .Gt (rI0 fun i j => .bl (decide (j < i))) oGt := ⟨op_gt, fun _ => gt_D⟩
theorem ch_ge : ChR X .GtE (rI0 fun i j => .bl (decide (j ≤ i))) oGe := ⟨op_ge, fun _ => ge_D⟩
theorem d_chain {op op' : CmpOp} {r r' : R2} {f f' : D → D → Option D} (h1 : ChR X op r f) (h2 : ChR X op' r' f') (ha : VD K mg X W a ta ga) (hb : VD K mg X W b tb gb) (hc : VD K mg X W c tc gc) (hm : lastMarks [op, op'] [b, c] = false := by with_unfolding_all rfl) :
    VD K mg X W (.Compare a [op, op'] [b, c] pos) (tChain r r' ta tb tc) (gChain f f' ga gb gc) := fun k m => ⟨pe_chain h1.op h2.op (ha k m).1 (hb k m).1 (hc k m).1 hm, ed_chain (h1.d K) (h2.d K) (ha k m).2 (hb k m).2 (hc k m).2⟩
theorem t_chain {op op' : CmpOp} {r r' : R2} {f f' : D → D → Option D} (h1 : ChR X op r f) (h2 : ChR X op' r' f') (ha : VD K mg X W a ta ga) (hb : VD K mg X W b tb gb) (hc : VD K mg X W c tc gc) (hm : lastMarks [op, op'] [b, c] = false := by with_unfolding_all rfl) :
    VT K mg X W (.Compare a [op, op'] [b, c] pos) (tTest (tChain r r' ta tb tc)) (gTest (gChain f f' ga gb gc)) := fun k m => ⟨pt_chain h1.op h2.op (ha k m).1 (hb k m).1 (hc k m).1 hm, et_test (ed_chain (h1.d K) (h2.d K) (ha k m).2 (hb k m).2 (hc k m).2)⟩
/-! ### tests -/
theorem t_tru (h : VD K mg X W a ta ga) (he : ∀ whole, isTrue a X.env whole = (do let v ← whole; standAt a.pos; holding [v] (truthy v)) := by intro _; rfl) : VT K mg X W a (fun σ H Q => ta σ H fun x H' => ∃ k, TruV K x H' k ∧ Q k H') (gTruth ga) := fun k m => by
  have h' := h k m
  subst k
  exact ⟨pt_truth h'.1 he, et_truth h'.2⟩
variable {tA tB : TT} {gA gB : G Bool} {rest : List Expr}
theorem t_not (h : VT K mg X W a tA gA) : VT K mg X W (.UnaryOp .Not a pos) (tNot tA) (gNot gA) := fun k m => ⟨pt_not (h k m).1, et_not (h k m).2⟩
theorem w_and (h : VT K mg X W a tA gA) (h2 : VW K mg X W (.BoolOp .And (b :: rest) pos) tB gB) : VW K mg X W (.BoolOp .And (a :: b :: rest) pos) (tAnd tA tB) (gAnd gA gB) := fun k m => ⟨pw_and (h k m).1 (h2 k m).1, et_and (h k m).2 (h2 k m).2⟩
theorem w_or (h : VT K mg X W a tA gA) (h2 : VW K mg X W (.BoolOp .Or (b :: rest) pos) tB gB) : VW K mg X W (.BoolOp .Or (a :: b :: rest) pos) (tOr tA tB) (gOr gA gB) := fun k m => ⟨pw_or (h k m).1 (h2 k m).1, et_or (h k m).2 (h2 k m).2⟩
theorem w_and1 (h : VT K mg X W a tA gA) : VW K mg X W (.BoolOp .And [a] pos) tA gA := fun k m => ⟨pw_and1 (h k m).1, (h k m).2⟩
theorem w_or1 (h : VT K mg X W a tA gA) : VW K mg X W (.BoolOp .Or [a] pos) tA gA := fun k m => ⟨pw_or1 (h k m).1, (h k m).2⟩
theorem t_w (h : VW K mg X W e tA gA) : VT K mg X W e tA gA := fun k m => ⟨(h k m).1.pt, (h k m).2⟩
theorem ts_nil : VTs K mg X W [] tYes gYes := fun _ _ => ⟨pts_nil, et_yes⟩
theorem ts_one (h : VT K mg X W a tA gA) : VTs K mg X W [a] tA gA := fun k m => ⟨pts_one (h k m).1, (h k m).2⟩
/-! ### and, or, not, if as values (truths) -/
theorem d_one {op} (h : VD K mg X W a ta ga) : VD K mg X W (.BoolOp op [a] pos) ta ga := fun k m => ⟨pe_one (h k m).1, (h k m).2⟩
theorem d_and (h : VD K mg X W a ta ga) (h2 : VD K mg X W (.BoolOp .And (b :: rest) pos) tb gb) : VD K mg X W (.BoolOp .And (a :: b :: rest) pos) (tAndV ta tb) (gAndV ga gb) := fun k m => ⟨pe_and (h k m).1 (h2 k m).1, ed_andV (h k m).2 (h2 k m).2⟩
theorem d_or (h : VD K mg X W a ta ga) (h2 : VD K mg X W (.BoolOp .Or (b :: rest) pos) tb gb) : VD K mg X W (.BoolOp .Or (a :: b :: rest) pos) (tOrV ta tb) (gOrV ga gb) := fun k m => ⟨pe_or (h k m).1 (h2 k m).1, ed_orV (h k m).2 (h2 k m).2⟩
theorem d_not (h : VD K mg X W a ta ga) : VD K mg X W (.UnaryOp .Not a pos) (tNotV ta) (gNotV ga) := fun k m => ⟨pe_not (h k m).1, ed_notV (h k m).2⟩
theorem d_if (ht : VT K mg X W c tA gA) (ha : VD K mg X W a ta ga) (hb : VD K mg X W b tb gb) : VD K mg X W (.IfExp c a b pos) (tIf tA ta tb) (gIfE gA ga gb) := fun k m => ⟨pe_ifExp (ht k m).1 (ha k m).1 (hb k m).1, ed_if (ht k m).2 (ha k m).2 (hb k m).2⟩
theorem o_if (ht : VT K mg X W c tA gA) (ha : VO K mg X W a ta go) (hb : VO K mg X W b tb gp) : VO K mg X W (.IfExp c a b pos) (tIf tA ta tb) (gIfE gA go gp) := fun k m => ⟨pe_ifExp (ht k m).1 (ha k m).1 (hb k m).1, eo_if (ht k m).2 (ha k m).2 (hb k m).2⟩
/-! ### displays -/
theorem a_nil : VA K mg X W [] tNil gNilA := fun _ _ => ⟨pa_nil, ea_nil⟩
theorem a_cons (h : VD K mg X W a ta ga) (hr : VA K mg X W es tl gl) (hs : starEach (a :: es) X.env = (false, eval a X.env) :: starEach es X.env := by rfl) : VA K mg X W (a :: es) (tCons ta tl) (gConsA ga gl) := fun k m => ⟨pa_cons (h k m).1 (hr k m).1 hs, ea_cons (h k m).2 (hr k m).2⟩
theorem d_tup {x1} (h : VA K mg X W es tl gl) : VD K mg X W (.Tuple es x1 pos) (tTup tl) (gTup gl) := fun k m => ⟨pe_tup (h k m).1, ed_tup (h k m).2⟩
theorem o_lst (h : VA K mg X W es tl gl) : VO K mg X W (.List es pos) (tLst tl) (gLst gl) := fun k m => ⟨pe_lst (h k m).1, eo_lst (h k m).2⟩
/-! ### subscripts and slices -/
theorem d_ix (ha : VD K mg X W a ta ga) (hb : VD K mg X W b tb gb) (hs : PlainIx b := by exact fun _ _ => rfl) : VD K mg X W (.Subscript a b pos) (tOp (rIx K) ta tb) (g2 oIx ga gb) := fun k m => ⟨pe_ix (by subst k; exact ix_seq) (ha k m).1 (hb k m).1 hs, ed_op (ix_D K) (ha k m).2 (hb k m).2⟩
theorem d_ixS (ha : VS K mg X W a ta gs) (hb : VD K mg X W b tb gb) (hs : PlainIx b := by exact fun _ _ => rfl) : VD K mg X W (.Subscript a b pos) (tOp (rIx K) ta tb) (gIxS gs gb) := fun k m => ⟨pe_ix (by subst k; exact ix_seq) (ha k m).1 (hb k m).1 hs, ed_ixS (ha k m).2 (hb k m).2⟩
theorem p_none : VP K mg X W none tNoPart gNoP := fun _ _ => ⟨po_none, ep_none⟩
theorem p_some (h : VD K mg X W a ta ga) : VP K mg X W (some a) (tPart ta) (gP ga) := fun k m => ⟨po_some (h k m).1, ep_some (h k m).2⟩
variable {lo hi : Option Expr} {tlo thi : TO} {glo ghi : G (Option Int)} {p2 : Pos}
theorem d_sl (ha : VD K mg X W a ta ga) (h1 : VP K mg X W lo tlo glo) (h2 : VP K mg X W hi thi ghi) : VD K mg X W (.Subscript a (.Slice lo hi none p2) pos) (tSl (rSlD K) ta tlo thi) (gSl oSl ga glo ghi) := fun k m => ⟨pe_slice (by subst k; exact sl_D) (ha k m).1 (h1 k m).1 (h2 k m).1, ed_sl (slice_D K) (ha k m).2 (h1 k m).2 (h2 k m).2⟩
theorem o_slL (ha : VS K mg X W a ta gs) (h1 : VP K mg X W lo tlo glo) (h2 : VP K mg X W hi thi ghi) : VO K mg X W (.Subscript a (.Slice lo hi none p2) pos) (tSl (rSlL K) ta tlo thi) (gSlL gs glo ghi) := fun k m => ⟨pe_slice (by subst k; exact sl_list) (ha k m).1 (h1 k m).1 (h2 k m).1, eo_slL (ha k m).2 (h1 k m).2 (h2 k m).2⟩
/-! ### built-in calls -/
variable {x : Str} {p : Pos}
theorem d_len (hm : mg "len" = none) (ha : VD K mg X W a ta ga) (hg : Gl X "len" := by rfl) (he : starEach [a] X.env = [(false, eval a X.env)] := by rfl) : VD K mg X W (.Call (.Name "len" p) [a] [] pos) (tCB (fun xs H Q => ∃ x n, xs = [x] ∧ LenV K x H n ∧ Q (.int n) H) (tCons ta tNil)) (gCal oLen (gConsA ga gNilA)) := fun k m => by
  have h := ha k m
  subst k m
  exact ⟨pe_callB call_len hg hm boot_len (pa_cons h.1 pa_nil he) (by decide) (by decide) he rfl, ed_cal (len_D _) (ea_cons h.2 ea_nil)⟩
theorem d_lenS (hm : mg "len" = none) (ha : VS K mg X W a ta gs) (hg : Gl X "len" := by rfl) (he : starEach [a] X.env = [(false, eval a X.env)] := by rfl) : VD K mg X W (.Call (.Name "len" p) [a] [] pos) (tCB (fun xs H Q => ∃ x n, xs = [x] ∧ LenV K x H n ∧ Q (.int n) H) (tCons ta tNil)) (gLenS gs) := fun k m => by
  have h := ha k m
  subst k m
  exact ⟨pe_callB call_len hg hm boot_len (pa_cons h.1 pa_nil he) (by decide) (by decide) he rfl, ed_lenS h.2⟩
theorem d_min2 (hc : X.calm = true) (hm : mg "min" = none) (ha : VA K mg X W [a, b] tl gl) (hg : Gl X "min" := by rfl) (he : starEach [a, b] X.env = (false, eval a X.env) :: starEach [b] X.env := by rfl) (hpl : (backTo pos (starEach [b] X.env)).any (·.1) = false := by rfl) :
    VD K mg X W (.Call (.Name "min" p) [a, b] [] pos) (tCB (fun xs H Q => ∃ i j, xs = [.int i, .int j] ∧ Q (.int (if j < i then j else i)) H) tl) (gCal oMin2 gl) := fun k m => by
  have h := ha k m
  subst k m
  exact ⟨pe_callB (call_min2 hc) hg hm boot_min h.1 (by decide) (by decide) he hpl, ed_cal (min2_D _) h.2⟩
theorem d_max2 (hc : X.calm = true) (hm : mg "max" = none) (ha : VA K mg X W [a, b] tl gl) (hg : Gl X "max" := by rfl) (he : starEach [a, b] X.env = (false, eval a X.env) :: starEach [b] X.env := by rfl) (hpl : (backTo pos (starEach [b] X.env)).any (·.1) = false := by rfl) :
    VD K mg X W (.Call (.Name "max" p) [a, b] [] pos) (tCB (fun xs H Q => ∃ i j, xs = [.int i, .int j] ∧ Q (.int (if j > i then j else i)) H) tl) (gCal oMax2 gl) := fun k m => by
  have h := ha k m
  subst k m
  exact ⟨pe_callB (call_max2 hc) hg hm boot_max h.1 (by decide) (by decide) he hpl, ed_cal (max2_D _) h.2⟩
theorem d_strI (hm : mg "str" = none) (ha : VD K mg X W a ta ga) (hg : Gl X "str" := by rfl) (he : starEach [a] X.env = [(false, eval a X.env)] := by rfl) : VD K mg X W (.Call (.Name "str" p) [a] [] pos) (tCB (fun xs H Q => ∃ i, xs = [.int i] ∧ i.natAbs.log2 < 1920 ∧ Q (.str (toString i)) H) (tCons ta tNil)) (gCal oStrI (gConsA ga gNilA)) := fun k m => by
  have h := ha k m
  subst k m
  exact ⟨pe_callTy call_str_int hg hm boot_str (pa_cons h.1 pa_nil he) (by decide) (by decide) he rfl, ed_cal (strI_D _) (ea_cons h.2 ea_nil)⟩
theorem o_list (hm : mg "list" = none) (ha : VS K mg X W a ta gs) (hg : Gl X "list" := by rfl) (he : starEach [a] X.env = [(false, eval a X.env)] := by rfl) : VO K mg X W (.Call (.Name "list" p) [a] [] pos) (tCB (fun xs H Q => ∃ p ys, xs = [.ref p] ∧ (SqL K H p ys ∨ SqT K H p ys) ∧ ∀ l, H l = none → Q (.ref l) (upd H l (.lst ys))) (tCons ta tNil)) (gListS gs) := fun k m => by
  have h := ha k m
  subst k m
  exact ⟨pe_callTy call_list_of hg hm boot_list (pa_cons h.1 pa_nil he) (by decide) (by decide) he rfl, eo_listS h.2⟩
theorem d_tuple (hm : mg "tuple" = none) (ha : VS K mg X W a ta gs) (hg : Gl X "tuple" := by rfl) (he : starEach [a] X.env = [(false, eval a X.env)] := by rfl) : VD K mg X W (.Call (.Name "tuple" p) [a] [] pos) (tCB (fun xs H Q => ∃ p ys, xs = [.ref p] ∧ ((SqL K H p ys ∧ ∀ l, H l = none → Q (.ref l) (upd H l (.tup ys))) ∨ (SqT K H p ys ∧ Q (.ref p) H))) (tCons ta tNil)) (gTupS gs) := fun k m => by
  have h := ha k m
  subst k m
  exact ⟨pe_callTy call_tuple_of hg hm boot_tuple (pa_cons h.1 pa_nil he) (by decide) (by decide) he rfl, ed_tupS h.2⟩
theorem d_all (hc : X.calm = true) (hm : mg "all" = none) (ha : VS K mg X W a ta gs) (hg : Gl X "all" := by rfl) (he : starEach [a] X.env = [(false, eval a X.env)] := by rfl) : VD K mg X W (.Call (.Name "all" p) [a] [] pos) (tCB (rAll K) (tCons ta tNil)) (gAllS gs) := fun k m => by
  have h := ha k m
  subst k m
  exact ⟨pe_callB (cr_all hc) hg hm boot_all (pa_cons h.1 pa_nil he) (by decide) (by decide) he rfl, ed_allS h.2⟩
theorem d_sum (hc : X.calm = true) (hm : mg "sum" = none) (ha : VS K mg X W a ta gs) (hg : Gl X "sum" := by rfl) (he : starEach [a] X.env = [(false, eval a X.env)] := by rfl) : VD K mg X W (.Call (.Name "sum" p) [a] [] pos) (tCB (rSum K) (tCons ta tNil)) (gSumS gs) := fun k m => by
  have h := ha k m
  subst k m
  exact ⟨pe_callB (cr_sum hc) hg hm boot_sum (pa_cons h.1 pa_nil he) (by decide) (by decide) he rfl, ed_sumS h.2⟩
/-- isinstance(x, T), T a built-in class by its name -/
def gIsi (t : String) (a : G D) : G D := g1 (fun x => some (.bl (isI t x))) a
theorem d_isi (t : String) {tn : Str} (hv : bootBuiltins tn = some (.type t)) (ht : t = "int" ∨ t = "str" ∨ t = "tuple" ∨ t = "list" ∨ t = "bool" ∨ t = "dict") (hm : mg "isinstance" = none) (hm2 : mg tn = none) (ha : VD K mg X W a ta ga)
    (hn : tn ≠ "__name__" := by decide) (hdb : (tn == ("__debug__" : Str)) = false := by decide) (hg : Gl X "isinstance" := by rfl) (hg2 : Gl X tn := by rfl) {pt : Pos} (he : starEach [a, .Name tn pt] X.env = (false, eval a X.env) :: starEach [.Name tn pt] X.env := by rfl) (he2 : starEach [.Name tn pt] X.env = [(false, eval (.Name tn pt) X.env)] := by rfl)
    (hpl : (backTo pos (starEach [.Name tn pt] X.env)).any (·.1) = false := by rfl) : VD K mg X W (.Call (.Name "isinstance" p) [a, .Name tn pt] [] pos) (tCB (rIsi K) (tCons ta (tCons (tC (.ty t)) tNil))) (gIsi t ga) := fun k m => by
  have h := ha k m
  subst k m
  refine ⟨pe_callB call_isi hg hm boot_isinstance (pa_cons h.1 (pa_cons (pe_bltn hg2 hm2 hv rfl hn hdb) pa_nil he2) he) (by decide) (by decide) he hpl, fun σ H Γ fp R Q hp => h.2.go R hp fun x Γ1 v H1 fp1 hp R1 a1 s1 => ?_⟩
  exact ⟨v, .ty t, _, _, _, rfl, .ty t, a1.ty, kit_ty (kit_all t ht x), hp _ H1 fp1 R1 (.bl _) s1⟩
theorem d_join {apos : Pos} (ha : VD K mg X W a ta ga) (hb : VS K mg X W b tb gs) (hs : starEach [b] X.env = [(false, eval b X.env)] := by rfl) (hbase : attributeBase a "join" X.env (eval a X.env) = eval a X.env := by rfl) (hline : (apos.endLine == pos.line) = true := by rfl) :
    VD K mg X W (.Call (.Attribute a "join" apos) [b] [] pos) (tM1 (fun x xs H Q => ∃ a p, ∃ ys : List Str, x = .str a ∧ xs = [.ref p] ∧ (SqL K H p (ys.map V.str) ∨ SqT K H p (ys.map V.str)) ∧
      (ys.map (·.length)).sum + ys.length * a.length ≤ 16777216 ∧ Q (.str (Txt.join a ys)) H) ta tb) (gJoin ga gs) := fun k m => by
  have h := ha k m
  have h2 := hb k m
  subst k
  exact ⟨pe_join h.1 h2.1 hs hbase hline, ed_join h.2 h2.2⟩
/-! ### what is walked, targets -/
variable {ti : TI} {gi : G (List D)} {tg : Expr} {t : TG} {ts us : List Nat} {h : D → Env → Option Env}
theorem i_seq (ha : VS K mg X W a ta gs) : VI K mg X W tg a (iSeq K ta) (gItems gs) := fun k m => by
  have h := ha k m
  subst k
  exact ⟨pi_seq h.1, ei_seq h.2⟩
theorem i_range1 (hm : mg "range" = none) (ha : VD K mg X W a ta ga) (hg : Gl X "range" := by rfl) (he : starEach [a] X.env = [(false, eval a X.env)] := by rfl) : VI K mg X W tg (.Call (.Name "range" p) [a] [] pos) (iRng1 (tCons ta tNil)) (gRange1 ga) := fun k m => by
  have h := ha k m
  subst k m
  exact ⟨pi_range1 hg hm (pa_cons h.1 pa_nil he) he, ei_range1 h.2⟩
theorem i_enum {elts : List Expr} {kk : Nat} {tpos : Pos} (hm : mg "enumerate" = none) (ha : VS K mg X W a ta gs) (hg : Gl X "enumerate" := by rfl) (he : starEach [a] X.env = [(false, eval a X.env)] := by rfl) : VI K mg X W (.Tuple elts kk tpos) (.Call (.Name "enumerate" p) [a] [] pos) (iEnum K (tCons ta tNil)) (gEnum gs) := fun k m => by
  have h := ha k m
  subst k m
  exact ⟨pi_enum hg hm (pa_cons h.1 pa_nil he) he, ei_enum h.2⟩
theorem l_name (i : Nat) {x : Str} (hN : X.N.Nodup) (hi : X.N[i]? = some x := by rfl) (hx : Loc X.env.scope x := by first | exact Or.inl rfl | exact Or.inr rfl) (hf : X.fn x = true ∨ X.env.scope.names.lookup x = some .local := by first | exact .inl rfl | exact .inr rfl) : VL K mg X W (.Name x pos) (L2.gName i) [i] (putD i) := fun _ _ => ⟨pg_name hN hi hx hf, lt_name i⟩
theorem ls_nil : VLs K mg X W [] gNil [] hNil := fun _ _ => ⟨pgs_nil, lts_nil⟩
theorem ls_cons {es : List Expr} {u : TGs} {r : List D → Env → Option Env} (h1 : VL K mg X W e t ts h) (h2 : VLs K mg X W es u us r) (hs : (assignEach (e :: es) X.env).map (·.2) = assign e X.env :: (assignEach es X.env).map (·.2) := by rfl) : VLs K mg X W (e :: es) (gCons t u) (ts ++ us) (hCons h r) := fun k m => ⟨pgs_cons (h1 k m).1 (h2 k m).1 hs, lts_cons (h1 k m).2 (h2 k m).2⟩
theorem l_tup {es : List Expr} {kk n : Nat} {u : TGs} {r : List D → Env → Option Env} (hc : X.calm = true) (h1 : VLs K mg X W es u us r) (hn : (assignEach es X.env).length = n := by rfl) (hst : (assignEach es X.env).findIdx? (·.1) = none := by rfl) : VL K mg X W (.Tuple es kk pos) (L2.gTup K n u) us (hTup n r) := fun k m => by
  have h := h1 k m
  subst k
  exact ⟨pg_tup hc h.1 hn hst, lt_tup h.2⟩
/-! ### comprehensions -/
abbrev W0 : WX := fun _ _ _ _ => False
theorem o_lc (own : List (Str × Nat)) (vs : List Nat) {elt iter : Expr} {ifs : List Expr} {scope : Scope} {tt : TT} {gt : G Bool} {tte : TE} {gge : G D} (hc : X.calm = true) (hN : X.N.Nodup) (hi : VI K mg X W tg iter ti gi) (ok : BlkOk X.N X.env.scope scope own) (hv : own.map (·.2) = vs) (hs : ∀ j ∈ ts, j ∈ vs)
    (hg : ∀ (s : Shared) (H : Hp) (C : Addr) (cl : List (Str × Addr)) (fp : List Addr), VL K mg (X.blk s H scope (compEnvC scope cl C X.env) fp) W0 tg t ts h)
    (ht : ∀ (s : Shared) (H : Hp) (C : Addr) (cl : List (Str × Addr)) (fp : List Addr), VTs K mg (X.blk s H scope (compEnvC scope cl C X.env) fp) W0 ifs tt gt)
    (he : ∀ (s : Shared) (H : Hp) (C : Addr) (cl : List (Str × Addr)) (fp : List Addr), VD K mg (X.blk s H scope (compEnvC scope cl C X.env) fp) W0 elt tte gge)
    (hst : ∀ x, foldedSetIterable iter X.env x = pure x := by intro _; rfl) : VO K mg X W (.ListComp elt [⟨tg, iter, ifs, 0⟩] scope pos) (tLc ti t tt tte (own.map (·.2))) (gLc gi h gt gge vs) := fun k m => by
  subst hv
  exact ⟨pe_lc hc hN (hi k m).1 ok (fun s H C cl fp => (hg s H C cl fp k m).1) (fun s H C cl fp => (ht s H C cl fp k m).1) (fun s H C cl fp => (he s H C cl fp k m).1) hst,
    eo_lc (hi k m).2 hs (hg {} (fun _ => none) 0 [] [] k m).2 (ht {} (fun _ => none) 0 [] [] k m).2 (he {} (fun _ => none) 0 [] [] k m).2⟩
end

section
variable {K : Frag} {mg : Str → Option Value} {X : Cx} {W : WX} {m : List Bool} {a b c e : Expr} {es : List Expr} {pos : Pos} {ta tb tc te : TE} {ga gb gc : G D} {gs gt : G Src} {go gp : G Ob} {tl : TA} {gl : G (List D)} {tA : TT} {gA : G Bool}
  {st : Stmt} {rest body orelse : List Stmt} {ts tu : TS} {gf gk : G Fl}
/-! ### statements -/
theorem b_nil : VB K mg X W m [] tNext gPass := fun _ _ => ⟨pss_nil, ss_pass⟩
theorem b_one (h : VSt K mg X W m st ts gf) : VB K mg X W m [st] ts gf := fun k n => ⟨pss_one (h k n).1, (h k n).2⟩
theorem b_cons (h : VSt K mg X W m st ts gf) (h2 : VB K mg X W m rest tu gk) : VB K mg X W m (st :: rest) (tSeq ts tu) (gSeq gf gk) := fun k n => ⟨pss_cons (h k n).1 (h2 k n).1, ss_seq (h k n).2 (h2 k n).2⟩
theorem st_pass : VSt K mg X W m (.Pass pos) tNext gPass := fun _ _ => ⟨ps_pass, ss_pass⟩
theorem st_break : VSt K mg X W m (.Break pos) tBreak gBk := fun _ _ => ⟨ps_break, ss_bk⟩
theorem st_continue : VSt K mg X W m (.Continue pos) tCont gCt := fun _ _ => ⟨ps_continue, ss_ct⟩
theorem st_retO (h : VO K mg X W e te go) : VSt K mg X W m (.Return (some e) pos) (tRet te) (gRet go) := fun k n => ⟨ps_ret (h k n).1, ss_ret (h k n).2⟩
theorem st_ret (h : VD K mg X W e te ga) : VSt K mg X W m (.Return (some e) pos) (tRet te) (gRetD ga) := fun k n => ⟨ps_ret (h k n).1, ss_retD (h k n).2⟩
theorem st_retN : VSt K mg X W m (.Return none pos) tRetN gRetN := fun _ _ => ⟨ps_retN, ss_retN⟩
theorem st_if (h : VT K mg X W c tA gA) (h1 : VB K mg X W m body ts gf) (h2 : VB K mg X W m orelse tu gk) : VSt K mg X W m (.If c body orelse pos) (tIfS tA ts tu) (gIf gA gf gk) := fun k n => ⟨ps_if (h k n).1 (h1 k n).1 (h2 k n).1, ss_if (h k n).2 (h1 k n).2 (h2 k n).2⟩
theorem st_asg (i : Nat) {x : Str} {pos' : Pos} (hN : X.N.Nodup) (h : VD K mg X W e te ga) (hm : m[i]? ≠ some true := by decide) (hi : X.N[i]? = some x := by rfl) (hx : Loc X.env.scope x := by first | exact Or.inl rfl | exact Or.inr rfl) (hs : swapsWith e (some (.Name x pos')) pos.line X.env = pure false := by rfl) (hf : X.fn x = true ∨ X.env.scope.names.lookup x = some .local := by first | exact .inl rfl | exact .inr rfl) :
    VSt K mg X W m (.Assign [.Name x pos'] e pos) (tAsg te (L2.gName i)) (gAsg i ga) := fun k n => ⟨ps_set hN hi hx (h k n).1 hs hf, ss_asg hm (h k n).2⟩
theorem st_asgO (i : Nat) {x : Str} {pos' : Pos} (hN : X.N.Nodup) (h : VO K mg X W e te go) (hm : m[i]? ≠ some true := by decide) (hi : X.N[i]? = some x := by rfl) (hx : Loc X.env.scope x := by first | exact Or.inl rfl | exact Or.inr rfl) (hs : swapsWith e (some (.Name x pos')) pos.line X.env = pure false := by rfl) (hf : X.fn x = true ∨ X.env.scope.names.lookup x = some .local := by first | exact .inl rfl | exact .inr rfl) :
    VSt K mg X W m (.Assign [.Name x pos'] e pos) (tAsg te (L2.gName i)) (gAsgO i go) := fun k n => ⟨ps_set hN hi hx (h k n).1 hs hf, ss_asgO hm (h k n).2⟩
/-- name = [.. for ..] -/
theorem st_asgLc (own : List (Str × Nat)) (vs : List Nat) (i : Nat) {y : Str} {py : Pos} {elt tg iter : Expr} {ifs : List Expr} {scope : Scope} {tt : TT} {gt : G Bool} {tte : TE} {gge : G D} {ti : TI} {gi : G (List D)} {t : TG} {ts : List Nat} {h : D → Env → Option Env} (hc : X.calm = true) (hN : X.N.Nodup)
    (hi : VI K mg X W tg iter ti gi) (ok : BlkOk X.N X.env.scope scope own) (hv : own.map (·.2) = vs) (hs : ∀ j ∈ ts, j ∈ vs)
    (hg : ∀ (s : Shared) (H : Hp) (C : Addr) (cl : List (Str × Addr)) (fp : List Addr), VL K mg (X.blk s H scope (compEnvC scope cl C X.env) fp) W0 tg t ts h)
    (ht : ∀ (s : Shared) (H : Hp) (C : Addr) (cl : List (Str × Addr)) (fp : List Addr), VTs K mg (X.blk s H scope (compEnvC scope cl C X.env) fp) W0 ifs tt gt)
    (he : ∀ (s : Shared) (H : Hp) (C : Addr) (cl : List (Str × Addr)) (fp : List Addr), VD K mg (X.blk s H scope (compEnvC scope cl C X.env) fp) W0 elt tte gge)
    {spos : Pos} (hsw2 : swapsWith (.ListComp elt [⟨tg, iter, ifs, 0⟩] scope pos) (some (.Name y py)) spos.line X.env = pure true)
    (hm : m[i]? ≠ some true := by decide) (hy : X.N[i]? = some y := by rfl) (hyl : X.env.scope.names.lookup y = some .local := by rfl)
    (hst : ∀ x, foldedSetIterable iter X.env x = pure x := by intro _; rfl) : VSt K mg X W m (.Assign [.Name y py] (.ListComp elt [⟨tg, iter, ifs, 0⟩] scope pos) spos) (tAsg (tLc ti t tt tte (own.map (·.2))) (L2.gName i)) (gAsgO i (gLc gi h gt gge vs)) := fun k n => by
  subst hv
  exact ⟨ps_setLc hc hN hy hyl hsw2 (hi k n).1 ok (fun s H C cl fp => (hg s H C cl fp k n).1) (fun s H C cl fp => (ht s H C cl fp k n).1) (fun s H C cl fp => (he s H C cl fp k n).1) hst,
    ss_asgO hm (eo_lc (hi k n).2 hs (hg {} (fun _ => none) 0 [] [] k n).2 (ht {} (fun _ => none) 0 [] [] k n).2 (he {} (fun _ => none) 0 [] [] k n).2)⟩
theorem st_asgT {tg : Expr} {t : TG} {us : List Nat} {h : D → Env → Option Env} (hl : VL K mg X W tg t us h) (he : VD K mg X W e te ga) (hm : ∀ i ∈ us, m[i]? ≠ some true := by decide) (hs : swapsWithSole [tg] e pos.line X.env = pure false := by rfl) (hw : swappedStores [tg] e X.env = pure none := by rfl)
    (h1 : (assignEach [tg] X.env).map (·.2) = [assign tg X.env] := by rfl) : VSt K mg X W m (.Assign [tg] e pos) (tAsg te t) (gAsgT h ga) := fun k n => ⟨ps_asg (he k n).1 (hl k n).1 hs hw h1, ss_asgT hm (hl k n).2 (he k n).2⟩
/-- x += e, x -= e of numbers -/
theorem st_augAdd (i : Nat) {x : Str} {pos' : Pos} (hN : X.N.Nodup) (h : VD K mg X W e te ga) (hm : m[i]? ≠ some true := by decide) (hi : X.N[i]? = some x := by rfl) (hx : Loc X.env.scope x := by first | exact Or.inl rfl | exact Or.inr rfl) (hf : X.fn x = true ∨ X.env.scope.names.lookup x = some .local := by first | exact .inl rfl | exact .inr rfl) :
    VSt K mg X W m (.AugAssign (.Name x pos') .Add e pos) (tAug i te (ipI fun i j => i + j)) (gAug (oI0 fun a b => .int (a + b)) i ga) := fun k n => ⟨ps_aug hN hi hx (h k n).1 ip_add hf, ss_aug hm ipI_D (h k n).2⟩
theorem st_augSub (i : Nat) {x : Str} {pos' : Pos} (hN : X.N.Nodup) (h : VD K mg X W e te ga) (hm : m[i]? ≠ some true := by decide) (hi : X.N[i]? = some x := by rfl) (hx : Loc X.env.scope x := by first | exact Or.inl rfl | exact Or.inr rfl) (hf : X.fn x = true ∨ X.env.scope.names.lookup x = some .local := by first | exact .inl rfl | exact .inr rfl) :
    VSt K mg X W m (.AugAssign (.Name x pos') .Sub e pos) (tAug i te (ipI fun i j => i - j)) (gAug (oI0 fun a b => .int (a - b)) i ga) := fun k n => ⟨ps_aug hN hi hx (h k n).1 ip_sub hf, ss_aug hm ipI_D (h k n).2⟩
theorem st_drop (h : VD K mg X W e te ga) (hs : swapsWith e none pos.line X.env = pure false := by rfl) : VSt K mg X W m (.Expr e pos) (tDrop te) (gDrop ga) := fun k n => ⟨ps_expr (h k n).1 hs, ss_drop (h k n).2⟩
theorem st_dropO (h : VO K mg X W e te go) (hs : swapsWith e none pos.line X.env = pure false := by rfl) : VSt K mg X W m (.Expr e pos) (tDrop te) (gDrop go) := fun k n => ⟨ps_expr (h k n).1 hs, ss_dropO (h k n).2⟩
/-- xs.append(e), xs.extend(e), xs.pop(), xs[i] = e: a list of one's own in slot i -/
theorem st_app (i : Nat) {x : Str} {px apos cpos : Pos} (h : VD K mg X W e te ga) (hN : X.N[i]? = some x := by rfl) (hv : Vis X.env.scope x := by first | exact Or.inl rfl | exact Or.inr (Or.inl rfl) | exact Or.inr (Or.inr rfl)) (hd : (x == ("__debug__" : Str)) = false := by decide)
    (hcd : (x == ("__classdict__" : Str)) = false := by decide) (he : starEach [e] X.env = [(false, eval e X.env)] := by rfl) (hbase : attributeBase (.Name x px) "append" X.env (eval (.Name x px) X.env) = eval (.Name x px) X.env := by rfl)
    (hfew : ((backTo cpos (starEach [e] X.env)).all (fun x => !x.1) && (backToKw cpos (keywordEach [] X.env)).all (fun x => x.1.isSome) && decide (([e] : List Expr).length + ([] : List Keyword).length + (if ([] : List Keyword).isEmpty then 0 else 1) < 30)) = true := by rfl)
    (hline : (apos.endLine == cpos.line) = true := by rfl) (hplain : (backTo cpos (starEach [] X.env)).any (·.1) = false := by rfl) (hs : swapsWith (.Call (.Attribute (.Name x px) "append" apos) [e] [] cpos) none pos.line X.env = pure false := by rfl) :
    VSt K mg X W m (.Expr (.Call (.Attribute (.Name x px) "append" apos) [e] [] cpos) pos) (tDrop (tBM K "list" rAppend (tVar i) (tCons te tNil))) (gApp i ga) := fun k n => by
  have h := h k n
  subst k
  exact ⟨ps_expr (pe_bm PySem.F.plainAttrs_list PySem.F.slot_list_append PySem.F.type_list_append mt_append (pe_var hN hv hd hcd) (pa_cons h.1 pa_nil he) hbase hfew hline he hplain) hs, ss_app h.2⟩
theorem st_ext (i : Nat) {x : Str} {px apos cpos : Pos} (h : VS K mg X W e te gs) (hN : X.N[i]? = some x := by rfl) (hv : Vis X.env.scope x := by first | exact Or.inl rfl | exact Or.inr (Or.inl rfl) | exact Or.inr (Or.inr rfl)) (hd : (x == ("__debug__" : Str)) = false := by decide)
    (hcd : (x == ("__classdict__" : Str)) = false := by decide) (he : starEach [e] X.env = [(false, eval e X.env)] := by rfl) (hbase : attributeBase (.Name x px) "extend" X.env (eval (.Name x px) X.env) = eval (.Name x px) X.env := by rfl)
    (hfew : ((backTo cpos (starEach [e] X.env)).all (fun x => !x.1) && (backToKw cpos (keywordEach [] X.env)).all (fun x => x.1.isSome) && decide (([e] : List Expr).length + ([] : List Keyword).length + (if ([] : List Keyword).isEmpty then 0 else 1) < 30)) = true := by rfl)
    (hline : (apos.endLine == cpos.line) = true := by rfl) (hplain : (backTo cpos (starEach [] X.env)).any (·.1) = false := by rfl) (hs : swapsWith (.Call (.Attribute (.Name x px) "extend" apos) [e] [] cpos) none pos.line X.env = pure false := by rfl) :
    VSt K mg X W m (.Expr (.Call (.Attribute (.Name x px) "extend" apos) [e] [] cpos) pos) (tDrop (tBM K "list" (rExtA K) (tVar i) (tCons te tNil))) (gExt i gs) := fun k n => by
  have h := h k n
  subst k
  exact ⟨ps_expr (pe_bm PySem.F.plainAttrs_list PySem.F.slot_list_extend PySem.F.type_list_extend mt_extA (pe_var hN hv hd hcd) (pa_cons h.1 pa_nil he) hbase hfew hline he hplain) hs, ss_ext h.2⟩
theorem d_pop (i : Nat) {x : Str} {px apos cpos : Pos} (hN : X.N[i]? = some x := by rfl) (hv : Vis X.env.scope x := by first | exact Or.inl rfl | exact Or.inr (Or.inl rfl) | exact Or.inr (Or.inr rfl)) (hd : (x == ("__debug__" : Str)) = false := by decide)
    (hcd : (x == ("__classdict__" : Str)) = false := by decide) (hbase : attributeBase (.Name x px) "pop" X.env (eval (.Name x px) X.env) = eval (.Name x px) X.env := by rfl) (hline : (apos.endLine == cpos.line) = true := by rfl) :
    VD K mg X W (.Call (.Attribute (.Name x px) "pop" apos) [] [] cpos) (tBM0 K "list" rPop (tVar i)) (gPop i) := fun k n => by
  subst k
  exact ⟨pe_bm0 PySem.F.plainAttrs_list PySem.F.slot_list_pop PySem.F.type_list_pop (fun pins s σ H x vs v us Q I rx rv h => mt_pop pins s σ H x vs v us Q I rx rv h) (pe_var hN hv hd hcd) hbase hline, ed_pop i⟩
theorem st_setIx (i : Nat) {x : Str} {px spos : Pos} {o : Expr} {to : TE} {gi : G D} (h : VD K mg X W e te ga) (h2 : VD K mg X W o to gi) (hN : X.N[i]? = some x := by rfl) (hv : Vis X.env.scope x := by first | exact Or.inl rfl | exact Or.inr (Or.inl rfl) | exact Or.inr (Or.inr rfl)) (hd : (x == ("__debug__" : Str)) = false := by decide)
    (hcd : (x == ("__classdict__" : Str)) = false := by decide)
    (ha : ∀ v, assign (.Subscript (.Name x px) o spos) X.env v = (do
      let ov ← holding [v] (eval (.Name x px) X.env)
      let iv ← holding [v, ov] (eval o X.env)
      standAt spos
      holding [v, ov, iv] (setItem ov iv v)
      release [v, ov, iv] []) := by intro _; rfl)
    (hs : swapsWithSole [.Subscript (.Name x px) o spos] e pos.line X.env = pure false := by rfl) (hw : swappedStores [.Subscript (.Name x px) o spos] e X.env = pure none := by rfl)
    (h1 : (assignEach [.Subscript (.Name x px) o spos] X.env).map (·.2) = [assign (.Subscript (.Name x px) o spos) X.env] := by rfl) :
    VSt K mg X W m (.Assign [.Subscript (.Name x px) o spos] e pos) (tAsg te (gSub (tVar i) to rSetL)) (gSetIx i ga gi) := fun k n =>
  ⟨ps_asg (h k n).1 (pg_sub (pe_var hN hv hd hcd) (h2 k n).1 set_list ha) hs hw h1, ss_setIx (h k n).2 (h2 k n).2⟩
/-! ### loops -/
theorem st_for {tg iter : Expr} {ti : TI} {gi : G (List D)} {t : TG} {us : List Nat} {h : D → Env → Option Env} (hp : PassesOwn (model X.prog X.w) X.A X.env X.xe) (hc : X.calm = true) (hi : VI K mg X W tg iter ti gi) (hl : VL K mg X W tg t us h) (hb : VB K mg X W m body ts gf) (hm : ∀ i ∈ us, m[i]? ≠ some true := by decide)
    (hs : ∀ x, foldedSetIterable iter X.env x = pure x := by intro _; rfl) : VSt K mg X W m (.For tg iter body [] pos) (tFor ti t ts) (gFor gi h gf) := fun k n => ⟨ps_for hp hc (hi k n).1 (hl k n).1 (hb k n).1 hs, ss_for (hi k n).2 hm (hl k n).2 (hb k n).2⟩
theorem st_while (n : Nat) (hp : PassesOwn (model X.prog X.w) X.A X.env X.xe) (hc : VT K mg X W c tA gA) (hb : VB K mg X W m body ts gf) : VSt K mg X W m (.While c body [] pos) (tWhile tA ts) (whileR gA gf n) := fun k l => ⟨ps_while hp (hc k l).1 (hb k l).1, ss_while n (hc k l).2 (hb k l).2⟩
/-! ### calls -/
variable {tcs : TA} {gcs : G (List Arg)}
theorem c_nil : VC K mg X W [] tNil gcNil := fun _ _ => ⟨pa_nil, ec_nil⟩
theorem c_cons {gg : G Arg} (h : VC1 K mg X W a ta gg) (hr : VC K mg X W es tcs gcs) (hs : starEach (a :: es) X.env = (false, eval a X.env) :: starEach es X.env := by rfl) : VC K mg X W (a :: es) (tCons ta tcs) (gcCons gg gcs) := fun k m => ⟨pa_cons (h k m).1 (hr k m).1 hs, ec_cons (h k m).2 (hr k m).2⟩
/-- a def of the module, ready to be called -/
structure Callee (K : Frag) (mg : Str → Option Value) (P : Program) (w : World) (base : Heap) (x : Str) (k : Nat) (ps : List Str) (mf : Mf) : Prop where
  ex : ∃ (f : Addr) (fd : FuncData), FnOk P w K mg base (L2.CX P w) k f fd ps (SpM K mg mf) ∧ mg x = some (.ref f) ∧ PySem.W.keepIn K (.ref f) = true ∧ Binds K fd ps []
theorem o_call {x : Str} {p : Pos} {n j : Nat} {ps : List Str} {mf : Mf} (F : Callee K mg X.prog X.w X.base x j ps mf) (hr : Room n X.A) (hj : j ≤ n) (tk : Takes X W) (ha : VC K mg X W (a :: es) tcs gcs) (hg : Gl X x := by rfl) (hdb : (x == ("__debug__" : Str)) = false := by decide) (he : starEach (a :: es) X.env = (false, eval a X.env) :: starEach es X.env := by rfl) (hpl : (backTo pos (starEach es X.env)).any (·.1) = false := by rfl) :
    VO K mg X W (.Call (.Name x p) (a :: es) [] pos) (tCallS (SpM K mg mf) (WE W) tcs) (gCall mf gcs) := fun k m => by
  have h := ha k m
  obtain ⟨f, fd, F, q1, q2, q3⟩ := F.ex
  subst k m
  exact ⟨pe_callS F (hr.mono hj) hg q1 q2 q3 (fun σ => passAt tk σ) h.1 hdb he hpl, eo_call h.2⟩
end
/-! ### a def keeps its promise -/
theorem spm_len {K : Frag} {mg : Str → Option Value} {N ps : List Str} {m : List Bool} {gf : G Fl} (hm : m.length = ps.length) : ∀ vs H Q E, SpM K mg (gBody m N.length gf) vs H Q E → vs.length = ps.length := fun vs H Q E h => by
  obtain ⟨os, fs, r, hp⟩ := h
  have hl := r.length
  have col : ∀ {m : List Bool} {os os' : List Ob} {Γ : Env}, collect m os Γ = some os' → os.length = m.length := by
    intro m
    induction m with
    | nil => intro os os' Γ e; cases os with
      | nil => rfl
      | cons => cases e
    | cons c m ih =>
      intro os os' Γ e
      cases os with
      | nil => cases c <;> cases e
      | cons o os =>
        cases Γ with
        | nil => cases c <;> cases o <;> cases e
        | cons g Γ =>
          cases c with
          | true =>
            cases g with
            | none => cases o <;> cases e
            | some o2 =>
              simp only [collect, Option.map_eq_some_iff] at e
              obtain ⟨os2, e, _⟩ := e
              exact congrArg (· + 1) (ih e)
          | false =>
            cases o with
            | d x =>
              simp only [collect, Option.map_eq_some_iff] at e
              obtain ⟨os2, e, _⟩ := e
              exact congrArg (· + 1) (ih e)
            | _ => cases e
  unfold gBody fin at hp
  cases eg : gf (os.map some ++ List.replicate (N.length - os.length) none) with
  | bad => rw [eg] at hp; exact hp.elim
  | ok fl Γ =>
    simp only [eg] at hp
    cases ec : collect m os Γ with
    | none => cases fl <;> simp only [ec] at hp <;> exact hp.elim
    | some os' => rw [hl, col ec, hm]
  | ex x Γ =>
    simp only [eg] at hp
    cases ec : collect m os Γ with
    | none => simp only [ec] at hp; exact hp.elim
    | some os' => rw [hl, col ec, hm]
theorem def_ok {P : Program} {w : World} {K : Frag} {mg : Str → Option Value} {base : Heap} {x qual : Str} {st : Stmt} {f : Addr} {fd : FuncData} {N ps : List Str} {k : Nat} {m : List Bool} {gf : G Fl} (F : Fun K x qual st f fd) (S : FnScope N ps (defScope st)) (hm : m.length = ps.length)
    (hb : ∀ (cdv : Value) (A : Around) (outer : List PySem.Env) (s : Shared) (H : Hp) (E : XK), Room k (A.deeper (envOfC qual (defScope st) s.heap.objs.size f cdv)) →
      Takes (cxOf (L2.CX P w) P w K mg base N qual (defScope st) f cdv A outer s H E) (fun cls d _ H => E cls d H) →
      PassesOwn (model P w) (cxOf (L2.CX P w) P w K mg base N qual (defScope st) f cdv A outer s H E).A (cxOf (L2.CX P w) P w K mg base N qual (defScope st) f cdv A outer s H E).env (cxOf (L2.CX P w) P w K mg base N qual (defScope st) f cdv A outer s H E).xe →
      ∃ ts, VB K mg (cxOf (L2.CX P w) P w K mg base N qual (defScope st) f cdv A outer s H E) (fun cls d _ H => E cls d H) m (defBody st) ts gf) :
    FnOk P w K mg base (L2.CX P w) (k + 1) f fd ps (SpM K mg (gBody m N.length gf)) := by
  have len := spm_len (K := K) (mg := mg) (N := N) (gf := gf) hm
  refine F.okX S len (fun cdv A outer s H vs Q E hr h => ?_)
  obtain ⟨ts, hv⟩ := hb cdv A outer s H E hr (takes_of rfl rfl rfl rfl) (passes_of rfl)
  have hv := hv rfl rfl
  exact ⟨ts, hv.1, body_ok hv.2 (by rw [len vs H Q E h, hm]; exact Nat.le_refl _) h⟩
/-- no fuel: nothing is promised -/
theorem def_none {P : Program} {w : World} {K : Frag} {mg : Str → Option Value} {base : Heap} {f : Addr} {fd : FuncData} {ps : List Str} {k : Nat} : FnOk P w K mg base (L2.CX P w) k f fd ps (SpM K mg fun _ => .bad) :=
  ⟨fun vs H Q E ⟨_, _, _, h⟩ => h.elim, fun _ _ _ _ _ _ _ _ _ _ _ _ _ ⟨_, _, _, h⟩ => h.elim⟩
/-! ### a law's end -/
/-- what is asked of a law's def -/
def spLaw (K : Frag) : Sp := fun vs H Q _ => ∃ (a : Addr) (ns : List Int), vs = [.ref a] ∧ FzL K H a (ns.map V.int) ∧ ns.length ≤ 63 ∧ ∀ H', Q (.bl true) H'
theorem spLaw_of {K : Frag} {H : Hp} {a : Addr} {ns : List Int} (hl : ns.length ≤ 63) (hO : Only H) (hS : SqL K H a (ns.map V.int)) : spLaw K [.ref a] H (fun v _ => v = .bl true) fun _ _ _ => False := by
  refine ⟨a, ns, rfl, ?_, hl, fun _ => rfl⟩
  rcases hS with (h | h) | h
  · rcases hO a with q | ⟨o, xs, q⟩
    · rw [q] at h; cases h
    · rw [q] at h; cases h
  · exact .inl h
  · exact .inr h
theorem noCX {P : Program} : ∀ (w : World) (H : Hp) (s : Shared) (e : Value) (s' : Shared), L2.CX P w [] H s (fun _ _ _ => False) e s' → False := fun _ _ _ _ _ ⟨_, _, _, _, _, _, _, _, _, _, _, _, z⟩ => z
theorem ats_ints {K : Frag} {H : Hp} : ∀ ns : List Int, Ats K H (ns.map V.int) (ns.map D.int)
  | [] => .nil
  | _ :: ns => .cons (.int _) (ats_ints ns)
/-- the law's mirror tells True: so does the law -/
theorem law_imp {P : Program} {w : World} {K : Frag} {mg : Str → Option Value} {k : Nat} {fa : Addr} {x : Str} {m : Mf} (ht : ∀ ns : List Int, ns.length ≤ 63 → ∃ os, m [.d (.fl (ns.map D.int))] = .ok (.d (.bl true)) os)
    (h : ∃ fd : FuncData, (∀ (s : Shared) (v : Value), BindsTo s fd ⟨[v], []⟩ [(x, v)]) ∧ ∀ base : Heap, K.In base → base.Ns mainGlobals mg → FnOk P w K mg base (L2.CX P w) k fa fd [x] (SpM K mg m)) :
    ∃ fd : FuncData, (∀ (s : Shared) (u : Value), BindsTo s fd ⟨[u], []⟩ [(x, u)]) ∧ ∀ base : Heap, K.In base → base.Ns mainGlobals mg → FnOk P w K mg base (L2.CX P w) k fa fd [x] (spLaw K) := by
  obtain ⟨fd, hb, hF⟩ := h
  refine ⟨fd, hb, fun base h1 h2 => (hF base h1 h2).imp fun vs H Q E ⟨a, ns, ev, hS, hl, q⟩ => ?_⟩
  subst ev
  obtain ⟨os, e⟩ := ht ns hl
  refine ⟨[.d (.fl (ns.map D.int))], _, Reps.cons (f := fun _ => False) (.d (.fl hS (ats_ints ns)) fun _ z => z) Reps.nil fun _ z => z.elim, ?_⟩
  rw [e]
  intro v H' fs' f r rv d s
  cases rv with
  | d a n => cases a; exact q H'
end Gm

/-! Gm8: loops over a slot's own list, which is lent to the loop. -/
namespace Gm
open PySem PySem.Spec PyProof.Rows L2
structure Walked where
  ds : List D
  bk : Option (Nat × Ob)
def giveBack : Option (Nat × Ob) → Env → Env
  | none, Γ => Γ
  | some p, Γ => Γ.set p.1 (some p.2)
section
variable (J : Jc) (m : List Bool)
def OkIB (σ : St) (F : Fp) (H : Hp) (R : It → Hp → Prop) (w : Walked) (Γ' : Env) : Prop := ∀ I H' fp' f, Rel J.K H' σ Γ' fp' → ItR J.K H' I w.ds f → (∀ b, f b → Own1 (H' b)) → (∀ b, f b → U fp' b → False) → Step F (fun b => f b ∨ U fp' b) H H' →
  (∀ H'' σ'' Γ'' fp'', Fr f H' H'' → Rel J.K H'' σ'' Γ'' fp'' → Kp m σ σ'' → (∀ b, f b → U fp'' b → False) → ∃ fp3, Rel J.K H'' σ'' (giveBack w.bk Γ'') fp3 ∧ ∀ b, U fp3 b → f b ∨ U fp'' b) → R I H'
def EIB (ti : TI) (g : G Walked) : Prop := ∀ σ H Γ fp, Rel J.K H σ Γ fp → ∀ R, Post (g Γ) (OkIB J m σ (U fp) H R) (XxE J σ (U fp) H) → ti σ H R
end
def endB (bk : Option (Nat × Ob)) (r : Res Fl Env) : Res Fl Env := match r with
  | .ok fl Γ => .ok fl (giveBack bk Γ)
  | .ex x Γ => .ex x (giveBack bk Γ)
  | .bad => .bad
theorem Post.endB {bk : Option (Nat × Ob)} {r : Res Fl Env} {A : Fl → Env → Prop} {B : Ex → Env → Prop} (h : Post (endB bk r) A B) : Post r (fun fl Γ => A fl (giveBack bk Γ)) (fun x Γ => B x (giveBack bk Γ)) := by
  cases r with
  | ok fl Γ => exact h
  | ex x Γ => exact h
  | bad => exact h
def gForB (it : G Walked) (h : D → Env → Option Env) (b : G Fl) (Γ : Env) : Res Fl Env := (it Γ).bind fun w Γ => endB w.bk (forR h b w.ds Γ)
def gLcB (it : G Walked) (h : D → Env → Option Env) (t : G Bool) (e : G D) (vs : List Nat) (Γ : Env) : Res Ob Env := (it Γ).bind fun w Γ => match lcR h t e vs w.ds [] (wipeG Γ vs) with
  | .ok xs Γ => .ok (.lst xs) (giveBack w.bk Γ)
  | _ => .bad
/-- a slot's list, lent -/
@[simp] def gLend (i : Nat) (Γ : Env) : Res Walked Env := match lstAt Γ i with
  | some xs => .ok ⟨xs, some (i, .lst xs)⟩ (Γ.set i none)
  | none => .bad
@[simp] def gLendE (i : Nat) (Γ : Env) : Res Walked Env := match lstAt Γ i with
  | some xs => .ok ⟨enumD xs, some (i, .lst xs)⟩ (Γ.set i none)
  | none => .bad
section
variable {J : Jc} {m : List Bool}
theorem lend {σ : St} {H : Hp} {Γ : Env} {fp : Nat → Fp} {i : Nat} {xs : List D} (hm : m[i]? = some true) (R : Rel J.K H σ Γ fp) (e : lstAt Γ i = some xs) :
    ∃ p vs, σ[i]? = some (some (.ref p)) ∧ H p = some (.lst vs) ∧ Ats J.K H vs xs ∧ fp i p ∧ Rel J.K H σ (Γ.set i none) (fun j b => j ≠ i ∧ fp j b) ∧ (∀ b, fp i b → Own1 (H b)) ∧ (∀ b, fp i b → U (fun j b => j ≠ i ∧ fp j b) b → False) ∧ Step (U fp) (fun b => fp i b ∨ U (fun j b => j ≠ i ∧ fp j b) b) H H ∧
    ∀ H'' σ'' Γ'' fp'', Fr (fp i) H H'' → Rel J.K H'' σ'' Γ'' fp'' → Kp m σ σ'' → (∀ b, fp i b → U fp'' b → False) → ∃ fp3, Rel J.K H'' σ'' (giveBack (some (i, .lst xs)) Γ'') fp3 ∧ ∀ b, U fp3 b → fp i b ∨ U fp'' b := by
  obtain ⟨v, h1, h2, R2, hd, hu⟩ := R.take (lstAt_some e)
  have ho := h2.own
  cases id h2 with
  | lst hp ha hf =>
    refine ⟨_, _, h1, hp, ha, (hf _).mpr rfl, R2, ho, hd, (Step.refl _ _).sub fun b z => (hu b).mpr z, fun H'' σ'' Γ'' fp'' fr R3 k d => ?_⟩
    have r3 := h2.frame fr.1 fr.2
    obtain ⟨R4, u4⟩ := R3.put (σ' := σ'') (i := i) rfl ((k i hm).trans h1) (fun _ _ => rfl) r3 d
    exact ⟨_, R4, u4⟩
theorem eib_lend {i : Nat} (hm : m[i]? = some true) : EIB J m (iSeq J.K (tVar i)) (gLend i) := fun σ H Γ fp R K hp => by
  unfold gLend at hp
  cases e : lstAt Γ i with
  | none => rw [e] at hp; exact hp.elim
  | some xs =>
    rw [e] at hp
    obtain ⟨p, vs, h1, h2, h3, h4, h5, h6, h7, h8, h9⟩ := lend hm R e
    exact ⟨_, h1, .inl ⟨p, rfl, ⟨vs, .inl (.inl h2)⟩, hp _ H _ (fp i) h5 (itr_list (fun H' r => .inl (.inl (r.2 _ _ h4 h2))) h3) h6 h7 h8 h9⟩⟩
theorem eib_lendE {i : Nat} (hm : m[i]? = some true) : EIB J m (iEnum J.K (tCons (tVar i) tNil)) (gLendE i) := fun σ H Γ fp R K hp => by
  unfold gLendE at hp
  cases e : lstAt Γ i with
  | none => rw [e] at hp; exact hp.elim
  | some xs =>
    rw [e] at hp
    obtain ⟨p, vs, h1, h2, h3, h4, h5, h6, h7, h8, h9⟩ := lend hm R e
    exact ⟨_, h1, _, _, rfl, .inl (.inl h2), hp _ H _ (fp i) h5 (itr_enum (fun H' r => .inl (.inl (r.2 _ _ h4 h2))) h3) h6 h7 h8 h9⟩
theorem XxP.mask {m m' : List Bool} (hmm : ∀ i : Nat, m[i]? = some true → m'[i]? = some true) {σ : St} {F : Fp} {H : Hp} {x : Ex} {Γ : Env} (h : XxP J m σ F H x Γ) : XxP J m' σ F H x Γ := fun c d σ' H' fp' R k e s => h c d σ' H' fp' R (fun i hi => k i (hmm i hi)) e s
theorem ss_forB {m' : List Bool} (hmm : ∀ i : Nat, m[i]? = some true → m'[i]? = some true) {ti : TI} {gi : G Walked} {tg : TG} {ts : List Nat} {h : D → Env → Option Env} {tb : TS} {gb : G Fl} (hi : EIB J m' ti gi) (hm : ∀ i ∈ ts, m'[i]? ≠ some true) (ht : LT J tg ts h) (hb : SS J m' tb gb) : SS J m (tFor ti tg tb) (gForB gi h gb) := fun σ H Γ fp R D hp => by
  have km : ∀ {σ'}, Kp m' σ σ' → Kp m σ σ' := fun {σ'} k i hi => k i (hmm i hi)
  exact
  hi σ H Γ fp R _ ((Post.bind hp).imp (fun w Γ1 q I H1 fp1 f R1 it ho d1 s1 gb' => by
    obtain ⟨ds, bk⟩ := w
    have q := Post.endB q
    have fin : ∀ {fl Γ2 σ2 H2 fp2}, (fun fl Γ => FlP J m σ (U fp) H D fl (giveBack bk Γ)) fl Γ2 → (fl = .nx ∨ fl = .bk ∨ fl = .ct) → Rel J.K H2 σ2 Γ2 fp2 → Kp m' σ σ2 → (∀ b, f b → U fp2 b → False) → Fr f H1 H2 → Step (U fp) (fun b => f b ∨ U fp2 b) H H2 → match fl with | .nx => D.nx σ2 H2 | .bk => D.bk σ2 H2 | .ct => D.ct σ2 H2 | .rt _ => True := fun {fl Γ2 σ2 H2 fp2} q hfl R2 k2 d2 fr2 s2 => by
      obtain ⟨fp3, R3, u3⟩ := gb' H2 σ2 Γ2 fp2 fr2 R2 k2 d2
      have z := q σ2 H2 fp3 R3 (km k2)
      have s3 : Step (U fp) (U fp3) H H2 := s2.sub u3
      rcases hfl with rfl | rfl | rfl
      · exact z s3
      · exact z s3
      · exact z s3
    refine ⟨fun i k σ' H' => k = ds.length - i ∧ i ≤ ds.length ∧ ∃ Γ' fp', Rel J.K H' σ' Γ' fp' ∧ Kp m' σ σ' ∧ (∀ b, f b → U fp' b → False) ∧ (∀ b, f b → Own1 (H' b)) ∧ Fr f H1 H' ∧ Step (U fp) (fun b => f b ∨ U fp' b) H H' ∧ Post (forR h gb (ds.drop i) Γ') (fun fl Γ => FlP J m σ (U fp) H D fl (giveBack bk Γ)) (fun x Γ => XxP J m σ (U fp) H x (giveBack bk Γ)),
      ⟨ds.length, by simp, Nat.zero_le _, Γ1, fp1, R1, Kp.refl _ _, d1, ho, Fr.refl _ _, s1, q⟩, ?_⟩
    rintro i k σ2 H2 ⟨rfl, hi, Γ2, fp2, R2, k2, d2, ho2, fr2, s2, q⟩
    by_cases hlt : i < ds.length
    · have hx : ds[i]? = some ds[i] := List.getElem?_eq_getElem hlt
      obtain ⟨hgo, hy⟩ := (it H2 fr2 i).1 _ hx
      rw [List.drop_eq_getElem_cons hlt] at q
      simp only [forR] at q
      cases e : h ds[i] Γ2 with
      | none => simp only [e] at q; exact q.elim
      | some Γ3 =>
        simp only [e] at q
        refine .inr ⟨hgo, fun σ' H' => i + 1 ≤ ds.length ∧ ∃ Γ' fp', Rel J.K H' σ' Γ' fp' ∧ Kp m' σ σ' ∧ (∀ b, f b → U fp' b → False) ∧ (∀ b, f b → Own1 (H' b)) ∧ Fr f H1 H' ∧ Step (U fp) (fun b => f b ∨ U fp' b) H H' ∧ Post (forR h gb (ds.drop (i + 1)) Γ') (fun fl Γ => FlP J m σ (U fp) H D fl (giveBack bk Γ)) (fun x Γ => XxP J m σ (U fp) H x (giveBack bk Γ)), fun σ' H' n => ⟨ds.length - (i + 1), by omega, rfl, n.1, n.2⟩, fun v H3 y => ?_⟩
        obtain ⟨ex, av⟩ := hy v H3 y
        refine ht v _ σ2 H3 Γ2 fp2 Γ3 (R2.ext ex) av e _ fun σ4 fp4 R4 l4 k4 u4 => ?_
        have k4' : Kp m' σ σ4 := k2.trans (kp_of hm k4)
        have d4 : ∀ b, f b → U fp4 b → False := fun b z1 z2 => d2 b z1 (u4 b z2)
        have ho4 : ∀ b, f b → Own1 (H3 b) := fun b z => by
          obtain ⟨u, hu⟩ := (ho2 b z).some
          rw [ex b u hu, ← hu]
          exact ho2 b z
        have s4 : Step (U fp) (fun b => f b ∨ U fp4 b) H H3 := (s2.trans (Step.ofExt ex)).sub fun b z => z.imp id (u4 b)
        have fr4 : Fr f H1 H3 := fr2.trans ⟨ex.im, fun b u _ e => ex b u e⟩
        refine hb σ4 H3 Γ3 fp4 R4 _ ((Post.bind q).imp (fun fl Γ5 q σ5 H5 fp5 R5 k5 => ?_) fun x Γ5 z cls d σ5 H5 fp5 R5 k5 e5 s5 => by
          obtain ⟨fp6, R6, u6⟩ := gb' H5 σ5 Γ5 fp5 (fr4.trans (Fr.of s5 d4)) R5 (k4'.trans k5) (dis_step s5 ho4 d4)
          exact z cls d σ5 H5 fp6 R6 (km (k4'.trans k5)) e5 ((s4.trans s5.wide).sub u6))
        have again : Step (U fp4) (U fp5) H3 H5 → Post (forR h gb (ds.drop (i + 1)) Γ5) (fun fl Γ => FlP J m σ (U fp) H D fl (giveBack bk Γ)) (fun x Γ => XxP J m σ (U fp) H x (giveBack bk Γ)) → i + 1 ≤ ds.length ∧ ∃ Γ' fp', Rel J.K H5 σ5 Γ' fp' ∧ Kp m' σ σ5 ∧ (∀ b, f b → U fp' b → False) ∧ (∀ b, f b → Own1 (H5 b)) ∧ Fr f H1 H5 ∧ Step (U fp) (fun b => f b ∨ U fp' b) H H5 ∧ Post (forR h gb (ds.drop (i + 1)) Γ') (fun fl Γ => FlP J m σ (U fp) H D fl (giveBack bk Γ)) (fun x Γ => XxP J m σ (U fp) H x (giveBack bk Γ)) := fun s5 q => by
          refine ⟨hlt, Γ5, fp5, R5, k4'.trans k5, dis_step s5 ho4 d4, fun b z => ?_, fr4.trans (Fr.of s5 d4), s4.trans s5.wide, q⟩
          obtain ⟨u, hu⟩ := (ho4 b z).some
          rw [s5.keep b u hu fun z2 => d4 b z z2, ← hu]
          exact ho4 b z
        cases fl with
        | nx => exact fun s5 => again s5 q
        | ct => exact fun s5 => again s5 q
        | bk => exact fun s5 => fin (fl := .nx) q (.inl rfl) R5 (k4'.trans k5) (dis_step s5 ho4 d4) (fr4.trans (Fr.of s5 d4)) (s4.trans s5.wide)
        | rt o =>
          intro v f' r d s5
          have k5' := k4'.trans k5
          obtain ⟨fp6, R6, u6⟩ := gb' H5 σ5 Γ5 fp5 (fr4.trans (Fr.of (F' := fun b => f' b ∨ U fp5 b) s5 d4)) R5 k5' (dis_step (s5.sub fun _ => .inr) ho4 d4)
          refine q σ5 H5 fp6 R6 (km k5') v f' r (fun b z1 z2 => ?_) ((s4.trans s5.wide).sub fun b z => ?_)
          · rcases u6 b z2 with z | z
            · rcases s5.fresh b (.inl z1) with y | y
              · exact d4 b z y
              · exact (ho4 b z).ne_none y
            · exact d b z1 z
          · rcases z with z | z
            · exact .inr (.inl z)
            · exact (u6 b z).imp id .inr
    · have e : i = ds.length := by omega
      subst e
      refine .inl ⟨(it H2 fr2 _).2 (Nat.le_refl _), ?_⟩
      rw [List.drop_length] at q
      exact fin (fl := .nx) q (.inl rfl) R2 k2 d2 fr2 s2) fun _ _ z => z.e)
theorem eo_lcB {m' : List Bool} {ti : TI} {gi : G Walked} {tg : TG} {ts vs : List Nat} {h : D → Env → Option Env} {tt : TT} {gt : G Bool} {te : TE} {ge : G D} (hi : EIB J m' ti gi) (hs : ∀ j ∈ ts, j ∈ vs) (ht : LT J.none tg ts h) (htt : ET J.none tt gt) (he : ED J.none te ge) :
    EO J (tLc ti tg tt te vs) (gLcB gi h gt ge vs) := fun σ H Γ fp R Q hp =>
  hi σ H Γ fp R _ ((Post.bind hp).imp (fun w Γ1 q I H1 fp1 f R1 it ho d1 s1 gb' => by
    obtain ⟨ds, bk⟩ := w
    intro L nL
    cases er : lcR h gt ge vs ds [] (wipeG Γ1 vs) with
    | ex x Γ2 => simp only [er] at q; exact q.elim
    | bad => simp only [er] at q; exact q.elim
    | ok xs Γf =>
      simp only [er] at q
      obtain ⟨fp2, R2, u2⟩ := R1.wipe vs
      have nfL : ¬ f L := fun z => (ho L z).ne_none nL
      refine ⟨fun i k H' => k = ds.length - i ∧ i ≤ ds.length ∧ ∃ acc accD Γ' fp', H' L = some (.lst acc) ∧ Ats J.K H' acc accD ∧ Rel J.K H' (L2.wipe σ vs) Γ' fp' ∧ (∀ b, (b = L ∨ f b) → U fp' b → False) ∧ (∀ b, f b → Own1 (H' b)) ∧ Fr f H1 H' ∧ Step (U fp) (fun b => (b = L ∨ f b) ∨ U fp' b) H H' ∧ lcR h gt ge vs (ds.drop i) accD Γ' = .ok xs Γf,
        ⟨ds.length, by simp, Nat.zero_le _, [], [], _, fp2, upd_same, .nil, R2.ext (Ext.new nL), fun b z1 z2 => ?_, fun b z => ?_, ⟨(Ext.new nL).im, fun b u _ e => Ext.new nL b u e⟩, ?_, er⟩, ?_⟩
      · rcases z1 with z1 | z1
        · exact R1.nofp nL (z1 ▸ u2 b z2)
        · exact d1 b z1 (u2 b z2)
      · obtain ⟨u, hu⟩ := (ho b z).some
        rw [Ext.new nL b u hu, ← hu]
        exact ho b z
      · refine ⟨s1.im.trans (Ext.new nL).im, fun b o e n => Ext.new nL b o (s1.keep b o e n), fun b z => ?_⟩
        rcases z with (z | z) | z
        · subst z
          cases e : H b with
          | none => exact .inr rfl
          | some o =>
            by_cases n : U fp b
            · exact .inl n
            · rw [s1.keep b o e n] at nL; cases nL
        · exact s1.fresh b (.inl z)
        · exact s1.fresh b (.inr (u2 b z))
      rintro i k H2 ⟨rfl, hi, acc, accD, Γ2, fp3, hL, ha, R3, d3, ho3, fr3, s3, er⟩
      by_cases hlt : i < ds.length
      · have hx : ds[i]? = some ds[i] := List.getElem?_eq_getElem hlt
        obtain ⟨hgo, hy⟩ := (it H2 fr3 i).1 _ hx
        rw [List.drop_eq_getElem_cons hlt] at er
        simp only [lcR] at er
        cases e : h ds[i] Γ2 with
        | none => simp only [e] at er; cases er
        | some Γ3 =>
          simp only [e] at er
          refine .inr ⟨hgo, fun H' => i + 1 ≤ ds.length ∧ ∃ acc accD Γ' fp', H' L = some (.lst acc) ∧ Ats J.K H' acc accD ∧ Rel J.K H' (L2.wipe σ vs) Γ' fp' ∧ (∀ b, (b = L ∨ f b) → U fp' b → False) ∧ (∀ b, f b → Own1 (H' b)) ∧ Fr f H1 H' ∧ Step (U fp) (fun b => (b = L ∨ f b) ∨ U fp' b) H H' ∧ lcR h gt ge vs (ds.drop (i + 1)) accD Γ' = .ok xs Γf, fun H' n => ⟨ds.length - (i + 1), by omega, rfl, n.1, n.2⟩, fun v H3 y => ?_⟩
          obtain ⟨ex, av⟩ := hy v H3 y
          refine ht v _ (L2.wipe σ vs) H3 Γ2 fp3 Γ3 (R3.ext ex) av e _ fun σ4 fp4 R4 l4 k4 u4 => ?_
          have w4 : L2.wipe σ4 vs = L2.wipe σ vs := by
            have e1 : L2.wipe σ4 vs = L2.wipe (L2.wipe σ vs) vs := wipe_eq l4 fun j hj => k4 j fun z => hj (hs j z)
            rw [e1]
            exact wipe_eq (wipe_length _ _) fun j hj => wipe_out hj
          refine ⟨w4, ?_⟩
          have hL3 : H3 L = some (.lst acc) := ex L _ hL
          have d4 : ∀ b, (b = L ∨ f b) → U fp4 b → False := fun b z1 z2 => d3 b z1 (u4 b z2)
          have own : ∀ {H : Hp} {acc : List V}, H L = some (.lst acc) → (∀ b, f b → Own1 (H b)) → ∀ b, (b = L ∨ f b) → Own1 (H b) := fun {H acc} e hf b z => z.elim (fun z => by rw [z, e]; trivial) fun z => hf b z
          have ho4 : ∀ b, f b → Own1 (H3 b) := fun b z => by
            obtain ⟨u, hu⟩ := (ho3 b z).some
            rw [ex b u hu, ← hu]
            exact ho3 b z
          have s4 : Step (U fp) (fun b => (b = L ∨ f b) ∨ U fp4 b) H H3 := (s3.trans (Step.ofExt ex)).sub fun b z => z.imp id (u4 b)
          have fr4 : Fr f H1 H3 := fr3.trans ⟨ex.im, fun b u _ e => ex b u e⟩
          have a4 := ha.mono ex.im
          -- behind a step that leaves L and f alone
          have go : ∀ {H5 : Hp} {fp5 : Nat → Fp}, Step (U fp4) (U fp5) H3 H5 → H5 L = some (.lst acc) ∧ (∀ b, (b = L ∨ f b) → U fp5 b → False) ∧ (∀ b, f b → Own1 (H5 b)) ∧ Fr f H1 H5 ∧ Step (U fp) (fun b => (b = L ∨ f b) ∨ U fp5 b) H H5 := fun {H5 fp5} s5 =>
            ⟨s5.keep L _ hL3 fun z => d4 L (.inl rfl) z, dis_step s5 (own hL3 ho4) d4, fun b z => by
              obtain ⟨u, hu⟩ := (ho4 b z).some
              rw [s5.keep b u hu fun z2 => d4 b (.inr z) z2, ← hu]
              exact ho4 b z, fr4.trans (Fr.of s5 fun b z => d4 b (.inr z)), s4.trans s5.wide⟩
          refine htt σ4 H3 Γ3 fp4 R4 _ ?_
          cases et : gt Γ3 with
          | ex x Γ4 => simp only [et] at er; cases er
          | bad => simp only [et] at er; cases er
          | ok b Γ4 =>
            simp only [et] at er
            intro H5 fp5 R5 s5
            cases b with
            | false =>
              simp only [Bool.false_eq_true, if_false] at er
              show if false = true then _ else _
              rw [if_neg Bool.false_ne_true]
              obtain ⟨g1, g2, g3, g4, g5⟩ := go s5
              obtain ⟨fp6, R6, u6⟩ := R5.wipe vs
              rw [w4] at R6
              exact ⟨hlt, acc, accD, _, fp6, g1, a4.mono s5.im, R6, fun b z1 z2 => g2 b z1 (u6 b z2), g3, g4, g5.sub fun b z => z.imp id (u6 b), er⟩
            | true =>
              simp only [if_true] at er
              show if true = true then _ else _
              rw [if_pos rfl]
              refine he σ4 H5 Γ4 fp5 R5 _ ?_
              cases ee : ge Γ4 with
              | ex x Γ5 => simp only [ee] at er; cases er
              | bad => simp only [ee] at er; cases er
              | ok y Γ5 =>
                simp only [ee] at er
                by_cases c : small accD.length = true
                · rw [if_pos c] at er
                  intro w H6 fp6 R6 aw s6
                  obtain ⟨g1, g2, g3, g4, g5⟩ := go (s5.trans s6)
                  have im : Im H6 (upd H6 L (.lst (acc ++ [w]))) := ⟨fun b xs e => by rw [upd_ne (show b ≠ L from fun z => by rw [z, g1] at e; cases e)]; exact e, fun b x y e => by rw [upd_ne (show b ≠ L from fun z => by rw [z, g1] at e; cases e)]; exact e, fun b y e => by rw [upd_ne (show b ≠ L from fun z => by rw [z, g1] at e; cases e)]; exact e, fun b y e => by rw [upd_ne (show b ≠ L from fun z => by rw [z, g1] at e; cases e)]; exact e⟩
                  have R7 : Rel J.K (upd H6 L (.lst (acc ++ [w]))) σ4 Γ5 fp6 := R6.frame im fun b u hb e => by rw [upd_ne (show b ≠ L from fun z => g2 L (.inl rfl) (z ▸ hb))]; exact e
                  obtain ⟨fp8, R8, u8⟩ := R7.wipe vs
                  rw [w4] at R8
                  have kf : ∀ b, f b → (upd H6 L (.lst (acc ++ [w]))) b = H6 b := fun b z => upd_ne (show b ≠ L from fun e => nfL (e ▸ z))
                  refine ⟨acc, g1, by rw [ha.length]; exact small_lt c, hlt, acc ++ [w], accD ++ [y], _, fp8, upd_same, ((a4.mono (s5.im.trans s6.im)).append (.cons aw .nil)).mono im, R8, fun b z1 z2 => g2 b z1 (u8 b z2), fun b z => by rw [kf b z]; exact g3 b z, g4.trans ⟨im, fun b u z e => by rw [kf b z]; exact e⟩, ?_, er⟩
                  refine ⟨g5.im.trans im, fun b o e n => ?_, fun b z => g5.fresh b (z.imp id (u8 b))⟩
                  rw [upd_ne (show b ≠ L from fun z => ?_)]
                  · exact g5.keep b o e n
                  · rcases g5.fresh L (.inl (.inl rfl)) with q2 | q2
                    · exact n (z ▸ q2)
                    · rw [z, q2] at e; cases e
                · rw [if_neg c] at er; cases er
      · have e : i = ds.length := by omega
        subst e
        rw [List.drop_length] at er
        simp only [lcR] at er
        cases er
        refine .inl ⟨(it H2 fr3 _).2 (Nat.le_refl _), ?_⟩
        obtain ⟨fp4, R4, u4⟩ := gb' H2 σ _ fp3 fr3 R3.unwipe (Kp.refl _ _) fun b z1 z2 => d3 b (.inr z1) z2
        refine q (.ref L) H2 fp4 (fun b => b = L) R4 (.lst hL ha fun _ => Iff.rfl) (fun b z1 z2 => ?_) (s3.sub fun b z => ?_)
        · rcases u4 b z2 with z | z
          · exact nfL (z1 ▸ z)
          · exact d3 b (.inl z1) z
        · rcases z with z | z
          · exact .inl (.inl z)
          · exact (u4 b z).elim (fun z => .inl (.inr z)) .inr) fun _ _ z => z)
theorem eo_newD : EO J tDNewK gNewD := fun σ H Γ fp R Q hp p np =>
  hp (.ref p) _ fp (fun b => b = p) (R.ext (Ext.new np)) (.dct upd_same .nil fun _ => Iff.rfl) (fun b e z => R.nofp np (e ▸ z)) ⟨(Ext.new np).im, fun b o h _ => Ext.new np b o h, fun b z => z.elim (fun e => .inr (e ▸ np)) .inl⟩
end
section
variable (K : Frag) (mg : Str → Option Value) (X : Cx) (W : WX)
def VIB (m : List Bool) (tg e : Expr) (ti : TI) (g : G Walked) : Prop := X.K = K → X.mg = mg → PI X tg e ti ∧ EIB (jc K mg W) m ti g
end
section
variable {K : Frag} {mg : Str → Option Value} {X : Cx} {W : WX} {m m' : List Bool} {pos : Pos} {tg iter elt : Expr} {ti : TI} {gi : G Walked} {t : TG} {ts : List Nat} {h : D → Env → Option Env} {ifs : List Expr} {scope : Scope} {tt : TT} {gt : G Bool} {tte : TE} {gge : G D} {body : List Stmt} {tb : TS} {gf : G Fl}
theorem o_newD : VO K mg X W (.Dict [] [] pos) tDNewK gNewD := fun _ _ => ⟨pe_dnewK, eo_newD⟩
theorem ib_slot (i : Nat) {x : Str} (hm : m[i]? = some true := by decide) (hN : X.N[i]? = some x := by rfl) (hv : Vis X.env.scope x := by first | exact Or.inl rfl | exact Or.inr (Or.inl rfl) | exact Or.inr (Or.inr rfl)) (hd : (x == ("__debug__" : Str)) = false := by decide)
    (hcd : (x == ("__classdict__" : Str)) = false := by decide) : VIB K mg X W m tg (.Name x pos) (iSeq K (tVar i)) (gLend i) := fun k _ => by
  subst k
  exact ⟨pi_seq (pe_var hN hv hd hcd), eib_lend hm⟩
theorem ib_enum (i : Nat) {x : Str} {p npos tpos : Pos} {elts : List Expr} {kk : Nat} (hn : mg "enumerate" = none) (hm : m[i]? = some true := by decide) (hN : X.N[i]? = some x := by rfl) (hv : Vis X.env.scope x := by first | exact Or.inl rfl | exact Or.inr (Or.inl rfl) | exact Or.inr (Or.inr rfl)) (hd : (x == ("__debug__" : Str)) = false := by decide)
    (hcd : (x == ("__classdict__" : Str)) = false := by decide) (hg : Gl X "enumerate" := by rfl) (he : starEach [.Name x npos] X.env = [(false, eval (.Name x npos) X.env)] := by rfl) : VIB K mg X W m (.Tuple elts kk tpos) (.Call (.Name "enumerate" p) [.Name x npos] [] pos) (iEnum K (tCons (tVar i) tNil)) (gLendE i) := fun k l => by
  subst k l
  exact ⟨pi_enum hg hn (pa_cons (pe_var hN hv hd hcd) pa_nil he) he, eib_lendE hm⟩
theorem st_forB (hp : PassesOwn (model X.prog X.w) X.A X.env X.xe) (hc : X.calm = true) (hi : VIB K mg X W m' tg iter ti gi) (hl : VL K mg X W tg t ts h) (hb : VB K mg X W m' body tb gf) (hmm : ∀ i : Nat, m[i]? = some true → m'[i]? = some true) (hm : ∀ i ∈ ts, m'[i]? ≠ some true := by decide)
    (hs : ∀ x, foldedSetIterable iter X.env x = pure x := by intro _; rfl) : VSt K mg X W m (.For tg iter body [] pos) (tFor ti t tb) (gForB gi h gf) := fun k n => ⟨ps_for hp hc (hi k n).1 (hl k n).1 (hb k n).1 hs, ss_forB hmm (hi k n).2 hm (hl k n).2 (hb k n).2⟩
theorem o_lcB (own : List (Str × Nat)) (vs : List Nat) (hc : X.calm = true) (hN : X.N.Nodup) (hi : VIB K mg X W m tg iter ti gi) (ok : BlkOk X.N X.env.scope scope own) (hv : own.map (·.2) = vs) (hs : ∀ j ∈ ts, j ∈ vs)
    (hg : ∀ (s : Shared) (H : Hp) (C : Addr) (cl : List (Str × Addr)) (fp : List Addr), VL K mg (X.blk s H scope (compEnvC scope cl C X.env) fp) W0 tg t ts h)
    (ht : ∀ (s : Shared) (H : Hp) (C : Addr) (cl : List (Str × Addr)) (fp : List Addr), VTs K mg (X.blk s H scope (compEnvC scope cl C X.env) fp) W0 ifs tt gt)
    (he : ∀ (s : Shared) (H : Hp) (C : Addr) (cl : List (Str × Addr)) (fp : List Addr), VD K mg (X.blk s H scope (compEnvC scope cl C X.env) fp) W0 elt tte gge)
    (hst : ∀ x, foldedSetIterable iter X.env x = pure x := by intro _; rfl) : VO K mg X W (.ListComp elt [⟨tg, iter, ifs, 0⟩] scope pos) (tLc ti t tt tte (own.map (·.2))) (gLcB gi h gt gge vs) := fun k m => by
  subst hv
  exact ⟨pe_lc hc hN (hi k m).1 ok (fun s H C cl fp => (hg s H C cl fp k m).1) (fun s H C cl fp => (ht s H C cl fp k m).1) (fun s H C cl fp => (he s H C cl fp k m).1) hst,
    eo_lcB (hi k m).2 hs (hg {} (fun _ => none) 0 [] [] k m).2 (ht {} (fun _ => none) 0 [] [] k m).2 (he {} (fun _ => none) 0 [] [] k m).2⟩
theorem st_asgLcB (own : List (Str × Nat)) (vs : List Nat) (i : Nat) {y : Str} {py : Pos} {m2 : List Bool} (hc : X.calm = true) (hN : X.N.Nodup)
    (hi : VIB K mg X W m2 tg iter ti gi) (ok : BlkOk X.N X.env.scope scope own) (hv : own.map (·.2) = vs) (hs : ∀ j ∈ ts, j ∈ vs)
    (hg : ∀ (s : Shared) (H : Hp) (C : Addr) (cl : List (Str × Addr)) (fp : List Addr), VL K mg (X.blk s H scope (compEnvC scope cl C X.env) fp) W0 tg t ts h)
    (ht : ∀ (s : Shared) (H : Hp) (C : Addr) (cl : List (Str × Addr)) (fp : List Addr), VTs K mg (X.blk s H scope (compEnvC scope cl C X.env) fp) W0 ifs tt gt)
    (he : ∀ (s : Shared) (H : Hp) (C : Addr) (cl : List (Str × Addr)) (fp : List Addr), VD K mg (X.blk s H scope (compEnvC scope cl C X.env) fp) W0 elt tte gge)
    {spos : Pos} (hsw2 : swapsWith (.ListComp elt [⟨tg, iter, ifs, 0⟩] scope pos) (some (.Name y py)) spos.line X.env = pure true)
    (hm : m[i]? ≠ some true := by decide) (hy : X.N[i]? = some y := by rfl) (hyl : X.env.scope.names.lookup y = some .local := by rfl)
    (hst : ∀ x, foldedSetIterable iter X.env x = pure x := by intro _; rfl) : VSt K mg X W m (.Assign [.Name y py] (.ListComp elt [⟨tg, iter, ifs, 0⟩] scope pos) spos) (tAsg (tLc ti t tt tte (own.map (·.2))) (L2.gName i)) (gAsgO i (gLcB gi h gt gge vs)) := fun k n => by
  subst hv
  exact ⟨ps_setLc hc hN hy hyl hsw2 (hi k n).1 ok (fun s H C cl fp => (hg s H C cl fp k n).1) (fun s H C cl fp => (ht s H C cl fp k n).1) (fun s H C cl fp => (he s H C cl fp k n).1) hst,
    ss_asgO hm (eo_lcB (hi k n).2 hs (hg {} (fun _ => none) 0 [] [] k n).2 (ht {} (fun _ => none) 0 [] [] k n).2 (he {} (fun _ => none) 0 [] [] k n).2)⟩
end
end Gm

/-! Gm9: how mirrors are reckoned: rows for simp. -/
namespace Gm
open PySem PySem.Spec PyProof.Rows L2
section
variable {α β S : Type}
@[simp ↓] theorem bind_ok (a : α) (s : S) (f : α → S → Res β S) : (Res.ok a s).bind f = f a s := rfl
@[simp ↓] theorem bind_bad (f : α → S → Res β S) : (Res.bad : Res α S).bind f = .bad := rfl
@[simp ↓] theorem bind_ex (x : Ex) (s : S) (f : α → S → Res β S) : (Res.ex x s : Res α S).bind f = .ex x s := rfl
@[simp] theorem ofOpt_some (a : α) (s : S) : ofOpt (some a) s = .ok a s := rfl
@[simp] theorem ofOpt_none (s : S) : (ofOpt none s : Res α S) = .bad := rfl
end
/-! ### what follows a run, by name (so that simp does not look into it ahead of the run) -/
@[simp] def k1 (f : D → Option D) (x : D) (Γ : Env) : Res D Env := ofOpt (f x) Γ
@[simp] theorem g1_ap (f : D → Option D) (a : G D) (Γ : Env) : g1 f a Γ = (a Γ).bind (k1 f) := rfl
@[simp] def kDat (x : D) (Γ : Env) : Res Src Env := .ok (.dat x) Γ
@[simp] theorem gDat_ap (a : G D) (Γ : Env) : gDat a Γ = (a Γ).bind (kDat) := rfl
@[simp] def kOb (x : D) (Γ : Env) : Res Ob Env := .ok (.d x) Γ
@[simp] theorem gOb_ap (a : G D) (Γ : Env) : gOb a Γ = (a Γ).bind (kOb) := rfl
@[simp] def kTruth (x : D) (Γ : Env) : Res Bool Env := ofOpt (truD x) Γ
@[simp] theorem gTruth_ap (a : G D) (Γ : Env) : gTruth a Γ = (a Γ).bind (kTruth) := rfl
@[simp] def kAnd (b : G Bool) (x : Bool) (Γ : Env) : Res Bool Env := if x then b Γ else .ok false Γ
@[simp] theorem gAnd_ap (a : G Bool) (b : G Bool) (Γ : Env) : gAnd a b Γ = (a Γ).bind (kAnd b) := rfl
@[simp] def kOr (b : G Bool) (x : Bool) (Γ : Env) : Res Bool Env := if x then .ok true Γ else b Γ
@[simp] theorem gOr_ap (a : G Bool) (b : G Bool) (Γ : Env) : gOr a b Γ = (a Γ).bind (kOr b) := rfl
@[simp] def kNot (x : Bool) (Γ : Env) : Res Bool Env := .ok (!x) Γ
@[simp] theorem gNot_ap (a : G Bool) (Γ : Env) : gNot a Γ = (a Γ).bind (kNot) := rfl
@[simp] def kTup (xs : List D) (Γ : Env) : Res D Env := if small xs.length then .ok (.tup xs) Γ else .bad
@[simp] theorem gTup_ap (a : G (List D)) (Γ : Env) : gTup a Γ = (a Γ).bind (kTup) := rfl
@[simp] def kLst (xs : List D) (Γ : Env) : Res Ob Env := if small xs.length then .ok (.lst xs) Γ else .bad
@[simp] theorem gLst_ap (a : G (List D)) (Γ : Env) : gLst a Γ = (a Γ).bind (kLst) := rfl
@[simp] def kLstF (xs : List D) (Γ : Env) : Res D Env := if small xs.length then .ok (.fl xs) Γ else .bad
@[simp] theorem gLstF_ap (a : G (List D)) (Γ : Env) : gLstF a Γ = (a Γ).bind (kLstF) := rfl
@[simp] def kCal (f : List D → Option D) (xs : List D) (Γ : Env) : Res D Env := ofOpt (f xs) Γ
@[simp] theorem gCal_ap (f : List D → Option D) (a : G (List D)) (Γ : Env) : gCal f a Γ = (a Γ).bind (kCal f) := rfl
@[simp] def kListS (s : Src) (Γ : Env) : Res Ob Env := ofOpt ((view Γ s).map .lst) Γ
@[simp] theorem gListS_ap (a : G Src) (Γ : Env) : gListS a Γ = (a Γ).bind (kListS) := rfl
@[simp] def kTupS (s : Src) (Γ : Env) : Res D Env := ofOpt ((view Γ s).map .tup) Γ
@[simp] theorem gTupS_ap (a : G Src) (Γ : Env) : gTupS a Γ = (a Γ).bind (kTupS) := rfl
@[simp] def kAllS (s : Src) (Γ : Env) : Res D Env := if notTup s then ofOpt ((view Γ s).bind fun xs => (blsD xs).map fun bs => .bl (bs.all id)) Γ else .bad
@[simp] theorem gAllS_ap (a : G Src) (Γ : Env) : gAllS a Γ = (a Γ).bind (kAllS) := rfl
@[simp] def kAnyS (s : Src) (Γ : Env) : Res D Env := if notTup s then ofOpt ((view Γ s).bind fun xs => (blsD xs).map fun bs => .bl (bs.any id)) Γ else .bad
@[simp] theorem gAnyS_ap (a : G Src) (Γ : Env) : gAnyS a Γ = (a Γ).bind (kAnyS) := rfl
@[simp] def kSumS (s : Src) (Γ : Env) : Res D Env := if notTup s then ofOpt ((view Γ s).bind fun xs => (intsD xs).map fun ns => .int ns.sum) Γ else .bad
@[simp] theorem gSumS_ap (a : G Src) (Γ : Env) : gSumS a Γ = (a Γ).bind (kSumS) := rfl
@[simp] def kRet (o : Ob) (Γ : Env) : Res Fl Env := .ok (.rt o) Γ
@[simp] theorem gRet_ap (a : G Ob) (Γ : Env) : gRet a Γ = (a Γ).bind (kRet) := rfl
@[simp] def kRetD (x : D) (Γ : Env) : Res Fl Env := .ok (.rt (.d x)) Γ
@[simp] theorem gRetD_ap (a : G D) (Γ : Env) : gRetD a Γ = (a Γ).bind (kRetD) := rfl
@[simp] def kIf (a : G Fl) (b : G Fl) (c : Bool) (Γ : Env) : Res Fl Env := if c then a Γ else b Γ
@[simp] theorem gIf_ap (t : G Bool) (a : G Fl) (b : G Fl) (Γ : Env) : gIf t a b Γ = (t Γ).bind (kIf a b) := rfl
@[simp] def kAsg (i : Nat) (x : D) (Γ : Env) : Res Fl Env := if i < Γ.length then .ok .nx (Γ.set i (some (.d x))) else .bad
@[simp] theorem gAsg_ap (i : Nat) (a : G D) (Γ : Env) : gAsg i a Γ = (a Γ).bind (kAsg i) := rfl
@[simp] def kAsgO (i : Nat) (o : Ob) (Γ : Env) : Res Fl Env := if i < Γ.length then .ok .nx (Γ.set i (some o)) else .bad
@[simp] theorem gAsgO_ap (i : Nat) (a : G Ob) (Γ : Env) : gAsgO i a Γ = (a Γ).bind (kAsgO i) := rfl
@[simp] def kItems (s : Src) (Γ : Env) : Res (List D) Env := ofOpt (items Γ s) Γ
@[simp] theorem gItems_ap (a : G Src) (Γ : Env) : gItems a Γ = (a Γ).bind (kItems) := rfl
@[simp] def kcD (x : D) (Γ : Env) : Res Arg Env := .ok (.dat x) Γ
@[simp] theorem gcD_ap (a : G D) (Γ : Env) : gcD a Γ = (a Γ).bind (kcD) := rfl
@[simp] def kcO (x : Ob) (Γ : Env) : Res Arg Env := .ok (.own x) Γ
@[simp] theorem gcO_ap (a : G Ob) (Γ : Env) : gcO a Γ = (a Γ).bind (kcO) := rfl
@[simp] def kFor (h : D → Env → Option Env) (b : G Fl) (ds : List D) (Γ : Env) : Res Fl Env := forR h b ds Γ
@[simp] theorem gFor_ap (it : G (List D)) (h : D → Env → Option Env) (b : G Fl) (Γ : Env) : gFor it h b Γ = (it Γ).bind (kFor h b) := rfl
@[simp] def k22 (f : D → D → Option D) (x : D) (y : D) (Γ : Env) : Res D Env := ofOpt (f x y) Γ
@[simp] def k2 (f : D → D → Option D) (b : G D) (x : D) (Γ : Env) : Res D Env := (b Γ).bind (k22 f x)
@[simp] theorem g2_ap (f : D → D → Option D) (a : G D) (b : G D) (Γ : Env) : g2 f a b Γ = (a Γ).bind (k2 f b) := rfl
@[simp] def kCmpS2 (f : D → D → Option D) (s : Src) (t : Src) (Γ : Env) : Res D Env := ofOpt ((srcD Γ s).bind fun x => (srcD Γ t).bind fun y => f x y) Γ
@[simp] def kCmpS (f : D → D → Option D) (b : G Src) (s : Src) (Γ : Env) : Res D Env := (b Γ).bind (kCmpS2 f s)
@[simp] theorem gCmpS_ap (f : D → D → Option D) (a : G Src) (b : G Src) (Γ : Env) : gCmpS f a b Γ = (a Γ).bind (kCmpS f b) := rfl
@[simp] def kCat2 (s : Src) (t : Src) (Γ : Env) : Res Ob Env := if notTup s && notTup t then ofOpt ((view Γ s).bind fun xs => (view Γ t).bind fun ys => catL xs ys) Γ else .bad
@[simp] def kCat (b : G Src) (s : Src) (Γ : Env) : Res Ob Env := (b Γ).bind (kCat2 s)
@[simp] theorem gCat_ap (a : G Src) (b : G Src) (Γ : Env) : gCat a b Γ = (a Γ).bind (kCat b) := rfl
@[simp] def kConsA2 (x : D) (xs : List D) (Γ : Env) : Res (List D) Env := .ok (x :: xs) Γ
@[simp] def kConsA (r : G (List D)) (x : D) (Γ : Env) : Res (List D) Env := (r Γ).bind (kConsA2 x)
@[simp] theorem gConsA_ap (a : G D) (r : G (List D)) (Γ : Env) : gConsA a r Γ = (a Γ).bind (kConsA r) := rfl
@[simp] def kcCons2 (x : Arg) (xs : List Arg) (Γ : Env) : Res (List Arg) Env := .ok (x :: xs) Γ
@[simp] def kcCons (r : G (List Arg)) (x : Arg) (Γ : Env) : Res (List Arg) Env := (r Γ).bind (kcCons2 x)
@[simp] theorem gcCons_ap (a : G Arg) (r : G (List Arg)) (Γ : Env) : gcCons a r Γ = (a Γ).bind (kcCons r) := rfl
@[simp] def kSl3 (f : D → Option Int → Option Int → Option D) (x : D) (l : Option Int) (h : Option Int) (Γ : Env) : Res D Env := ofOpt (f x l h) Γ
@[simp] def kSl2 (f : D → Option Int → Option Int → Option D) (hi : G (Option Int)) (x : D) (l : Option Int) (Γ : Env) : Res D Env := (hi Γ).bind (kSl3 f x l)
@[simp] def kSl (f : D → Option Int → Option Int → Option D) (lo : G (Option Int)) (hi : G (Option Int)) (x : D) (Γ : Env) : Res D Env := (lo Γ).bind (kSl2 f hi x)
@[simp] theorem gSl_ap (f : D → Option Int → Option Int → Option D) (a : G D) (lo : G (Option Int)) (hi : G (Option Int)) (Γ : Env) : gSl f a lo hi Γ = (a Γ).bind (kSl f lo hi) := rfl
@[simp] def kSlL3 (s : Src) (l : Option Int) (h : Option Int) (Γ : Env) : Res Ob Env := if notTup s then ofOpt ((view Γ s).map fun xs => .lst (cutD xs l h)) Γ else .bad
@[simp] def kSlL2 (hi : G (Option Int)) (s : Src) (l : Option Int) (Γ : Env) : Res Ob Env := (hi Γ).bind (kSlL3 s l)
@[simp] def kSlL (lo : G (Option Int)) (hi : G (Option Int)) (s : Src) (Γ : Env) : Res Ob Env := (lo Γ).bind (kSlL2 hi s)
@[simp] theorem gSlL_ap (a : G Src) (lo : G (Option Int)) (hi : G (Option Int)) (Γ : Env) : gSlL a lo hi Γ = (a Γ).bind (kSlL lo hi) := rfl
@[simp] theorem endB_ok (bk : Option (Nat × Ob)) (fl : Fl) (Γ : Env) : endB bk (.ok fl Γ) = .ok fl (giveBack bk Γ) := rfl
@[simp] theorem endB_ex (bk : Option (Nat × Ob)) (x : Ex) (Γ : Env) : endB bk (.ex x Γ) = .ex x (giveBack bk Γ) := rfl
@[simp] theorem endB_bad (bk : Option (Nat × Ob)) : endB bk .bad = .bad := rfl
@[simp] def kForB (h : D → Env → Option Env) (b : G Fl) (w : Walked) (Γ : Env) : Res Fl Env := endB w.bk (forR h b w.ds Γ)
@[simp] theorem gForB_ap (it : G Walked) (h : D → Env → Option Env) (b : G Fl) (Γ : Env) : gForB it h b Γ = (it Γ).bind (kForB h b) := rfl
@[simp] def kIfE {α : Type} (a : G α) (b : G α) (c : Bool) (Γ : Env) : Res α Env := if c then a Γ else b Γ
@[simp] theorem gIfE_ap {α : Type} (t : G Bool) (a : G α) (b : G α) (Γ : Env) : gIfE t a b Γ = (t Γ).bind (kIfE a b) := rfl
@[simp] def kDrop {α : Type} (_x : α) (Γ : Env) : Res Fl Env := .ok .nx Γ
@[simp] theorem gDrop_ap {α : Type} (a : G α) (Γ : Env) : gDrop a Γ = (a Γ).bind (kDrop) := rfl
@[simp] def kOwnS  : Ob → Env → Res Src Env
  | .lst xs, Γ => .ok (.own xs) Γ
  | _, _ => .bad
@[simp] theorem gOwnS_ap (a : G Ob) (Γ : Env) : gOwnS a Γ = (a Γ).bind (kOwnS ) := by
  unfold gOwnS; congr 1; funext y Γ; unfold kOwnS; cases y <;> first | rfl | (rename_i z; cases z <;> rfl)
@[simp] def kToD  : Ob → Env → Res D Env
  | .d x, Γ => .ok x Γ
  | _, _ => .bad
@[simp] theorem gToD_ap (a : G Ob) (Γ : Env) : gToD a Γ = (a Γ).bind (kToD ) := by
  unfold gToD; congr 1; funext y Γ; unfold kToD; cases y <;> first | rfl | (rename_i z; cases z <;> rfl)
@[simp] def kTest  : D → Env → Res Bool Env
  | .bl b, Γ => .ok b Γ
  | _, _ => .bad
@[simp] theorem gTest_ap (a : G D) (Γ : Env) : gTest a Γ = (a Γ).bind (kTest ) := by
  unfold gTest; congr 1; funext y Γ; unfold kTest; cases y <;> first | rfl | (rename_i z; cases z <;> rfl)
@[simp] def kAndV (b : G D) : D → Env → Res D Env
  | .bl true, Γ => b Γ
  | .bl false, Γ => .ok (.bl false) Γ
  | _, _ => .bad
@[simp] theorem gAndV_ap (a : G D) (b : G D) (Γ : Env) : gAndV a b Γ = (a Γ).bind (kAndV b) := by
  unfold gAndV; congr 1; funext y Γ; unfold kAndV; cases y <;> first | rfl | (rename_i z; cases z <;> rfl)
@[simp] def kOrV (b : G D) : D → Env → Res D Env
  | .bl true, Γ => .ok (.bl true) Γ
  | .bl false, Γ => b Γ
  | _, _ => .bad
@[simp] theorem gOrV_ap (a : G D) (b : G D) (Γ : Env) : gOrV a b Γ = (a Γ).bind (kOrV b) := by
  unfold gOrV; congr 1; funext y Γ; unfold kOrV; cases y <;> first | rfl | (rename_i z; cases z <;> rfl)
@[simp] def kNotV  : D → Env → Res D Env
  | .bl b, Γ => .ok (.bl !b) Γ
  | _, _ => .bad
@[simp] theorem gNotV_ap (a : G D) (Γ : Env) : gNotV a Γ = (a Γ).bind (kNotV ) := by
  unfold gNotV; congr 1; funext y Γ; unfold kNotV; cases y <;> first | rfl | (rename_i z; cases z <;> rfl)
@[simp] def kP  : D → Env → Res (Option Int) Env
  | .int i, Γ => .ok (some i) Γ
  | _, _ => .bad
@[simp] theorem gP_ap (a : G D) (Γ : Env) : gP a Γ = (a Γ).bind (kP ) := by
  unfold gP; congr 1; funext y Γ; unfold kP; cases y <;> first | rfl | (rename_i z; cases z <;> rfl)
@[simp] def kLenS  : Src → Env → Res D Env
  | .dat x, Γ => ofOpt (oLen [x]) Γ
  | s, Γ => ofOpt ((view Γ s).map fun xs => .int xs.length) Γ
@[simp] theorem gLenS_ap (a : G Src) (Γ : Env) : gLenS a Γ = (a Γ).bind (kLenS ) := by
  unfold gLenS; congr 1; funext y Γ; unfold kLenS; cases y <;> first | rfl | (rename_i z; cases z <;> rfl)
@[simp] def kFrz  : Ob → Env → Res D Env
  | .lst xs, Γ => .ok (.fl xs) Γ
  | .dct [], Γ => .ok .fd Γ
  | _, _ => .bad
@[simp] theorem gFrz_ap (a : G Ob) (Γ : Env) : gFrz a Γ = (a Γ).bind (kFrz ) := by
  unfold gFrz; congr 1; funext y Γ; unfold kFrz; cases y <;> first | rfl | (rename_i z; cases z <;> rfl)
@[simp] def kSeq (b : G Fl) : Fl → Env → Res Fl Env
  | .nx, Γ => b Γ
  | fl, Γ => .ok fl Γ
@[simp] theorem gSeq_ap (a : G Fl) (b : G Fl) (Γ : Env) : gSeq a b Γ = (a Γ).bind (kSeq b) := by
  unfold gSeq; congr 1; funext y Γ; unfold kSeq; cases y <;> first | rfl | (rename_i z; cases z <;> rfl)
@[simp] def kRange1  : D → Env → Res (List D) Env
  | .int n, Γ => if -100000 ≤ n ∧ n ≤ 100000 then .ok ((List.range n.toNat).map fun (i : Nat) => D.int (i : Int)) Γ else .bad
  | _, _ => .bad
@[simp] theorem gRange1_ap (a : G D) (Γ : Env) : gRange1 a Γ = (a Γ).bind (kRange1 ) := by
  unfold gRange1; congr 1; funext y Γ; unfold kRange1; cases y <;> first | rfl | (rename_i z; cases z <;> rfl)
@[simp] def kEnum  : Src → Env → Res (List D) Env
  | .slot _, _ => .bad
  | .dat (.tup _), _ => .bad
  | s, Γ => ofOpt ((view Γ s).map enumD) Γ
@[simp] theorem gEnum_ap (a : G Src) (Γ : Env) : gEnum a Γ = (a Γ).bind (kEnum ) := by
  unfold gEnum; congr 1; funext y Γ; unfold kEnum; cases y <;> first | rfl | (rename_i z; cases z <;> rfl)
@[simp] def kChain2 (y : D) (c : G D) (f' : D → D → Option D) : Option D → Env → Res D Env
  | some (.bl true), Γ => (c Γ).bind (k22 f' y)
  | some (.bl false), Γ => .ok (.bl false) Γ
  | _, _ => .bad
@[simp] def kChain1 (f f' : D → D → Option D) (c : G D) (x y : D) (Γ : Env) : Res D Env := kChain2 y c f' (f x y) Γ
@[simp] def kChain (f f' : D → D → Option D) (b c : G D) (x : D) (Γ : Env) : Res D Env := (b Γ).bind (kChain1 f f' c x)
@[simp] theorem gChain_ap (f f' : D → D → Option D) (a b c : G D) (Γ : Env) : gChain f f' a b c Γ = (a Γ).bind (kChain f f' b c) := by
  unfold gChain
  congr 1
  funext x Γ
  unfold kChain
  congr 1
  funext y Γ
  unfold kChain1 kChain2
  cases f x y with
  | none => rfl
  | some z => cases z <;> first | rfl | (rename_i z; cases z <;> rfl)
@[simp] def kIsi (t : String) (x : D) (Γ : Env) : Res D Env := .ok (.bl (isI t x)) Γ
@[simp] theorem gIsi_ap (t : String) (a : G D) (Γ : Env) : gIsi t a Γ = (a Γ).bind (kIsi t) := rfl
@[simp] def kIxS2 : Src → D → Env → Res D Env
  | .dat x, y, Γ => ofOpt (oIx x y) Γ
  | s, .int i, Γ => ofOpt ((view Γ s).bind fun xs => atI xs i) Γ
  | _, _, _ => .bad
@[simp] def kIxS (b : G D) (s : Src) (Γ : Env) : Res D Env := (b Γ).bind (kIxS2 s)
@[simp] theorem gIxS_ap (a : G Src) (b : G D) (Γ : Env) : gIxS a b Γ = (a Γ).bind (kIxS b) := by
  unfold gIxS
  congr 1
  funext x Γ
  unfold kIxS
  congr 1
  funext y Γ
  unfold kIxS2
  cases x <;> first | rfl | (cases y <;> rfl)
@[simp] def kJoin2 (z : Str) (s : Src) (Γ : Env) : Res D Env := ofOpt ((view Γ s).bind fun xs => joinD z xs) Γ
@[simp] def kJoin (b : G Src) : D → Env → Res D Env
  | .str z, Γ => (b Γ).bind (kJoin2 z)
  | _, _ => .bad
@[simp] theorem gJoin_ap (a : G D) (b : G Src) (Γ : Env) : gJoin a b Γ = (a Γ).bind (kJoin b) := by
  unfold gJoin
  congr 1
  funext x Γ
  unfold kJoin
  cases x <;> rfl
@[simp] def kInS2 (neg : Bool) (x : D) : Src → Env → Res D Env
  | .dat y, Γ => ofOpt ((if neg then oNotIn else oIn) x y) Γ
  | t, Γ => ofOpt ((view Γ t).bind fun ys => (oInL x ys).map fun c => .bl (if neg then !c else c)) Γ
@[simp] def kInS (neg : Bool) (b : G Src) (x : D) (Γ : Env) : Res D Env := (b Γ).bind (kInS2 neg x)
@[simp] theorem gInS_ap (neg : Bool) (a : G D) (b : G Src) (Γ : Env) : gInS neg a b Γ = (a Γ).bind (kInS neg b) := by
  unfold gInS
  congr 1
  funext x Γ
  unfold kInS
  congr 1
  funext y Γ
  unfold kInS2
  cases y <;> rfl
@[simp] def kAug3 (i : Nat) : Option D → Env → Res Fl Env
  | some z, Γ => .ok .nx (Γ.set i (some (.d z)))
  | none, _ => .bad
@[simp] def kAug2 (f : D → D → Option D) (i : Nat) (x y : D) (Γ : Env) : Res Fl Env := kAug3 i (f x y) Γ
@[simp] def kAug (f : D → D → Option D) (i : Nat) (a : G D) : Option (Option Ob) → Env → Res Fl Env
  | some (some (.d x)), Γ => (a Γ).bind (kAug2 f i x)
  | _, _ => .bad
@[simp] theorem gAug_ap (f : D → D → Option D) (i : Nat) (a : G D) (Γ : Env) : gAug f i a Γ = kAug f i a Γ[i]? Γ := by
  unfold gAug kAug
  cases Γ[i]? with
  | none => rfl
  | some o => cases o with
    | none => rfl
    | some o => cases o with
      | d x =>
        show Res.bind _ _ = Res.bind _ _
        congr 1
        funext y Γ
        unfold kAug2 kAug3
        cases f x y <;> rfl
      | _ => rfl
@[simp] def kApp3 (i : Nat) (x : D) : Option (List D) → Env → Res Fl Env
  | some xs, Γ => if small xs.length then .ok .nx (Γ.set i (some (.lst (xs ++ [x])))) else .bad
  | none, _ => .bad
@[simp] def kApp2 (i : Nat) (x : D) (Γ : Env) : Res Fl Env := kApp3 i x (lstAt Γ i) Γ
@[simp] def kApp (i : Nat) (a : G D) : Option (List D) → Env → Res Fl Env
  | none, _ => .bad
  | some _, Γ => (a Γ).bind (kApp2 i)
@[simp] theorem gApp_ap (i : Nat) (a : G D) (Γ : Env) : gApp i a Γ = kApp i a (lstAt Γ i) Γ := by
  unfold gApp kApp
  cases lstAt Γ i with
  | none => rfl
  | some xs =>
    show Res.bind _ _ = Res.bind _ _
    congr 1
    funext y Γ
    unfold kApp2 kApp3
    cases lstAt Γ i <;> rfl
@[simp] def kExt3 (i : Nat) : Option (List D) → Env → Res Fl Env
  | some zs, Γ => .ok .nx (Γ.set i (some (.lst zs)))
  | none, _ => .bad
@[simp] def kExt2 (i : Nat) (s : Src) (Γ : Env) : Res Fl Env := kExt3 i (extL Γ i s) Γ
@[simp] def kExt (i : Nat) (a : G Src) : Option (List D) → Env → Res Fl Env
  | none, _ => .bad
  | some _, Γ => (a Γ).bind (kExt2 i)
@[simp] theorem gExt_ap (i : Nat) (a : G Src) (Γ : Env) : gExt i a Γ = kExt i a (lstAt Γ i) Γ := by
  unfold gExt kExt
  cases lstAt Γ i with
  | none => rfl
  | some xs =>
    show Res.bind _ _ = Res.bind _ _
    congr 1
    funext y Γ
    unfold kExt2 kExt3
    cases extL Γ i y <;> rfl
@[simp] def kSetIx4 (i : Nat) (x : D) (xs : List D) : Option Nat → Env → Res Fl Env
  | some j, Γ => .ok .nx (Γ.set i (some (.lst (xs.set j x))))
  | none, _ => .bad
@[simp] def kSetIx3 (i : Nat) (x : D) : D → Option (List D) → Env → Res Fl Env
  | .int k, some xs, Γ => kSetIx4 i x xs (ixN xs.length k) Γ
  | _, _, _ => .bad
@[simp] def kSetIx2 (i : Nat) (x y : D) (Γ : Env) : Res Fl Env := kSetIx3 i x y (lstAt Γ i) Γ
@[simp] def kSetIx1 (i : Nat) (b : G D) (x : D) : Option (List D) → Env → Res Fl Env
  | none, _ => .bad
  | some _, Γ => (b Γ).bind (kSetIx2 i x)
@[simp] def kSetIx (i : Nat) (b : G D) (x : D) (Γ : Env) : Res Fl Env := kSetIx1 i b x (lstAt Γ i) Γ
@[simp] theorem gSetIx_ap (i : Nat) (a b : G D) (Γ : Env) : gSetIx i a b Γ = (a Γ).bind (kSetIx i b) := by
  unfold gSetIx
  congr 1
  funext x Γ
  unfold kSetIx kSetIx1
  cases lstAt Γ i with
  | none => rfl
  | some xs =>
    show Res.bind _ _ = Res.bind _ _
    congr 1
    funext y Γ
    unfold kSetIx2
    cases lstAt Γ i with
    | none => cases y <;> rfl
    | some zs =>
      cases y with
      | int k =>
        unfold kSetIx3 kSetIx4
        dsimp only
        cases ixN zs.length k <;> rfl
      | _ => rfl
@[simp] def kAsgT2 : Option Env → Res Fl Env
  | some Γ => .ok .nx Γ
  | none => .bad
@[simp] def kAsgT (h : D → Env → Option Env) (x : D) (Γ : Env) : Res Fl Env := kAsgT2 (h x Γ)
@[simp] theorem gAsgT_ap (h : D → Env → Option Env) (a : G D) (Γ : Env) : gAsgT h a Γ = (a Γ).bind (kAsgT h) := by
  unfold gAsgT
  congr 1
@[simp] def kLc2 : Res (List D) Env → Res Ob Env
  | .ok xs Γ => .ok (.lst xs) Γ
  | _ => .bad
@[simp] def kLc (h : D → Env → Option Env) (t : G Bool) (e : G D) (vs : List Nat) (ds : List D) (Γ : Env) : Res Ob Env := kLc2 (lcR h t e vs ds [] (wipeG Γ vs))
@[simp] theorem gLc_ap (it : G (List D)) (h : D → Env → Option Env) (t : G Bool) (e : G D) (vs : List Nat) (Γ : Env) : gLc it h t e vs Γ = (it Γ).bind (kLc h t e vs) := by
  unfold gLc
  congr 1
@[simp] def kLcB2 (bk : Option (Nat × Ob)) : Res (List D) Env → Res Ob Env
  | .ok xs Γ => .ok (.lst xs) (giveBack bk Γ)
  | _ => .bad
@[simp] def kLcB (h : D → Env → Option Env) (t : G Bool) (e : G D) (vs : List Nat) (w : Walked) (Γ : Env) : Res Ob Env := kLcB2 w.bk (lcR h t e vs w.ds [] (wipeG Γ vs))
@[simp] theorem gLcB_ap (it : G Walked) (h : D → Env → Option Env) (t : G Bool) (e : G D) (vs : List Nat) (Γ : Env) : gLcB it h t e vs Γ = (it Γ).bind (kLcB h t e vs) := by
  unfold gLcB
  congr 1
@[simp] def kCall3 (as : List Arg) (Γ : Env) : Res Ob (List Ob) → Res Ob Env
  | .ok r os => .ok r (putA as os Γ)
  | .ex x os => .ex x (putA as os Γ)
  | .bad => .bad
@[simp] def kCall2 (mf : Mf) (as : List Arg) : Option (List Ob × Env) → Res Ob Env
  | none => .bad
  | some p => kCall3 as p.2 (mf p.1)
@[simp] def kCall (mf : Mf) (as : List Arg) (Γ : Env) : Res Ob Env := kCall2 mf as (takeA as Γ)
@[simp] theorem gCall_ap (mf : Mf) (ga : G (List Arg)) (Γ : Env) : gCall mf ga Γ = (ga Γ).bind (kCall mf) := by
  unfold gCall
  congr 1
def fin2 (o : Ob) : Option (List Ob) → Res Ob (List Ob)
  | some os => .ok o os
  | none => .bad
@[simp] theorem fin2_some (o : Ob) (os : List Ob) : fin2 o (some os) = .ok o os := rfl
@[simp] theorem fin_nx (m : List Bool) (os : List Ob) (Γ : Env) : fin m os (.ok .nx Γ) = fin2 (.d .non) (collect m os Γ) := by
  unfold fin fin2; dsimp only; cases collect m os Γ <;> rfl
@[simp] theorem fin_rt (m : List Bool) (os : List Ob) (o : Ob) (Γ : Env) : fin m os (.ok (.rt o) Γ) = fin2 o (collect m os Γ) := by
  unfold fin fin2; dsimp only; cases collect m os Γ <;> rfl
@[simp] theorem gBody_ap (m : List Bool) (n : Nat) (g : G Fl) (os : List Ob) : gBody m n g os = fin m os (g (os.map some ++ List.replicate (n - os.length) none)) := rfl
@[simp] theorem collect_nil (Γ : Env) : collect [] [] Γ = some [] := by unfold collect; rfl
@[simp] theorem collect_t (m : List Bool) (o o' : Ob) (os : List Ob) (Γ : Env) : collect (true :: m) (o :: os) (some o' :: Γ) = (collect m os Γ).map (o' :: ·) := rfl
@[simp] theorem collect_f (m : List Bool) (x : D) (o' : Option Ob) (os : List Ob) (Γ : Env) : collect (false :: m) (.d x :: os) (o' :: Γ) = (collect m os Γ).map (.d x :: ·) := rfl
section
variable (Γ : Env) (xs : List D) (x y : D) (i : Nat) (z : Str)
@[simp] theorem view_tup : view Γ (.dat (.tup xs)) = some xs := rfl
@[simp] theorem view_fl : view Γ (.dat (.fl xs)) = some xs := rfl
@[simp] theorem view_own : view Γ (.own xs) = some xs := rfl
@[simp] theorem view_slot : view Γ (.slot i) = lstAt Γ i := rfl
@[simp] theorem srcD_dat : srcD Γ (.dat x) = some x := rfl
@[simp] theorem srcD_own : srcD Γ (.own xs) = some (.fl xs) := rfl
@[simp] theorem srcD_slot : srcD Γ (.slot i) = (lstAt Γ i).map .fl := by
  show (match Γ[i]? with | some (some (.lst xs)) => some (D.fl xs) | _ => none) = Option.map D.fl (match Γ[i]? with | some (some (.lst xs)) => some xs | _ => none)
  cases Γ[i]? with
  | none => rfl
  | some o => cases o with
    | none => rfl
    | some o => cases o <;> rfl
@[simp] theorem items_str : items Γ (.dat (.str z)) = some (signsD z) := rfl
@[simp] theorem items_tup : items Γ (.dat (.tup xs)) = some xs := rfl
@[simp] theorem items_fl : items Γ (.dat (.fl xs)) = some xs := rfl
@[simp] theorem items_own : items Γ (.own xs) = some xs := rfl
@[simp] theorem notTup_tup : notTup (.dat (.tup xs)) = false := rfl
@[simp] theorem notTup_fl : notTup (.dat (.fl xs)) = true := rfl
@[simp] theorem notTup_own : notTup (.own xs) = true := rfl
@[simp] theorem notTup_slot : notTup (.slot i) = true := rfl
@[simp] theorem extOk_own : extOk (.own xs) = true := rfl
@[simp] theorem extOk_tup : extOk (.dat (.tup xs)) = true := rfl
@[simp] theorem truD_non : truD .non = some false := rfl
@[simp] theorem truD_bl (b : Bool) : truD (.bl b) = some b := rfl
@[simp] theorem truD_int (n : Int) : truD (.int n) = some (n != 0) := rfl
@[simp] theorem truD_tup : truD (.tup xs) = some (!xs.isEmpty) := rfl
@[simp] theorem tyName_non : tyName .non = "NoneType" := rfl
@[simp] theorem tyName_bl (b : Bool) : tyName (.bl b) = "bool" := rfl
@[simp] theorem tyName_int (n : Int) : tyName (.int n) = "int" := rfl
@[simp] theorem tyName_str : tyName (.str z) = "str" := rfl
@[simp] theorem tyName_tup : tyName (.tup xs) = "tuple" := rfl
@[simp] theorem tyName_fl : tyName (.fl xs) = "list" := rfl
@[simp] theorem tyName_fd : tyName .fd = "dict" := rfl
@[simp] theorem takeA_nil : takeA [] Γ = some ([], Γ) := rfl
@[simp] theorem takeA_dat (as : List Arg) : takeA (.dat x :: as) Γ = (takeA as Γ).map fun p => (.d x :: p.1, p.2) := rfl
@[simp] theorem takeA_own (o : Ob) (as : List Arg) : takeA (.own o :: as) Γ = (takeA as Γ).map fun p => (o :: p.1, p.2) := rfl
theorem takeA_slot (as : List Arg) : takeA (.slot i :: as) Γ = match Γ[i]? with
    | some (some o) => (takeA as (Γ.set i none)).map fun p => (o :: p.1, p.2)
    | _ => none := rfl
@[simp] theorem takeA_at {o : Ob} {as : List Arg} {Γ : Env} {i : Nat} (h : Γ[i]? = some (some o)) : takeA (.slot i :: as) Γ = (takeA as (Γ.set i none)).map fun p => (o :: p.1, p.2) := by
  rw [takeA_slot, h]
@[simp] theorem putA_nil (os : List Ob) : putA [] os Γ = Γ := by cases os <;> rfl
@[simp] theorem putA_dat (as : List Arg) (o : Ob) (os : List Ob) : putA (.dat x :: as) (o :: os) Γ = putA as os Γ := rfl
@[simp] theorem putA_own (as : List Arg) (a o : Ob) (os : List Ob) : putA (.own a :: as) (o :: os) Γ = putA as os Γ := rfl
@[simp] theorem putA_slot (as : List Arg) (o : Ob) (os : List Ob) : putA (.slot i :: as) (o :: os) Γ = (putA as os Γ).set i (some o) := rfl
@[simp] theorem hNil_nil : hNil [] Γ = some Γ := rfl
@[simp] theorem hCons_cons (h : D → Env → Option Env) (r : List D → Env → Option Env) : hCons h r (x :: xs) Γ = (h x Γ).bind fun Γ => r xs Γ := rfl
@[simp] theorem hTup_tup (n : Nat) (r : List D → Env → Option Env) : hTup n r (.tup xs) Γ = if xs.length = n then r xs Γ else none := rfl
@[simp] theorem strsD_nil : strsD [] = some [] := rfl
@[simp] theorem strsD_cons : strsD (.str z :: xs) = (strsD xs).map (z :: ·) := rfl
@[simp] theorem blsD_nil : blsD [] = some [] := rfl
@[simp] theorem blsD_cons (b : Bool) : blsD (.bl b :: xs) = (blsD xs).map (b :: ·) := rfl
@[simp] theorem intsD_nil : intsD [] = some [] := rfl
@[simp] theorem intsD_cons (n : Int) : intsD (.int n :: xs) = (intsD xs).map (n :: ·) := rfl
@[simp] theorem oI_int (C : Int → Int → Bool) (g : Int → Int → D) (a b : Int) : oI C g (.int a) (.int b) = if C a b then some (g a b) else none := rfl
@[simp] theorem oI0_int (g : Int → Int → D) (a b : Int) : oI0 g (.int a) (.int b) = some (g a b) := rfl
@[simp] theorem oLt_int (a b : Int) : oLt (.int a) (.int b) = some (.bl (decide (a < b))) := rfl
@[simp] theorem oLe_int (a b : Int) : oLe (.int a) (.int b) = some (.bl (decide (a ≤ b))) := rfl
@[simp] theorem oGt_int (a b : Int) : oGt (.int a) (.int b) = some (.bl (decide (b < a))) := rfl
@[simp] theorem oGe_int (a b : Int) : oGe (.int a) (.int b) = some (.bl (decide (b ≤ a))) := rfl
@[simp] theorem oSub_int (a b : Int) : oSub (.int a) (.int b) = some (.int (a - b)) := rfl
@[simp] theorem oMul_int (a b : Int) : oMul (.int a) (.int b) = if cMul a b then some (.int (a * b)) else none := rfl
@[simp] theorem oDiv_int (a b : Int) : oDiv (.int a) (.int b) = if cDiv a b then some (.int (a / b)) else none := rfl
@[simp] theorem oMod_int (a b : Int) : oMod (.int a) (.int b) = if cMod a b then some (.int (a % b)) else none := rfl
@[simp] theorem oPow_int (a b : Int) : oPow (.int a) (.int b) = if cPow a b then some (.int (a ^ b.toNat)) else none := rfl
@[simp] theorem oAdd_int (a b : Int) : oAdd (.int a) (.int b) = some (.int (a + b)) := rfl
@[simp] theorem oAdd_str (a b : Str) : oAdd (.str a) (.str b) = if a.length + b.length ≤ sizeLine then some (.str (a ++ b)) else none := rfl
@[simp] theorem oAdd_tup (a b : List D) : oAdd (.tup a) (.tup b) = if a.length + b.length ≤ sizeLine then some (.tup (a ++ b)) else none := rfl
@[simp] theorem oIn_str (a b : Str) : oIn (.str a) (.str b) = some (.bl (inStr a b)) := rfl
@[simp] theorem oNotIn_str (a b : Str) : oNotIn (.str a) (.str b) = some (.bl (!inStr a b)) := rfl
@[simp] theorem oIn_tup : oIn x (.tup xs) = (oInL x xs).map .bl := by cases x <;> rfl
@[simp] theorem oIn_fl : oIn x (.fl xs) = (oInL x xs).map .bl := by cases x <;> rfl
@[simp] theorem oNotIn_tup : oNotIn x (.tup xs) = (oInL x xs).map fun b => .bl (!b) := by cases x <;> rfl
@[simp] theorem oNotIn_fl : oNotIn x (.fl xs) = (oInL x xs).map fun b => .bl (!b) := by cases x <;> rfl
@[simp] theorem inStr_sign (c : Nat) (b : Str) : inStr ⟨#[c]⟩ b = decide (c ∈ b.cps.toList) := rfl
@[simp] theorem oIx_tup (n : Int) : oIx (.tup xs) (.int n) = atI xs n := rfl
@[simp] theorem oIx_fl (n : Int) : oIx (.fl xs) (.int n) = atI xs n := rfl
@[simp] theorem oIx_str (n : Int) : oIx (.str z) (.int n) = if z.length ≤ sizeLine then (atI z.cps.toList n).map fun c => .str ⟨#[c]⟩ else none := rfl
@[simp] theorem oSl_tup (lo hi : Option Int) : oSl (.tup xs) lo hi = some (.tup (cutD xs lo hi)) := rfl
@[simp] theorem oSl_str (lo hi : Option Int) : oSl (.str z) lo hi = if z.length ≤ sizeLine then some (.str (cutS z lo hi)) else none := rfl
@[simp] theorem oLen_str : oLen [.str z] = if z.length ≤ sizeLine then some (.int z.length) else none := rfl
@[simp] theorem oLen_tup : oLen [.tup xs] = some (.int xs.length) := rfl
@[simp] theorem oLen_fl : oLen [.fl xs] = some (.int xs.length) := rfl
@[simp] theorem oMin2_int (a b : Int) : oMin2 [.int a, .int b] = some (.int (if b < a then b else a)) := rfl
@[simp] theorem oMax2_int (a b : Int) : oMax2 [.int a, .int b] = some (.int (if b > a then b else a)) := rfl
@[simp] theorem oStrI_int (a : Int) : oStrI [.int a] = if a.natAbs.log2 < 1920 then some (.str (toString a)) else none := rfl
@[simp] theorem giveBack_none : giveBack none Γ = Γ := rfl
@[simp] theorem giveBack_some (p : Nat × Ob) : giveBack (some p) Γ = Γ.set p.1 (some p.2) := rfl
@[simp] theorem wipeG_nil : wipeG Γ [] = Γ := rfl
@[simp] theorem wipeG_cons (v : Nat) (vs : List Nat) : wipeG Γ (v :: vs) = (wipeG Γ vs).set v none := rfl
@[simp] theorem oEq_int (a b : Int) : oEq (.int a) (.int b) = some (.bl (decide (a = b))) := rfl
@[simp] theorem oEq_str (a b : Str) : oEq (.str a) (.str b) = some (.bl (decide (a = b))) := rfl
@[simp] theorem oNe_int (a b : Int) : oNe (.int a) (.int b) = some (.bl (!decide (a = b))) := rfl
@[simp] theorem oNe_str (a b : Str) : oNe (.str a) (.str b) = some (.bl (!decide (a = b))) := rfl
@[simp] theorem oEq_flnil : oEq (.fl xs) (.fl []) = some (.bl xs.isEmpty) := rfl
@[simp] theorem oNe_flnil : oNe (.fl xs) (.fl []) = some (.bl (!xs.isEmpty)) := rfl
@[simp] theorem oEq_tupnil : oEq (.tup xs) (.tup []) = some (.bl xs.isEmpty) := rfl
@[simp] theorem oNe_tupnil : oNe (.tup xs) (.tup []) = some (.bl (!xs.isEmpty)) := rfl
@[simp] theorem oIsN_non : oIsN .non .non = some (.bl true) := rfl
@[simp] theorem oIsN_int (a : Int) : oIsN (.int a) .non = some (.bl false) := rfl
@[simp] theorem oIsN_str (a : Str) : oIsN (.str a) .non = some (.bl false) := rfl
@[simp] theorem oIsN_tup : oIsN (.tup xs) .non = some (.bl false) := rfl
@[simp] theorem oNotN_non : oNotN .non .non = some (.bl false) := rfl
@[simp] theorem oNotN_int (a : Int) : oNotN (.int a) .non = some (.bl true) := rfl
@[simp] theorem oNotN_str (a : Str) : oNotN (.str a) .non = some (.bl true) := rfl
@[simp] theorem oNotN_tup : oNotN (.tup xs) .non = some (.bl true) := rfl
@[simp] theorem forR_nil (h : D → Env → Option Env) (b : G Fl) : forR h b [] Γ = .ok .nx Γ := rfl
theorem forR_cons (h : D → Env → Option Env) (b : G Fl) : forR h b (x :: xs) Γ = match h x Γ with
    | none => .bad
    | some Γ => (b Γ).bind fun fl Γ => match fl with
      | .nx => forR h b xs Γ
      | .ct => forR h b xs Γ
      | .bk => .ok .nx Γ
      | .rt o => .ok (.rt o) Γ := rfl
end
@[simp] theorem atI_0 {α : Type} (x : α) (xs : List α) : atI (x :: xs) 0 = some x := atI_nat (j := 0) rfl
@[simp] theorem ixN_0 (n : Nat) : ixN (n + 1) 0 = some 0 := by
  unfold ixN
  rw [if_pos (by omega), if_pos (by omega)]
  rfl
@[simp] theorem atI_1 {α : Type} (x y : α) (xs : List α) : atI (x :: y :: xs) 1 = some y := atI_nat (j := 1) rfl
@[simp] theorem ixN_1 (n : Nat) : ixN (n + 2) 1 = some 1 := by
  unfold ixN
  rw [if_pos (by omega), if_pos (by omega)]
  rfl
@[simp] theorem atI_2 {α : Type} (x y z : α) (xs : List α) : atI (x :: y :: z :: xs) 2 = some z := atI_nat (j := 2) rfl
@[simp] theorem ixN_2 (n : Nat) : ixN (n + 3) 2 = some 2 := by
  unfold ixN
  rw [if_pos (by omega), if_pos (by omega)]
  rfl
@[simp] theorem atI_3 {α : Type} (x y z u : α) (xs : List α) : atI (x :: y :: z :: u :: xs) 3 = some u := atI_nat (j := 3) rfl
@[simp] theorem ixN_3 (n : Nat) : ixN (n + 4) 3 = some 3 := by
  unfold ixN
  rw [if_pos (by omega), if_pos (by omega)]
  rfl
@[simp] theorem atI_4 {α : Type} (x y z u v : α) (xs : List α) : atI (x :: y :: z :: u :: v :: xs) 4 = some v := atI_nat (j := 4) rfl
@[simp] theorem ixN_4 (n : Nat) : ixN (n + 5) 4 = some 4 := by
  unfold ixN
  rw [if_pos (by omega), if_pos (by omega)]
  rfl
@[simp] theorem atI_5 {α : Type} (x y z u v w : α) (xs : List α) : atI (x :: y :: z :: u :: v :: w :: xs) 5 = some w := atI_nat (j := 5) rfl
@[simp] theorem ixN_5 (n : Nat) : ixN (n + 6) 5 = some 5 := by
  unfold ixN
  rw [if_pos (by omega), if_pos (by omega)]
  rfl
/-- a draw's list: what is left of the cell, the seed, the count -/
def Dr (k : Nat) (ds : List D) : Prop := ∃ a s c : Int, ds = [.int a, .int s, .int c] ∧ 0 ≤ a ∧ 0 < s ∧ s < 2147483648 ∧ 0 ≤ c ∧ c ≤ k
theorem Dr.mono {k l : Nat} {ds : List D} (h : Dr k ds) (hl : k ≤ l) : Dr l ds := by
  obtain ⟨a, s, c, e, h1, h2, h3, h4, h5⟩ := h
  exact ⟨a, s, c, e, h1, h2, h3, h4, by omega⟩
/-- a pure comprehension -/
theorem lcR_pure {h : D → Env → Option Env} {t : G Bool} {e : G D} {vs : List Nat} {Γ : Env} (p : D → Bool) (f : D → D) : ∀ (xs acc : List D), acc.length + xs.length ≤ 100000 →
    (∀ x ∈ xs, ∃ Γ1 Γ2, h x Γ = some Γ1 ∧ t Γ1 = .ok (p x) Γ2 ∧ (p x = true → ∃ Γ3, e Γ2 = .ok (f x) Γ3 ∧ wipeG Γ3 vs = Γ) ∧ (p x = false → wipeG Γ2 vs = Γ)) → lcR h t e vs xs acc Γ = .ok (acc ++ (xs.filter p).map f) Γ
  | [], acc, _, _ => by simp [lcR]
  | x :: xs, acc, hl, hx => by
    obtain ⟨Γ1, Γ2, h1, h2, h3, h4⟩ := hx x List.mem_cons_self
    have hs : small acc.length = true := decide_eq_true (by simp at hl; omega)
    simp only [lcR, h1, h2]
    cases hp : p x with
    | true =>
      obtain ⟨Γ3, h5, h6⟩ := h3 hp
      simp only [if_true, h5, hs, h6]
      rw [lcR_pure p f xs (acc ++ [f x]) (by simp at hl ⊢; omega) fun y hy => hx y (List.mem_cons_of_mem _ hy)]
      simp [hp]
    | false =>
      simp only [Bool.false_eq_true, if_false, h4 hp]
      rw [lcR_pure p f xs acc (by simp at hl ⊢; omega) fun y hy => hx y (List.mem_cons_of_mem _ hy)]
      simp [hp]
/-- .. over things that are made of others -/
theorem lcR_over {α : Type} {h : D → Env → Option Env} {t : G Bool} {e : G D} {vs : List Nat} {Γ : Env} (g : α → D) (p : α → Bool) (f : α → D) : ∀ (xs : List α) (acc : List D), acc.length + xs.length ≤ 100000 →
    (∀ x ∈ xs, ∃ Γ1 Γ2, h (g x) Γ = some Γ1 ∧ t Γ1 = .ok (p x) Γ2 ∧ (p x = true → ∃ Γ3, e Γ2 = .ok (f x) Γ3 ∧ wipeG Γ3 vs = Γ) ∧ (p x = false → wipeG Γ2 vs = Γ)) → lcR h t e vs (xs.map g) acc Γ = .ok (acc ++ (xs.filter p).map f) Γ
  | [], acc, _, _ => by simp [lcR]
  | x :: xs, acc, hl, hx => by
    obtain ⟨Γ1, Γ2, h1, h2, h3, h4⟩ := hx x List.mem_cons_self
    have hs : small acc.length = true := decide_eq_true (by simp at hl; omega)
    simp only [List.map_cons, lcR, h1, h2]
    cases hp : p x with
    | true =>
      obtain ⟨Γ3, h5, h6⟩ := h3 hp
      simp only [if_true, h5, hs, h6]
      rw [lcR_over g p f xs (acc ++ [f x]) (by simp at hl ⊢; omega) fun y hy => hx y (List.mem_cons_of_mem _ hy)]
      simp [hp]
    | false =>
      simp only [Bool.false_eq_true, if_false, h4 hp]
      rw [lcR_over g p f xs acc (by simp at hl ⊢; omega) fun y hy => hx y (List.mem_cons_of_mem _ hy)]
      simp [hp]
theorem blsD_map {α : Type} (g : α → Bool) : ∀ xs : List α, blsD (xs.map fun c => D.bl (g c)) = some (xs.map g)
  | [] => rfl
  | x :: xs => by rw [List.map_cons, blsD_cons, blsD_map g xs]; rfl
theorem signsD_mem {z : Str} {x : D} (h : x ∈ signsD z) : ∃ c, c ∈ z.cps.toList ∧ x = .str ⟨#[c]⟩ := by
  unfold signsD at h
  rw [List.mem_map] at h
  obtain ⟨c, h1, h2⟩ := h
  exact ⟨c, h1, h2.symm⟩
theorem lcR_signs {h : D → Env → Option Env} {t : G Bool} {e : G D} {vs : List Nat} {Γ : Env} (p : Nat → Bool) (f : Nat → D) {s : Str} (hl : s.length ≤ 100000)
    (hx : ∀ c ∈ s.cps.toList, ∃ Γ1 Γ2, h (.str ⟨#[c]⟩) Γ = some Γ1 ∧ t Γ1 = .ok (p c) Γ2 ∧ (p c = true → ∃ Γ3, e Γ2 = .ok (f c) Γ3 ∧ wipeG Γ3 vs = Γ) ∧ (p c = false → wipeG Γ2 vs = Γ)) : lcR h t e vs (signsD s) [] Γ = .ok ((s.cps.toList.filter p).map f) Γ := by
  unfold signsD
  rw [lcR_over (fun c => .str ⟨#[c]⟩) p f s.cps.toList [] (by simpa [Str.length] using hl) hx]
  rfl
theorem signsD_length (z : Str) : (signsD z).length = z.length := by
  unfold signsD
  rw [List.length_map]
  rfl
@[simp] theorem le_size {n : Nat} (h : n ≤ 100000) : (n ≤ sizeLine) = True := eq_true (Nat.le_trans h (by decide))
@[simp] theorem small_eq (n : Nat) : small n = decide (n ≤ 100000) := rfl
theorem small_of {n : Nat} (h : n ≤ 100000) : small n = true := decide_eq_true h
/-! ### texts -/
theorem cutS_tail (z : Str) : (cutS z (some 1) none).cps.toList = z.cps.toList.drop 1 := by
  unfold cutS
  have h1 : HT.sIx z.length 0 (some 1) = min 1 z.length := HT.sIx_nat z.length 0 1
  rw [h1, HT.sIx_none]
  have hz : z.length = z.cps.toList.length := rfl
  rw [hz]
  cases z.cps.toList with
  | nil => rfl
  | cons c cs =>
    have : min 1 (c :: cs).length = 1 := by simp
    rw [this]
    simp
theorem str_ext {a b : Str} (h : a.cps.toList = b.cps.toList) : a = b := by
  cases a with
  | mk a => cases b with
    | mk b =>
      have : a = b := Array.toList_inj.mp h
      rw [this]
theorem str_len (z : Str) : z.length = z.cps.toList.length := rfl
theorem app_list (a b : Str) : (a ++ b).cps.toList = a.cps.toList ++ b.cps.toList := by
  show (a.cps ++ b.cps).toList = _
  simp
/-- signs that may be, so many at most -/
def SOk (n : Nat) (z : Str) : Prop := PyData.strOk z = true ∧ z.length ≤ n
theorem strOkI {z : Str} : PyData.strOk z = true ↔ ∀ c ∈ z.cps.toList, c < 0x110000 := by
  unfold PyData.strOk
  rw [Array.all_eq_true_iff_forall_mem]
  constructor
  · intro h c hc
    simpa using h c (by simpa using hc)
  · intro h c hc
    simpa using h c (by simpa using hc)
theorem SOk.mono {m n : Nat} {z : Str} (h : SOk m z) (hl : m ≤ n) : SOk n z := ⟨h.1, Nat.le_trans h.2 hl⟩
theorem SOk.app {m n : Nat} {a b : Str} (h : SOk m a) (h2 : SOk n b) : SOk (m + n) (a ++ b) := by
  refine ⟨strOkI.mpr fun c hc => ?_, ?_⟩
  · rw [app_list, List.mem_append] at hc
    exact hc.elim (strOkI.mp h.1 c) (strOkI.mp h2.1 c)
  · have e : (a ++ b).length = a.length + b.length := by rw [str_len, app_list, List.length_append]; rfl
    have := h.2
    have := h2.2
    omega
theorem app_len (a b : Str) : (a ++ b).length = a.length + b.length := by rw [str_len, app_list, List.length_append]; rfl
theorem SOk.cut {n : Nat} {a : Str} (h : SOk n a) (lo hi : Option Int) : SOk n (cutS a lo hi) := by
  refine ⟨strOkI.mpr fun c hc => ?_, Nat.le_trans (cutS_length a lo hi) h.2⟩
  unfold cutS at hc
  simp only at hc
  exact strOkI.mp h.1 c (List.mem_of_mem_drop (List.mem_of_mem_take (by simpa using hc)))
theorem SOk.sign {z : Str} {n c : Nat} (h : SOk n z) (hc : c ∈ z.cps.toList) : SOk 1 ⟨#[c]⟩ := by
  refine ⟨strOkI.mpr fun d hd => ?_, Nat.le_refl _⟩
  have e : d = c := by simpa using hd
  rw [e]
  exact strOkI.mp h.1 c hc
theorem atI_mem {α : Type} {xs : List α} {i : Int} (h0 : 0 ≤ i) (h1 : i < xs.length) : ∃ x, x ∈ xs ∧ atI xs i = some x := by
  obtain ⟨j, rfl⟩ := Int.eq_ofNat_of_zero_le h0
  have hj : j < xs.length := by omega
  exact ⟨xs[j], List.getElem_mem hj, atI_nat (List.getElem?_eq_getElem hj)⟩
/-- a comprehension over a state that goes on -/
theorem lcR_thread {S : Type} {h : D → Env → Option Env} {t : G Bool} {e : G D} {vs : List Nat} (E : S → Env) (I : Nat → S → Prop) (P : D → Prop) (c B : Nat) : ∀ (xs acc : List D) (k : Nat) (s : S), acc.length + xs.length ≤ 100000 → I k s → k + c * xs.length ≤ B →
    (∀ k s x, x ∈ xs → k + c ≤ B → I k s → ∃ Γ1 y s' Γ3, h x (E s) = some Γ1 ∧ t Γ1 = .ok true Γ1 ∧ e Γ1 = .ok y Γ3 ∧ wipeG Γ3 vs = E s' ∧ P y ∧ I (k + c) s') →
    ∃ ys s', lcR h t e vs xs acc (E s) = .ok (acc ++ ys) (E s') ∧ ys.length = xs.length ∧ (∀ y ∈ ys, P y) ∧ I (k + c * xs.length) s'
  | [], acc, k, s, _, hI, _, _ => ⟨[], s, by simp [lcR], rfl, by simp, by simpa using hI⟩
  | x :: xs, acc, k, s, hl, hI, hB, hx => by
    have hm : c * (x :: xs).length = c + c * xs.length := by rw [List.length_cons, Nat.mul_add, Nat.mul_one, Nat.add_comm]
    rw [hm] at hB
    obtain ⟨Γ1, y, s1, Γ3, h1, h2, h3, h4, h5, h6⟩ := hx k s x List.mem_cons_self (by omega) hI
    obtain ⟨ys, s', q1, q2, q3, q4⟩ := lcR_thread E I P c B xs (acc ++ [y]) (k + c) s1 (by simp at hl ⊢; omega) h6 (by omega) fun k s z hz => hx k s z (List.mem_cons_of_mem _ hz)
    have hs : small acc.length = true := decide_eq_true (by simp at hl; omega)
    refine ⟨y :: ys, s', ?_, by simp [q2], fun z hz => ?_, ?_⟩
    · simp only [lcR, h1, h2, if_true, h3, hs, h4]
      rw [q1]
      simp
    · rcases List.mem_cons.mp hz with rfl | hz
      · exact h5
      · exact q3 z hz
    · rw [hm, ← Nat.add_assoc]
      exact q4
theorem join_none : ∀ ys : List Str, (PySem.Str.join ⟨#[]⟩ ys).cps.toList = (ys.map (·.cps.toList)).flatten
  | [] => rfl
  | [y] => by simp [PySem.Str.join]
  | y :: z :: ys => by
    rw [show PySem.Str.join ⟨#[]⟩ (y :: z :: ys) = y ++ ⟨#[]⟩ ++ PySem.Str.join ⟨#[]⟩ (z :: ys) from rfl, app_list, app_list, join_none (z :: ys)]
    simp
/-- signs joined -/
theorem joinD_signs {zs : List Nat} (hz : ∀ c ∈ zs, c < 0x110000) {ys : List D} (h : ∀ y ∈ ys, ∃ c, c ∈ zs ∧ y = .str ⟨#[c]⟩) (hl : ys.length ≤ 1000) : ∃ cs : List Nat, joinD ⟨#[]⟩ ys = some (.str ⟨cs.toArray⟩) ∧ cs.length = ys.length ∧ ∀ c ∈ cs, c ∈ zs := by
  have h1 : ∃ cs : List Nat, ys = cs.map (fun c => .str ⟨#[c]⟩) ∧ ∀ c ∈ cs, c ∈ zs := by
    clear hl
    induction ys with
    | nil => exact ⟨[], rfl, by simp⟩
    | cons y ys ih =>
      obtain ⟨cs, e, q⟩ := ih fun z hz => h z (List.mem_cons_of_mem _ hz)
      obtain ⟨c, hc, e1⟩ := h y List.mem_cons_self
      exact ⟨c :: cs, by rw [e1, e]; rfl, fun d hd => (List.mem_cons.mp hd).elim (fun z => z ▸ hc) (q d)⟩
  obtain ⟨cs, rfl, q⟩ := h1
  refine ⟨cs, ?_, by simp, q⟩
  have h2 : strsD (cs.map fun c => D.str ⟨#[c]⟩) = some (cs.map fun c => ⟨#[c]⟩) := by
    clear hl q h hz
    induction cs with
    | nil => rfl
    | cons c cs ih => simp [strsD_cons, ih]
  have h3 : ((cs.map fun c => (⟨#[c]⟩ : Str)).map (·.length)).sum = cs.length := by
    clear hl q h hz h2
    induction cs with
    | nil => rfl
    | cons c cs ih =>
      simp only [List.map_cons, List.sum_cons, ih, List.length_cons]
      show 1 + _ = _
      omega
  have h4 : (Txt.join ⟨#[]⟩ (cs.map fun c => (⟨#[c]⟩ : Str))) = ⟨cs.toArray⟩ := by
    rw [TL.join_eq]
    apply str_ext
    rw [join_none]
    simp only [List.map_map]
    clear hl q h hz h2 h3
    induction cs with
    | nil => rfl
    | cons c cs ih => simp [ih]
  unfold joinD
  rw [h2]
  simp only [h3, h4, List.length_map]
  rw [if_pos]
  have : (⟨#[]⟩ : Str).length = 0 := rfl
  rw [this]
  simp at hl
  omega
theorem sOk_of {cs : List Nat} {n : Nat} (h : ∀ c ∈ cs, c < 0x110000) (hl : cs.length ≤ n) : SOk n ⟨cs.toArray⟩ := ⟨strOkI.mpr (by simpa using h), by simpa [Str.length] using hl⟩
/-! ### the law's own loop -/
def b_cells (m_right : Mf) (M : Int) : G Fl := (gSeq (gFor (gEnum (gOwnS (gSlL (gOwnS (gCat (gDat (gVar 0)) (gOwnS (gLst (gConsA (gC (.int 3)) gNilA))))) gNoP (gP (gCal oMax2 (gConsA (gC (.int 1)) (gConsA (gCal oMin2 (gConsA (gC (.int M)) (gConsA (gCal oLen (gConsA (gVar 0) gNilA)) gNilA))) gNilA))))))) (hTup 2 (hCons (putD 1) (hCons (putD 2) hNil))) (gIf (gNot (gTruth (gToD (gCall m_right (gcCons (gcD (gVar 2)) (gcCons (gcD (gVar 1)) gcNil)))))) (gRetD (gC (.bl false))) gPass))
  (gRetD (gC (.bl true))))
theorem enumD_mem {xs : List D} {x : D} (h : x ∈ enumD xs) : ∃ (i : Nat) (y : D), xs[i]? = some y ∧ x = .tup [.int i, y] := by
  obtain ⟨i, hi⟩ := List.mem_iff_getElem?.mp h
  rw [enumD_get, Option.map_eq_some_iff] at hi
  obtain ⟨y, h1, h2⟩ := hi
  exact ⟨i, y, h1, h2.symm⟩
theorem law_cells {m_right : Mf} {M : Int} (h : ∀ cell k : Int, 0 ≤ k ∧ k ≤ 100 → m_right [.d (.int cell), .d (.int k)] = .ok (.d (.bl true)) [.d (.int cell), .d (.int k)]) (ns : List Int) (hn : ns.length ≤ 63) :
    ∃ os, gBody [false] 3 (b_cells m_right M) [.d (.fl (ns.map D.int))] = .ok (.d (.bl true)) os := by
  have loop : ∀ (s : Option Ob) (xs : List D), (∀ x ∈ xs, ∃ i c : Int, x = .tup [.int i, .int c] ∧ 0 ≤ i ∧ i ≤ 100) → ∀ a b : Option Ob, ∃ a' b', forR (hTup 2 (hCons (putD 1) (hCons (putD 2) hNil))) (gIf (gNot (gTruth (gToD (gCall m_right (gcCons (gcD (gVar 2)) (gcCons (gcD (gVar 1)) gcNil)))))) (gRetD (gC (.bl false))) gPass) xs [s, a, b] = .ok .nx [s, a', b'] := by
    intro s xs
    induction xs with
    | nil => exact fun _ a b => ⟨a, b, rfl⟩
    | cons x xs ih =>
      intro hx a b
      obtain ⟨i, c, rfl, i0, i1⟩ := hx x List.mem_cons_self
      obtain ⟨a', b', q⟩ := ih (fun y hy => hx y (List.mem_cons_of_mem _ hy)) (some (.d (.int i))) (some (.d (.int c)))
      have hr := h c i ⟨i0, i1⟩
      refine ⟨a', b', ?_⟩
      rw [forR_cons]
      simp [hr, putD]
      simpa using q
  have hl : (ns.map D.int).length + 1 ≤ sizeLine := Nat.le_trans (show (ns.map D.int).length + 1 ≤ 64 by simpa using hn) (by decide)
  obtain ⟨a', b', q⟩ := loop (some (.d (.fl (ns.map D.int)))) (enumD (cutD (ns.map D.int ++ [.int 3]) none (some (if (if (ns.length : Int) < M then (ns.length : Int) else M) > 1 then (if (ns.length : Int) < M then (ns.length : Int) else M) else 1)))) (by
    intro x hx
    obtain ⟨i, y, hy, rfl⟩ := enumD_mem hx
    have hm : y ∈ ns.map D.int ++ [.int 3] := List.mem_of_mem_drop (List.mem_of_mem_take (List.mem_of_getElem? hy))
    have hi : i < (cutD (ns.map D.int ++ [.int 3]) none (some (if (if (ns.length : Int) < M then (ns.length : Int) else M) > 1 then (if (ns.length : Int) < M then (ns.length : Int) else M) else 1))).length := (List.getElem?_eq_some_iff.mp hy).1
    have hc : ∀ (xs : List D) lo hi, (cutD xs lo hi).length ≤ xs.length := fun xs lo hi => by unfold cutD; rw [List.length_take, List.length_drop]; omega
    have h2 := hc (ns.map D.int ++ [.int 3]) none (some (if (if (ns.length : Int) < M then (ns.length : Int) else M) > 1 then (if (ns.length : Int) < M then (ns.length : Int) else M) else 1))
    have hc : ∃ c, y = .int c := by
      rcases List.mem_append.mp hm with hm | hm
      · obtain ⟨c, _, rfl⟩ := List.mem_map.mp hm; exact ⟨c, rfl⟩
      · exact ⟨3, by simpa using hm⟩
    obtain ⟨c, rfl⟩ := hc
    refine ⟨i, c, rfl, by omega, ?_⟩
    simp only [List.length_append, List.length_map, List.length_cons, List.length_nil] at h2
    omega) none none
  refine ⟨[.d (.fl (ns.map D.int))], ?_⟩
  simp only [List.length_map] at hl
  simp [b_cells, hl]
  simp at q
  simp [q]
end Gm

/-! Gm10: more expressions: texts' upper and lower, a tuple turned about, enumerate over a tuple. -/
namespace Gm
open PySem PySem.Spec PyProof.Rows L2

/-! ### s.upper(), s.lower() -/
def oUpper : D → Option D
  | .str z => if z.length ≤ 100000 then some (.str (Txt.upper z)) else none
  | _ => none
def oLower : D → Option D
  | .str z => if z.length ≤ 100000 then some (.str (Txt.lower z)) else none
  | _ => none
@[simp] theorem oUpper_str (z : Str) : oUpper (.str z) = if z.length ≤ 100000 then some (.str (Txt.upper z)) else none := rfl
@[simp] theorem oLower_str (z : Str) : oLower (.str z) = if z.length ≤ 100000 then some (.str (Txt.lower z)) else none := rfl
section
variable {J : Jc} {ta : TE} {ga : G D}
/-- a text's method without arguments -/
theorem ed_m0 {T : Str → Str} {f : D → Option D} (hf : ∀ x y, f x = some y → ∃ z, x = .str z ∧ z.length ≤ 100000 ∧ y = .str (T z)) (ha : ED J ta ga) :
    ED J (tM0 (fun x xs H Q => ∃ a, x = .str a ∧ xs = [] ∧ a.length ≤ 5592405 ∧ Q (.str (T a)) H) ta) (g1 f ga) := fun σ H Γ fp R Q hp =>
  ha.go R hp fun x Γ1 v H1 fp1 hp R1 a1 s1 => by
    obtain ⟨y, e, q⟩ := hp.ofOpt
    obtain ⟨z, rfl, hz, rfl⟩ := hf x y e
    cases a1
    exact ⟨⟨z, rfl⟩, z, rfl, rfl, by omega, q _ H1 fp1 R1 (.str _) s1⟩
theorem upper_of : ∀ x y, oUpper x = some y → ∃ z, x = .str z ∧ z.length ≤ 100000 ∧ y = .str (Txt.upper z) := by
  intro x y e
  cases x <;> try cases e
  rename_i z
  rw [oUpper_str] at e
  split at e
  · cases e; exact ⟨z, rfl, by assumption, rfl⟩
  · cases e
theorem lower_of : ∀ x y, oLower x = some y → ∃ z, x = .str z ∧ z.length ≤ 100000 ∧ y = .str (Txt.lower z) := by
  intro x y e
  cases x <;> try cases e
  rename_i z
  rw [oLower_str] at e
  split at e
  · cases e; exact ⟨z, rfl, by assumption, rfl⟩
  · cases e
end
section
variable {K : Frag} {mg : Str → Option Value} {X : Cx} {W : WX} {a : Expr} {pos p : Pos} {ta : TE} {ga : G D} {gs : G Src}
theorem d_upper {apos : Pos} (ha : VD K mg X W a ta ga) (hb : attributeBase a "upper" X.env (eval a X.env) = eval a X.env := by rfl) (hl : (apos.endLine == pos.line) = true := by rfl) :
    VD K mg X W (.Call (.Attribute a "upper" apos) [] [] pos) (tM0 (fun x xs H Q => ∃ a, x = .str a ∧ xs = [] ∧ a.length ≤ 5592405 ∧ Q (.str (Txt.upper a)) H) ta) (g1 oUpper ga) :=
  fun k m => ⟨pe_upper (ha k m).1 hb hl, ed_m0 upper_of (ha k m).2⟩
theorem d_lower {apos : Pos} (ha : VD K mg X W a ta ga) (hb : attributeBase a "lower" X.env (eval a X.env) = eval a X.env := by rfl) (hl : (apos.endLine == pos.line) = true := by rfl) :
    VD K mg X W (.Call (.Attribute a "lower" apos) [] [] pos) (tM0 (fun x xs H Q => ∃ a, x = .str a ∧ xs = [] ∧ a.length ≤ 5592405 ∧ Q (.str (Txt.lower a)) H) ta) (g1 oLower ga) :=
  fun k m => ⟨pe_lower (ha k m).1 hb hl, ed_m0 lower_of (ha k m).2⟩
end

/-! ### t[::-1] -/
theorem rev_places (n : Nat) : Builtin.Slice.slicePlaces ((n : Int) - 1) (-1) (-1) = n := by
  unfold Builtin.Slice.slicePlaces
  rw [if_neg (by omega)]
  by_cases h : n = 0
  · subst h; rfl
  · rw [if_pos (by omega), show (-(-1 : Int)) = 1 from rfl, Int.ediv_one]; omega
theorem rev_adjust (n : Nat) : Builtin.Slice.sliceAdjust none none (-1) (n : Int) = ((n : Int) - 1, -1) := by
  unfold Builtin.Slice.sliceAdjust
  rfl
theorem fm_congr {α β : Type} {f g : α → Option β} : ∀ {l : List α}, (∀ x ∈ l, f x = g x) → l.filterMap f = l.filterMap g
  | [], _ => rfl
  | x :: l, h => by
    simp only [List.filterMap_cons, h x List.mem_cons_self]
    rw [fm_congr fun y hy => h y (List.mem_cons_of_mem _ hy)]
theorem rev_picked (xs : Array Value) : ((List.range xs.size).filterMap fun (k : Nat) => xs[((xs.size : Int) - 1 + (k : Int) * (-1)).toNat]?).toArray = xs.toList.reverse.toArray := by
  have h0 := HT.pick_gen xs.toList.reverse.toArray 0 xs.size
  have h1 : ((xs.toList.reverse.toArray.toList.drop 0).take xs.size) = xs.toList.reverse := by
    rw [List.drop_zero, List.take_of_length_le (by simp)]
  rw [h1] at h0
  rw [← h0]
  congr 1
  refine fm_congr fun k hk => ?_
  have hk' : k < xs.size := List.mem_range.mp hk
  have e1 : ((xs.size : Int) - 1 + (k : Int) * (-1)).toNat = xs.size - 1 - k := by omega
  have e2 : (((0 : Nat) : Int) + (k : Int) * 1).toNat = k := by omega
  rw [e1, e2, show xs.toList.reverse.toArray[k]? = xs.toList.reverse[k]? by simp, List.getElem?_reverse (by simpa using hk'), Array.length_toList, Array.getElem?_toList]
section
variable {prog : Program} {w : World} {A : Around} {E : Value → Shared → Prop} {s : Shared}
theorem applied_rev {sl : Addr} {u : Tok} {n : Nat} {Q : Int × Int × Nat → Shared → Prop} (hs : s.heap.IsSliceOf sl .none .none (.int (-1) u)) (h : Q ((n : Int) - 1, -1, n) s) : wpAny (model prog w) A (Builtin.Slice.sliceApplied (.ref sl) (pure (n : Int))) Q E s := by
  obtain ⟨ob, g1, g2, g3⟩ := id hs
  unfold Builtin.Slice.sliceApplied Builtin.Slice.sliceFields
  refine wpAny_bind (wpAny_bind (wpAny_field g1 g3 (x := .none) rfl (wpAny_bind (wpAny_field g1 g3 (x := .none) rfl (wpAny_bind (wpAny_field g1 g3 (x := .int (-1) u) rfl (wpAny_pure (wpAny_bind (HT.slicePart_ (.int (-1) u) ?_)))))))))
  show wpAny (model prog w) A (if ((-1 : Int) == 0) = true then _ else _) _ _ s
  rw [if_neg (by decide)]
  refine wpAny_bind (HT.slicePart_ .none (wpAny_bind (HT.slicePart_ .none (wpAny_bind (wpAny_pure ?_)))))
  show wpAny (model prog w) A (match Builtin.Slice.sliceAdjust none none (-1) (n : Int) with | (lo, hi) => pure (lo, (-1 : Int), Builtin.Slice.slicePlaces lo hi (-1))) _ _ s
  rw [rev_adjust n]
  show wpAny (model prog w) A (pure ((n : Int) - 1, (-1 : Int), Builtin.Slice.slicePlaces ((n : Int) - 1) (-1) (-1))) _ _ s
  rw [rev_places]
  exact wpAny_pure h
theorem getItem_rev {t sl : Addr} {items : Array Value} {u : Tok} {Q : Value → Shared → Prop} (ht : IsTup s.heap t items) (hs : s.heap.IsSliceOf sl .none .none (.int (-1) u)) (hz : items.size ≤ sizeLine)
    (h : Q (.ref s.heap.objs.size) { s with heap := s.heap.push { cls := .type "tuple", data := .seq items.toList.reverse.toArray } }) : wpAny (model prog w) A (getItem (.ref t) (.ref sl)) Q E s := by
  have fit : sizeOk (.seq items.toList.reverse.toArray) := by
    show items.toList.reverse.toArray.size ≤ sizeLine
    simpa using hz
  obtain ⟨ob, g1, g2, g3⟩ := id hs
  have ty : s.TypeIs (.ref sl) "slice" := ⟨ob, g1, g2⟩
  unfold getItem
  try with_reducible refine wpAny_holding ?_
  first | refine wpAny_bind (wpAny_pure ?_) | skip
  refine wpAny_bind (wpAny_sequenceKey ht.typeIs (by decide) (wpAny_bind (wpAny_callSpecial?_slot (name := Str.ofString "__getitem__") ht.typeIs PyProof.Rows.slot_tuple_getitem (wpAny_call_entry PyProof.Rows.slot_tuple_getitem ht.typeIs entry_tuple_getitem ?_ (args_tuple_getitem _ _)))))
  show wpAny (model prog w) _ (Builtin.Tuple.tupleItemsOf (.ref t) >>= _) _ _ s
  refine wpAny_bind (tupleItemsOf_ ht (wpAny_bind (wpAny_typeOf ty ?_)))
  rw [if_pos (by decide)]
  refine wpAny_bind (applied_rev hs ?_)
  have no : ¬ ((((items.size : Int) - 1) == 0 && (-1 : Int) == 1 && items.size == items.size) = true) := by
    rw [show ((-1 : Int) == 1) = false from rfl, Bool.and_false, Bool.false_and]
    exact Bool.false_ne_true
  show wpAny (model prog w) _ (if (((items.size : Int) - 1) == 0 && (-1 : Int) == 1 && items.size == items.size) = true then _ else _) _ _ s
  rw [if_neg no, rev_picked]
  first
    | exact wpAny_bind (m := Builtin.Tuple.tupleExact _) (wpAny_newObj_type (wpAny_pure ⟨_, rfl, wpAny_pure h⟩) fit)
    | exact wpAny_bind (m := Builtin.Tuple.tupleExact _) (wpAny_newObj_type (wpAny_bind (wpAny_pure (wpAny_pure ⟨_, rfl, wpAny_pure h⟩))) fit)
    | exact wpAny_bind (wpAny_bind (m := Builtin.Tuple.tupleExact _) (wpAny_newObj_type (wpAny_pure (wpAny_pure ⟨_, rfl, wpAny_pure h⟩)) fit))
    | exact wpAny_bind (wpAny_bind (m := Builtin.Tuple.tupleExact _) (wpAny_newObj_type (wpAny_pure ⟨_, rfl, wpAny_pure h⟩) fit))
end
def tRevT (K : Frag) (te : TE) : TE := fun σ H Q => te σ H fun x H1 => ∃ a xs, x = .ref a ∧ SqT K H1 a xs ∧ ∀ p, H1 p = none → Q (.ref p) (upd H1 p (.tup xs.reverse))
theorem pe_revT {X : Cx} {e : Expr} {te : TE} {k : Nat} {p1 p2 p3 pos : Pos} (he : PE X e te) : PE X (.Subscript e (.Slice none none (some (.UnaryOp .USub (.Constant (.int 1) k p1) p2)) p3) pos) (tRevT X.K te) := by
  refine ⟨fun pins s σ H Q I h => Subscript_ (thn (he.run pins s σ H _ I h) fun v s1 ⟨x, H1, I1, r1, q1⟩ => ?_)⟩
  obtain ⟨a, xs, ex, hx, q⟩ := q1
  subst ex
  cases r1
  have minus : PO X (some (.UnaryOp .USub (.Constant (.int 1) k p1) p2)) (tPart (tUn (rU fun i => .int (-i)) (tC (.int 1)))) := po_some (pe_un un_neg pe_int)
  refine wpAny_Slice (thn (po_none.run pins s1 σ H1 (fun o H2 => o = none ∧ H2 = H1) I1 ⟨rfl, rfl⟩) fun vl s2 ⟨l, H2, I2, pl, el, e2⟩ => ?_)
  subst el e2
  refine thn (po_none.run pins s2 σ H2 (fun o H3 => o = none ∧ H3 = H2) I2 ⟨rfl, rfl⟩) fun vu s3 ⟨u, H3, I3, pu, eu, e3⟩ => ?_
  subst eu e3
  refine thn (minus.run pins s3 σ H3 (fun o H4 => o = some (-1) ∧ H4 = H3) I3 ⟨1, rfl, -1, rfl, rfl, rfl⟩) fun vs s4 ⟨o, H4, I4, ps, eo, e4⟩ => ?_
  subst eo e4
  have hv : vl = .none ∧ vu = .none := by cases pl; cases pu; exact ⟨rfl, rfl⟩
  obtain ⟨rfl, rfl⟩ := hv
  obtain ⟨tk, rfl⟩ : ∃ tk, vs = .int (-1) tk := by cases ps; exact ⟨_, rfl⟩
  have I5 : Inv X pins σ H4 { s4 with heap := s4.heap.push { cls := .type "slice", data := .fields #[.none, .none, .int (-1) tk] } } := I4.kept (t' := s4.toks) fun b ob q => Heap.get?_push_of_some _ q
  obtain ⟨its, r, ht, hz⟩ := I5.tuple hx
  have hlen := r.length
  show wpAny (model X.prog X.w) X.A (subscriptTail e _ (.ref a) (.ref s4.heap.objs.size)) (EP X pins σ Q) X.xe _
  refine tail_any (ops := [.ref a, .ref s4.heap.objs.size]) ht.typeIs PyProof.Rows.slot_tuple_getitem.lookup ?_ (by with_unfolding_all rfl)
  refine getItem_rev ht (Heap.IsSliceOf.new _ .none .none (.int (-1) tk)) (by rw [List.size_toArray]; omega) ?_
  refine ⟨.ref _, _, I5.laid (t' := s4.toks) (o := .tup xs.reverse) (fun b ob q => Heap.get?_push_of_some _ q) (Nat.le_refl _) ?_, rfl, q _ (I5.hok.fresh (Nat.le_refl _))⟩
  exact ⟨by rw [List.length_reverse]; exact hz, _, r.reverse, IsTup.new _ _⟩
def oRev : D → Option D
  | .tup xs => some (.tup xs.reverse)
  | _ => none
@[simp] theorem oRev_tup (xs : List D) : oRev (.tup xs) = some (.tup xs.reverse) := rfl
theorem Ats.reverse {K : Frag} {H : Hp} : ∀ {vs : List V} {xs : List D}, Ats K H vs xs → Ats K H vs.reverse xs.reverse
  | _, _, .nil => .nil
  | _, _, .cons h hs => by
    rw [List.reverse_cons, List.reverse_cons]
    exact (Ats.reverse hs).append (.cons h .nil)
theorem ed_revT {J : Jc} {ta : TE} {ga : G D} (ha : ED J ta ga) : ED J (tRevT J.K ta) (g1 oRev ga) := fun σ H Γ fp R Q hp =>
  ha.go R hp fun x Γ1 v H1 fp1 hp R1 a1 s1 => by
    obtain ⟨y, e, q⟩ := hp.ofOpt
    cases x <;> try cases e
    cases a1 with
    | tup h hs => exact ⟨_, _, rfl, h, fun p hn => q _ _ fp1 (R1.ext (Ext.new hn)) (.tup (.inl (.inl upd_same)) ((Ats.reverse hs).mono (Ext.new hn).im)) (s1.trans (Step.ofExt (Ext.new hn)))⟩
theorem d_revT {K : Frag} {mg : Str → Option Value} {X : Cx} {W : WX} {a : Expr} {pos p1 p2 p3 : Pos} {k : Nat} {ta : TE} {ga : G D} (ha : VD K mg X W a ta ga) :
    VD K mg X W (.Subscript a (.Slice none none (some (.UnaryOp .USub (.Constant (.int 1) k p1) p2)) p3) pos) (tRevT K ta) (g1 oRev ga) := fun k m => by
  have h := ha k m
  subst k
  exact ⟨pe_revT h.1, ed_revT h.2⟩
/-! ### enumerate(tuple) -/
theorem meets_enumT (l : Addr) (items : Array Value) :
    Meets (Builtin.«enumerate.__new__» ⟨[.type "enumerate", .ref l], []⟩) (fun _ R s => s.heap.IsTuple l items ∧
      R (.ok (.ret (.ref (s.heap.push { cls := .type "tuple_iterator", data := .fields #[.ref l, .int 0 0] }).objs.size)))
        { s with heap := (s.heap.push { cls := .type "tuple_iterator", data := .fields #[.ref l, .int 0 0] }).push { cls := .type "enumerate", data := .fields #[.none, .bool false, .ref s.heap.objs.size, rawInt 0, .none, .none] } }) :=
  .of_wp fun prog w A R s z => by
    obtain ⟨hp, g, d, tk, os⟩ := s; obtain ⟨hl, h⟩ := z
    have sub := sub_enumerate
    have hL : Heap.IsTuple (Shared.heap ⟨hp, g, d, tk, os⟩) l items := hl
    wp_walk using wpAny_pyIter_tuple hL
    refine wpAny_stack_any fun st => wpAny_pure ?_
    split
    · rename_i c _ _ _ _ _
      cases (c == Value.type "enumerate") <;> (wp_walk using wpAny_pyIter_tuple hL; exact ⟨_, rfl, h⟩)
    · wp_walk using wpAny_pyIter_tuple hL
      exact ⟨_, rfl, h⟩
section
variable {prog : Program} {w : World} {A : Around} {E : Value → Shared → Prop} {s : Shared}
theorem call_enumT {l : Addr} {items : Array Value} {Q : Value → Shared → Prop} (hL : s.heap.IsTuple l items)
    (h : ∀ h', IsEnum h' (s.heap.objs.size + 1) s.heap.objs.size 0 .none → h'.IsTupleIter s.heap.objs.size l 0 → h'.objs.size = s.heap.objs.size + 2 →
      (∀ b o, s.heap.get? b = some o → h'.get? b = some o) → Q (.ref (s.heap.objs.size + 1)) { s with heap := h' }) :
    wpAny (model prog w) A (call (.type "enumerate") [.ref l]) Q E s := by
  refine callType_new F.called_enumerate (by decide) (F.typeCall_enumerate_1 _) (F.newCall_enumerate_1 _) (fun obj => F.args_object_init_2 obj _) F.entry_enumerate_new (meets_enumT l items) ⟨hL, ?_⟩
  have hz : (s.heap.push { cls := .type "tuple_iterator", data := .fields #[.ref l, .int 0 0] }).objs.size = s.heap.objs.size + 1 := Heap.size_push ..
  show _ ∧ _
  rw [hz]
  have he : IsEnum ((s.heap.push { cls := .type "tuple_iterator", data := .fields #[.ref l, .int 0 0] }).push
      { cls := .type "enumerate", data := .fields #[.none, .bool false, .ref s.heap.objs.size, rawInt 0, .none, .none] }) (s.heap.objs.size + 1) s.heap.objs.size 0 .none := by
    have q := Heap.get?_push_size (s.heap.push { cls := .type "tuple_iterator", data := .fields #[.ref l, .int 0 0] })
      (o := { cls := .type "enumerate", data := .fields #[.none, .bool false, .ref s.heap.objs.size, rawInt 0, .none, .none] }) rfl
    rw [hz] at q; exact q
  exact ⟨⟨_, he, rfl⟩, h _ he ⟨_, Heap.get?_push_of_some _ (Heap.get?_push_size _ rfl), rfl, rfl⟩ (by rw [Heap.size_push, hz]) fun b o z => Heap.get?_push_of_some _ (Heap.get?_push_of_some _ z)⟩
end
theorem next_enumT_end {prog : Program} {w : World} {A : Around} {E : Value → Shared → Prop} {s : Shared} {e it l : Addr} {i : Nat} {items : Array Value} {old : Value} {Q : Option Value → Shared → Prop} (hh : A.handled = none)
    (he : IsEnum s.heap e it i old) (hit : s.heap.IsTupleIter it l i) (hl : s.heap.IsTuple l items) (hx : items[i]? = none)
    (hQ : ∀ h', Heap.ExtBut it s.heap h' → Q none { s with heap := h' }) : wpAny (model prog w) A (pyNext (.ref e)) Q E s := by
  have ty : s.TypeIs (.ref e) "enumerate" := ⟨_, he, rfl⟩
  unfold pyNext
  refine wpAny_bind (wpAny_attempt (wpAny_callSpecial?_slot (name := Str.ofString "__next__") ty F.slot_enumerate_next (wpAny_call_entry F.slot_enumerate_next ty F.entry_enumerate_next ?_ (F.args_enumerate_next_1 _))))
  show wpAny (model prog w) _ (field (.ref e) 2 >>= _) _ _ _
  refine wpAny_bind (wpAny_field he rfl (x := .ref it) rfl (wpAny_bind (wpAny_nextOf_tuple_end hh hit hl hx fun h' x he' hx' => ?_)))
  obtain ⟨o, ho, hc⟩ := hx'
  exact wpAny_bind (wpAny_isInstance (T := "StopIteration") (b := true) ⟨o, ho, hc⟩ isSubtype_stop (wpAny_pure (hQ _ he')))
/-- the tuple at a, each item in a new pair -/
def IteT (K : PySem.W.Frag) (a : Addr) : It :=
  ⟨fun i H => ∃ (xs : List V) (x : V), SqT K H a xs ∧ xs[i]? = some x, fun i H v H' => ∃ T x, v = .ref T ∧ H T = none ∧ H' = upd H T (.tup [.int (i : Nat), x]) ∧ ∀ xs, SqT K H a xs → xs[i]? = some x, fun i H => ∃ xs : List V, SqT K H a xs ∧ xs.length ≤ i⟩
theorem turn_enumT {P : Program} {w : World} {K : PySem.W.Frag} {elts : List Expr} {kk : Nat} {tpos : Pos} (a e it : Addr) (hne : e ≠ it) (hea : e ≠ a) (hia : a ≠ it) :
    Turn P w K (.Tuple elts kk tpos) (IteT K a) [e, it] e (fun i h => (∃ old, IsEnum h e it ((i : Nat) : Int) old) ∧ h.IsTupleIter it a i) where
  mem := by simp
  obj := fun i h st b hb => by
    obtain ⟨⟨old, he⟩, ⟨o, ho, hc, hd⟩⟩ := st
    have z : b = e ∨ b = it := by simpa using hb
    rcases z with rfl | rfl
    · exact ⟨_, he, fun v q => nomatch q⟩
    · exact ⟨o, ho, fun v q => by rw [hd] at q; cases q⟩
  keep := fun i h h' st k => let ⟨⟨old, he⟩, hi⟩ := st; ⟨⟨old, k e (by simp) _ he⟩, hi.at fun o q => k it (by simp) o q⟩
  item := by
    intro X hP hw hK hc i pins s σ H E I hf st hg
    subst hP hw hK
    obtain ⟨⟨old, he⟩, hit⟩ := st
    obtain ⟨xs, x, hq, hx⟩ := hg
    obtain ⟨its, rv, p, hz⟩ := I.tuple hq
    obtain ⟨u, hu, ru⟩ := rv.get hx
    have hel : e < s.heap.objs.size := Heap.lt_size he
    have hil : it < s.heap.objs.size := by obtain ⟨_, q, _⟩ := hit; exact Heap.lt_size q
    have p' : s.heap.IsTuple a its.toArray := p
    have hi : i < its.toArray.size := by rw [List.size_toArray]; exact (List.getElem?_eq_some_iff.mp hu).1
    refine wpAny_pyNext_enum_itemC (Draws.tuple (A := X.A.in1) (show X.A.in1.handled = none from I.ok.hd hc) it a hia its.toArray) he ⟨hit, p'⟩ hi hne (by simp [hne, hea]) fun y h' tk hy ho st' hT hsz hk => ?_
    have hyu : y = u := by
      have q : its.toArray[i]? = some u := by simpa using hu
      rw [q] at hy
      exact (Option.some.inj hy).symm
    subst hyu
    refine ⟨_, rfl, wpAny_letOwnedTupleGo_enum (s := { s with heap := h', toks := tk + 1 }) ho fun h'' he' sb => ?_⟩
    have hT2 : h''.get? s.heap.objs.size = some { cls := .type "tuple", data := .seq #[.int i tk, y] } := (sb.2 _ (Nat.ne_of_gt hel)).trans hT
    have new : ObjOk X.prog X.w (upd H s.heap.objs.size (.tup [.int (i : Nat), x])) h'' s.heap.objs.size (.tup [.int (i : Nat), x]) :=
      ⟨by show 2 ≤ sizeLine; decide, [.int i tk, y], .cons ⟨_, rfl⟩ (.cons ru .nil), ⟨_, hT2, rfl, _, rfl⟩⟩
    have I1 : Inv X pins σ (upd H s.heap.objs.size (.tup [.int (i : Nat), x])) { s with heap := h'', toks := tk + 1 } :=
      I.turnedNew (ch := [e, it]) (fun b ob hb q => (sb.2 b (fun z => hb (by simp [z]))).trans (hk b ob (fun z => hb (by simp [z])) (fun z => hb (by simp [z])) q)) hf (Nat.le_refl _) new
    refine ⟨.ref s.heap.objs.size, _, I1, rfl, ⟨_, x, rfl, I.hok.fresh (Nat.le_refl _), rfl, fun ys hy => by rw [I.tuple_inj hy hq]; exact hx⟩, ⟨⟨y, ?_⟩, st'.1.at fun o q => (sb.2 it (Ne.symm hne)).trans q⟩, fun b hb => ?_⟩
    · rw [show ((i + 1 : Nat) : Int) = (i : Int) + 1 by omega]
      exact he'
    · have lt : b < s.heap.objs.size := by
        have z : b = e ∨ b = it := by simpa using hb
        rcases z with rfl | rfl
        · exact hel
        · exact hil
      rw [upd_ne (Nat.ne_of_lt lt)]
      exact (hf b hb).1
  done := by
    intro X hP hw hK hc i pins s σ H E I hf st hg
    subst hP hw hK
    obtain ⟨⟨old, he⟩, hit⟩ := st
    obtain ⟨xs, hq, hx⟩ := hg
    obtain ⟨its, rv, p, hz⟩ := I.tuple hq
    obtain ⟨f0, f1, f2, f3, f4, f5⟩ := hf it (by simp)
    have hl := rv.length
    exact next_enumT_end (I.ok.hd hc) he hit (items := its.toArray) p (by simp; omega) fun h' eb => ⟨rfl, I.turned (t' := s.toks) (fun b o hb q => eb b o hb q) f0 f1 f3 f4 f5⟩
  self := fun A i s Q E st h => let ⟨⟨_, he⟩, _⟩ := st; wpAny_pyIter_enum he h
def iEnumT (K : PySem.W.Frag) (ta : TA) : TI := fun σ H R => ta σ H fun vs H1 => ∃ a xs, vs = [.ref a] ∧ SqT K H1 a xs ∧ R (IteT K a) H1
theorem pi_enumT {X : Cx} {e : Expr} {ta : TA} {p pos tpos : Pos} {elts : List Expr} {kk : Nat} (hg : Gl X "enumerate") (hm : X.mg "enumerate" = none) (ha : PA X [e] ta) (hs : starEach [e] X.env = [(false, eval e X.env)] := by rfl) :
    PI X (.Tuple elts kk tpos) (.Call (.Name "enumerate" p) [e] [] pos) (iEnumT X.K ta) := by
  refine ⟨fun pins s σ H R I h => Call_ (ld_blt I hg hm boot_enumerate (PyProof.Rows.callWith_type1 (thn (ha.run pos pins s σ H _ I h) fun us s1 ⟨vs, H1, I1, r1, q1⟩ => ?_) hs rfl))⟩
  obtain ⟨a, xs, ex, hq, q⟩ := q1
  subst ex
  cases r1 with
  | cons r rr =>
    cases rr
    cases r
    obtain ⟨its, rv, p', hz⟩ := I1.tuple hq
    have p2 : s1.heap.IsTuple a its.toArray := p'
    have hal : a < s1.heap.objs.size := by obtain ⟨_, g, _⟩ := id p2; exact Heap.lt_size g
    refine call_enumT p2 fun h' he hit hsz hk => wpAny_pyIter_enum he ?_
    have I2 : Inv X pins σ H1 { s1 with heap := h' } := I1.kept (t' := s1.toks) hk
    refine ⟨s1.heap.objs.size + 1, [s1.heap.objs.size + 1, s1.heap.objs.size], _, _, H1, rfl, I2, turn_enumT a (s1.heap.objs.size + 1) s1.heap.objs.size (Nat.succ_ne_self _) (Nat.ne_of_gt (Nat.lt_succ_of_lt hal)) (Nat.ne_of_lt hal), ⟨⟨.none, he⟩, hit⟩, fun b hb => ?_, q⟩
    have le : s1.heap.objs.size ≤ b := by
      have z : b = s1.heap.objs.size + 1 ∨ b = s1.heap.objs.size := by simpa using hb
      rcases z with z | z
      · rw [z]; exact Nat.le_add_right _ _
      · rw [z]; exact Nat.le_refl _
    exact I1.fpOk le (I1.hok.fresh le)
def gEnumT (a : G D) (Γ : Env) : Res (List D) Env := (a Γ).bind fun x Γ => match x with
  | .tup xs => .ok (enumD xs) Γ
  | _ => .bad
@[simp] def kEnumT : D → Env → Res (List D) Env
  | .tup xs, Γ => .ok (enumD xs) Γ
  | _, _ => .bad
@[simp] theorem gEnumT_ap (a : G D) (Γ : Env) : gEnumT a Γ = (a Γ).bind kEnumT := by
  unfold gEnumT; congr 1; funext y Γ; unfold kEnumT; cases y <;> rfl
theorem itr_enumT {K : Frag} {H : Hp} {p : Addr} {vs : List V} {xs : List D} {f : Fp} (hq : SqT K H p vs) (a : Ats K H vs xs) : ItR K H (IteT K p) (enumD xs) f := fun H' r i => by
  refine ⟨fun x e => ?_, fun e => ⟨vs, r.1.sqT hq, by rw [a.length]; rw [enumD_length] at e; exact e⟩⟩
  rw [enumD_get, Option.map_eq_some_iff] at e
  obtain ⟨x, e, rfl⟩ := e
  obtain ⟨v, h1, h2⟩ := a.get e
  refine ⟨⟨vs, v, r.1.sqT hq, h1⟩, fun w H'' y => ?_⟩
  obtain ⟨T, z, rfl, nT, rfl, y⟩ := y
  have e2 := y vs (r.1.sqT hq)
  rw [h1] at e2
  cases e2
  exact ⟨Ext.new nT, .tup (.inl (.inl upd_same)) (.cons (.int _) (.cons (h2.mono (r.1.trans (Ext.new nT).im)) .nil))⟩
theorem ei_enumT {J : Jc} {te : TE} {ga : G D} (ha : ED J te ga) : EI J (iEnumT J.K (tCons te tNil)) (gEnumT ga) := fun σ H Γ fp R K hp =>
  ha.go R hp fun x Γ1 v H1 fp1 hp R1 a1 s1 => by
    cases x with
    | tup xs =>
      cases a1 with
      | tup h1 h2 => exact ⟨_, _, rfl, h1, hp _ H1 fp1 (fun _ => False) R1 (itr_enumT h1 h2) (fun _ z => z.elim) (fun _ z => z.elim) (s1.sub fun b z => z.elim (fun z => z.elim) id)⟩
    | _ => exact hp.elim
theorem i_enumT {K : Frag} {mg : Str → Option Value} {X : Cx} {W : WX} {a : Expr} {pos p : Pos} {ta : TE} {ga : G D} {elts : List Expr} {kk : Nat} {tpos : Pos} (hm : mg "enumerate" = none) (ha : VD K mg X W a ta ga) (hg : Gl X "enumerate" := by rfl) (he : starEach [a] X.env = [(false, eval a X.env)] := by rfl) :
    VI K mg X W (.Tuple elts kk tpos) (.Call (.Name "enumerate" p) [a] [] pos) (iEnumT K (tCons ta tNil)) (gEnumT ga) := fun k m => by
  have h := ha k m
  subst k m
  exact ⟨pi_enumT hg hm (pa_cons h.1 pa_nil he) he, ei_enumT h.2⟩
end Gm

/-! Gm11: loops reckoned, lists cut, numbers told. -/
namespace Gm
open PySem PySem.Spec PyProof.Rows L2

/-- range(n), from the i-th number on -/
def rng (i m : Nat) : List D := (List.range' i m).map fun (j : Nat) => D.int (j : Int)
theorem rng_range (n : Nat) : (List.range n).map (fun (i : Nat) => D.int (i : Int)) = rng 0 n := by
  unfold rng
  rw [List.range_eq_range']
@[simp] theorem rng_zero (i : Nat) : rng i 0 = [] := rfl
theorem rng_succ (i m : Nat) : rng i (m + 1) = .int i :: rng (i + 1) m := by
  unfold rng
  rw [List.range'_succ]
  rfl
/-- a loop over range(n) whose body goes on: a state that is kept -/
theorem forR_rng {S : Type} {h : D → Env → Option Env} {b : G Fl} (E : S → Env) (I : Nat → S → Prop) (n : Nat)
    (hs : ∀ i s, i < n → I i s → ∃ Γ1 s', h (.int i) (E s) = some Γ1 ∧ (b Γ1 = .ok .nx (E s') ∨ b Γ1 = .ok .ct (E s')) ∧ I (i + 1) s') :
    ∀ (m i : Nat) (s : S), i + m = n → I i s → ∃ s', forR h b (rng i m) (E s) = .ok .nx (E s') ∧ I n s'
  | 0, i, s, e, hI => ⟨s, rfl, by have : i = n := by omega
                                  exact this ▸ hI⟩
  | m + 1, i, s, e, hI => by
    obtain ⟨Γ1, s1, h1, h2, h3⟩ := hs i s (by omega) hI
    obtain ⟨s', q1, q2⟩ := forR_rng E I n hs m (i + 1) s1 (by omega) h3
    refine ⟨s', ?_, q2⟩
    rw [rng_succ, forR_cons]
    simp only [h1]
    rcases h2 with h2 | h2 <;> (rw [h2]; exact q1)
/-- .. over a list -/
theorem forR_list {S : Type} {h : D → Env → Option Env} {b : G Fl} (E : S → Env) (I : List D → S → Prop) :
    ∀ (xs : List D) (s : S), (∀ x ys s, I (x :: ys) s → ∃ Γ1 s', h x (E s) = some Γ1 ∧ (b Γ1 = .ok .nx (E s') ∨ b Γ1 = .ok .ct (E s')) ∧ I ys s') → I xs s → ∃ s', forR h b xs (E s) = .ok .nx (E s') ∧ I [] s'
  | [], s, _, hI => ⟨s, rfl, hI⟩
  | x :: xs, s, hs, hI => by
    obtain ⟨Γ1, s1, h1, h2, h3⟩ := hs x xs s hI
    obtain ⟨s', q1, q2⟩ := forR_list E I xs s1 hs h3
    refine ⟨s', ?_, q2⟩
    rw [forR_cons]
    simp only [h1]
    rcases h2 with h2 | h2 <;> (rw [h2]; exact q1)
theorem whileR_step {c : G Bool} {b : G Fl} {n : Nat} {Γ Γ1 Γ2 : Env} {fl : Fl} (h1 : c Γ = .ok true Γ1) (h2 : b Γ1 = .ok fl Γ2) (hf : fl = .nx ∨ fl = .ct) : whileR c b (n + 1) Γ = whileR c b n Γ2 := by
  unfold whileR
  rw [h1]
  show Res.bind (b Γ1) _ = _
  rw [h2]
  rcases hf with rfl | rfl <;> (cases n <;> rfl)
theorem whileR_ret {c : G Bool} {b : G Fl} {n : Nat} {Γ Γ1 Γ2 : Env} {o : Ob} (h1 : c Γ = .ok true Γ1) (h2 : b Γ1 = .ok (.rt o) Γ2) : whileR c b (n + 1) Γ = .ok (.rt o) Γ2 := by
  unfold whileR
  rw [h1]
  show Res.bind (b Γ1) _ = _
  rw [h2]
  rfl
theorem whileR_bk {c : G Bool} {b : G Fl} {n : Nat} {Γ Γ1 Γ2 : Env} (h1 : c Γ = .ok true Γ1) (h2 : b Γ1 = .ok .bk Γ2) : whileR c b (n + 1) Γ = .ok .nx Γ2 := by
  unfold whileR
  rw [h1]
  show Res.bind (b Γ1) _ = _
  rw [h2]
  rfl
theorem whileR_end {c : G Bool} {b : G Fl} {n : Nat} {Γ Γ1 : Env} (h1 : c Γ = .ok false Γ1) : whileR c b (n + 1) Γ = .ok .nx Γ1 := by
  unfold whileR
  rw [h1]
  rfl
/-! ### lists cut -/
theorem sIx_drop (n t : Nat) : HT.sIx n 0 (some (t : Int)) = min t n := HT.sIx_nat n 0 t
theorem cutD_drop (xs : List D) (t : Nat) : cutD xs (some (t : Int)) none = xs.drop t := by
  unfold cutD
  rw [HT.sIx_nat, HT.sIx_none]
  by_cases h : t ≤ xs.length
  · rw [Nat.min_eq_left h, List.take_of_length_le (by simp)]
  · rw [Nat.min_eq_right (by omega), List.drop_of_length_le (show xs.length ≤ t by omega), List.drop_of_length_le (Nat.le_refl _)]
    simp
theorem cutD_take (xs : List D) (t : Nat) : cutD xs none (some (t : Int)) = xs.take t := by
  unfold cutD
  rw [HT.sIx_nat, HT.sIx_none]
  by_cases h : t ≤ xs.length
  · rw [Nat.min_eq_left h]; rfl
  · rw [Nat.min_eq_right (by omega), List.drop_zero, Nat.sub_zero, List.take_of_length_le (Nat.le_refl _), List.take_of_length_le (by omega)]
theorem cutS_cps (z : Str) (lo hi : Option Int) : (cutS z lo hi).cps.toList = (z.cps.toList.drop (HT.sIx z.length 0 lo)).take (HT.sIx z.length z.length hi - HT.sIx z.length 0 lo) := by
  unfold cutS
  simp
theorem cutS_drop (z : Str) (t : Nat) : (cutS z (some (t : Int)) none).cps.toList = z.cps.toList.drop t := by
  rw [cutS_cps, HT.sIx_nat, HT.sIx_none]
  have hz : z.length = z.cps.toList.length := rfl
  by_cases h : t ≤ z.length
  · rw [Nat.min_eq_left h, List.take_of_length_le (by simp [hz])]
  · rw [Nat.min_eq_right (by omega), List.drop_of_length_le (show z.cps.toList.length ≤ t by omega), Nat.sub_self, List.take_zero]
theorem cutS_take (z : Str) (t : Nat) : (cutS z none (some (t : Int))).cps.toList = z.cps.toList.take t := by
  rw [cutS_cps, HT.sIx_nat, HT.sIx_none]
  have hz : z.length = z.cps.toList.length := rfl
  by_cases h : t ≤ z.length
  · rw [Nat.min_eq_left h]; rfl
  · rw [Nat.min_eq_right (by omega), List.drop_zero, Nat.sub_zero, List.take_of_length_le (Nat.le_of_eq hz.symm), List.take_of_length_le (by omega)]
theorem intsD_map {α : Type} (g : α → Int) : ∀ xs : List α, intsD (xs.map fun c => D.int (g c)) = some (xs.map g)
  | [] => rfl
  | x :: xs => by rw [List.map_cons, intsD_cons, intsD_map g xs]; rfl
theorem nil_or_snoc {α : Type} (xs : List α) : xs = [] ∨ ∃ ys y, xs = ys ++ [y] := by
  rcases List.eq_nil_or_concat xs with h | ⟨ys, y, h⟩
  · exact .inl h
  · exact .inr ⟨ys, y, by rw [h, List.concat_eq_append]⟩
end Gm

/-! Gm12: instances of the module's own classes: fields, methods, makers. -/
namespace Gm
open PySem PySem.Spec PyProof.Rows L2

/-! ### fields -/
def putO (n : Str) (o : Ob) : List (Str × Ob) → List (Str × Ob)
  | [] => [(n, o)]
  | (g, x) :: r => if g = n then (g, o) :: r else (g, x) :: putO n o r
def insAt (C : Addr) (Γ : Env) (i : Nat) : Option (List (Str × Ob)) := match Γ[i]? with
  | some (some (.ins C' fs)) => if C' = C then some fs else none
  | _ => none
@[simp] def insO (C : Addr) : Option (Option Ob) → Option (List (Str × Ob))
  | some (some (.ins C' fs)) => if C' = C then some fs else none
  | _ => none
@[simp] theorem insAt_ap (C : Addr) (Γ : Env) (i : Nat) : insAt C Γ i = insO C Γ[i]? := by
  unfold insAt insO
  cases Γ[i]? with
  | none => rfl
  | some o => cases o with
    | none => rfl
    | some o => cases o <;> rfl
@[simp] def fldAt (C : Addr) (Γ : Env) (i : Nat) (n : Str) : Option Ob := (insAt C Γ i).bind fun fs => fs.lookup n
theorem insAt_some {C : Addr} {Γ : Env} {i : Nat} {fs : List (Str × Ob)} (h : insAt C Γ i = some fs) : Γ[i]? = some (some (.ins C fs)) := by
  unfold insAt at h
  split at h
  · split at h
    · rename_i e c
      cases h
      rw [e, c]
    · cases h
  · cases h
section
variable {K : Frag} {H H' : Hp}
theorem RepFs.look : ∀ {fs : List (Str × Ob)} {ws : List (Str × V)} {g : Fp} {n : Str} {o : Ob}, RepFs K H fs ws g → fs.lookup n = some o → ∃ v f, ws.lookup n = some v ∧ RepO K H o v f ∧ ∀ b, f b → g b
  | _, _, _, n, o, .nil _, e => by cases e
  | _, _, _, n, o, .cons (n := m) (o := o') (v := v) (fs := fs) (ws := ws) h hs d u, e => by
    simp only [List.lookup] at e ⊢
    cases q : n == m with
    | true =>
      rw [q] at e
      cases e
      exact ⟨v, _, rfl, h, fun b z => (u b).mpr (.inl z)⟩
    | false =>
      rw [q] at e
      obtain ⟨w, f', h1, h2, h3⟩ := RepFs.look hs e
      exact ⟨w, f', h1, h2, fun b z => (u b).mpr (.inr (h3 b z))⟩
theorem RepFs.put {n : Str} {o : Ob} {v : V} {f : Fp} (ho : RepO K H o v f) : ∀ {fs : List (Str × Ob)} {ws : List (Str × V)} {g : Fp}, RepFs K H fs ws g → (∀ b, f b → g b → False) → ∃ g', RepFs K H (putO n o fs) (putF n v ws) g' ∧ ∀ b, g' b → f b ∨ g b
  | _, _, g, .nil e, d => ⟨f, .cons ho (.nil (g := fun _ => False) fun _ z => z) (fun _ _ z => z) (fun b => ⟨.inl, fun z => z.elim id fun z => z.elim⟩), fun b z => .inl z⟩
  | _, _, g, .cons (n := m) (o := o') (v := w) (fs := fs) (ws := ws) h hs d' u, d => by
    by_cases q : m = n
    · simp only [putO, putF, if_pos q]
      exact ⟨fun b => f b ∨ _, .cons ho hs (fun b z1 z2 => d b z1 ((u b).mpr (.inr z2))) fun b => Iff.rfl, fun b z => z.imp id fun z => (u b).mpr (.inr z)⟩
    · obtain ⟨g', h1, h2⟩ := RepFs.put ho hs fun b z1 z2 => d b z1 ((u b).mpr (.inr z2))
      simp only [putO, putF, if_neg q]
      refine ⟨fun b => _ ∨ g' b, .cons h h1 (fun b z1 z2 => ?_) fun b => Iff.rfl, fun b z => ?_⟩
      · rcases h2 b z2 with z | z
        · exact d b z ((u b).mpr (.inl z1))
        · exact d' b z1 z
      · rcases z with z | z
        · exact .inr ((u b).mpr (.inl z))
        · exact (h2 b z).imp id fun z => (u b).mpr (.inr z)
theorem RepFs.length : ∀ {fs : List (Str × Ob)} {ws : List (Str × V)} {g : Fp}, RepFs K H fs ws g → fs.length = ws.length
  | _, _, _, .nil _ => rfl
  | _, _, _, .cons _ hs _ _ => congrArg (· + 1) (RepFs.length hs)
/-- what stands in a slot that holds an instance -/
theorem Rel.ins {σ : St} {Γ : Env} {fp : Nat → Fp} (R : Rel K H σ Γ fp) {C : Addr} {i : Nat} {fs : List (Str × Ob)} (e : Γ[i]? = some (some (.ins C fs))) :
    ∃ p dx ws g, σ[i]? = some (some (.ref p)) ∧ H p = some (.ins C dx ws) ∧ RepFs K H fs ws g ∧ ¬ g p ∧ ∀ b, fp i b ↔ b = p ∨ g b := by
  obtain ⟨v, h1, h2⟩ := R.rep i _ e
  cases h2 with
  | ins hp hs n u => exact ⟨_, _, _, _, h1, hp, hs, n, u⟩
end
/-- what a class's instances are asked -/
structure ClsF (K : Frag) (C : Addr) (n : Str) : Prop where
  cl : Cls K C
  no : NoAttr K C n
@[simp] def gFld (C : Addr) (i : Nat) (n : Str) (Γ : Env) : Res D Env := match fldAt C Γ i n with
  | some (.d x) => .ok x Γ
  | _ => .bad
/-- a list that a field holds, as a new list -/
@[simp] def gListF (C : Addr) (i : Nat) (n : Str) (Γ : Env) : Res Ob Env := match fldAt C Γ i n with
  | some (.lst xs) => .ok (.lst xs) Γ
  | _ => .bad
@[simp] def gLenF (C : Addr) (i : Nat) (n : Str) (Γ : Env) : Res D Env := match fldAt C Γ i n with
  | some (.lst xs) => .ok (.int xs.length) Γ
  | _ => .bad
@[simp] def setF2 (C : Addr) (i : Nat) (n : Str) (o : Ob) (Γ : Env) : Option (List (Str × Ob)) → Res Fl Env
  | some fs => if fs.length < 1000 then .ok .nx (Γ.set i (some (.ins C (putO n o fs)))) else .bad
  | none => .bad
def setF (C : Addr) (i : Nat) (n : Str) (o : Ob) (Γ : Env) : Res Fl Env := match insAt C Γ i with
  | some fs => if fs.length < 1000 then .ok .nx (Γ.set i (some (.ins C (putO n o fs)))) else .bad
  | none => .bad
@[simp] theorem setF_ap (C : Addr) (i : Nat) (n : Str) (o : Ob) (Γ : Env) : setF C i n o Γ = setF2 C i n o Γ (insAt C Γ i) := by
  unfold setF setF2
  cases insAt C Γ i <;> rfl
def gSetF (C : Addr) (i : Nat) (n : Str) (a : G Ob) (Γ : Env) : Res Fl Env := (a Γ).bind fun o Γ => setF C i n o Γ
@[simp] theorem gSetF_ap (C : Addr) (i : Nat) (n : Str) (a : G Ob) (Γ : Env) : gSetF C i n a Γ = (a Γ).bind (setF C i n) := rfl
@[simp] def augF2 (C : Addr) (i : Nat) (n : Str) (Γ : Env) : Option D → Res Fl Env
  | some z => setF C i n (.d z) Γ
  | none => .bad
def augF (C : Addr) (f : D → D → Option D) (i : Nat) (n : Str) (x y : D) (Γ : Env) : Res Fl Env := match f x y with
  | some z => setF C i n (.d z) Γ
  | none => .bad
@[simp] theorem augF_ap (C : Addr) (f : D → D → Option D) (i : Nat) (n : Str) (x y : D) (Γ : Env) : augF C f i n x y Γ = augF2 C i n Γ (f x y) := by
  unfold augF augF2
  cases f x y <;> rfl
def gAugF (C : Addr) (f : D → D → Option D) (i : Nat) (n : Str) (a : G D) (Γ : Env) : Res Fl Env := match fldAt C Γ i n with
  | some (.d x) => (a Γ).bind (augF C f i n x)
  | _ => .bad
@[simp] def kAugF (C : Addr) (f : D → D → Option D) (i : Nat) (n : Str) (a : G D) : Option Ob → Env → Res Fl Env
  | some (.d x), Γ => (a Γ).bind (augF C f i n x)
  | _, _ => .bad
@[simp] theorem gAugF_ap (C : Addr) (f : D → D → Option D) (i : Nat) (n : Str) (a : G D) (Γ : Env) : gAugF C f i n a Γ = kAugF C f i n a (fldAt C Γ i n) Γ := by
  unfold gAugF kAugF
  cases fldAt C Γ i n with
  | none => rfl
  | some o => cases o <;> rfl
/-- a field's list, lent with its instance -/
@[simp] def gLendF (C : Addr) (i : Nat) (n : Str) (Γ : Env) : Res Walked Env := match insAt C Γ i with
  | some fs => match fs.lookup n with
    | some (.lst xs) => .ok ⟨xs, some (i, .ins C fs)⟩ (Γ.set i none)
    | _ => .bad
  | none => .bad
section
variable {J : Jc} {m : List Bool} {C : Addr} {n : Str} {i : Nat}
theorem fld_of {Γ : Env} {o : Ob} (h : fldAt C Γ i n = some o) : ∃ fs, Γ[i]? = some (some (.ins C fs)) ∧ insAt C Γ i = some fs ∧ fs.lookup n = some o := by
  unfold fldAt at h
  rw [Option.bind_eq_some_iff] at h
  obtain ⟨fs, h1, h2⟩ := h
  exact ⟨fs, insAt_some h1, h1, h2⟩
theorem ed_fld (c : ClsF J.K C n) : ED J (tFld J.K (tVar i) n) (gFld C i n) := fun σ H Γ fp R Q hp => by
  unfold gFld at hp
  split at hp
  · rename_i x e
    obtain ⟨fs, e1, _, e2⟩ := fld_of e
    obtain ⟨p, dx, ws, g, h1, h2, h3, h4, h5⟩ := R.ins e1
    obtain ⟨v, f, k1, k2, k3⟩ := h3.look e2
    cases k2 with
    | d a q => exact ⟨_, h1, p, C, dx, ws, v, rfl, h2, c.cl, c.no, k1, hp v H fp R a (Step.refl _ _)⟩
  · exact hp.elim
/-- the list in a field, as it lies -/
theorem fld_list {σ : St} {H : Hp} {Γ : Env} {fp : Nat → Fp} (R : Rel J.K H σ Γ fp) {xs : List D} (e : fldAt C Γ i n = some (.lst xs)) :
    ∃ p dx ws q vs, σ[i]? = some (some (.ref p)) ∧ H p = some (.ins C dx ws) ∧ ws.lookup n = some (.ref q) ∧ H q = some (.lst vs) ∧ Ats J.K H vs xs ∧ fp i q := by
  obtain ⟨fs, e1, _, e2⟩ := fld_of e
  obtain ⟨p, dx, ws, g, h1, h2, h3, h4, h5⟩ := R.ins e1
  obtain ⟨v, f, k1, k2, k3⟩ := h3.look e2
  cases k2 with
  | lst a1 a2 a3 => exact ⟨p, dx, ws, _, _, h1, h2, k1, a1, a2, (h5 _).mpr (.inr (k3 _ ((a3 _).mpr rfl)))⟩
theorem eo_listF (c : ClsF J.K C n) : EO J (tCB (fun xs H Q => ∃ p ys, xs = [.ref p] ∧ (SqL J.K H p ys ∨ SqT J.K H p ys) ∧ ∀ l, H l = none → Q (.ref l) (upd H l (.lst ys))) (tCons (tFld J.K (tVar i) n) tNil)) (gListF C i n) := fun σ H Γ fp R Q hp => by
  unfold gListF at hp
  split at hp
  · rename_i xs e
    obtain ⟨p, dx, ws, q, vs, h1, h2, h3, h4, h5, _⟩ := fld_list R e
    refine ⟨_, h1, p, C, dx, ws, _, rfl, h2, c.cl, c.no, h3, q, vs, rfl, .inl (.inl (.inl h4)), fun l nl => ?_⟩
    obtain ⟨R4, r4, d4, t4⟩ := new_list R nl h5
    exact hp _ _ fp _ R4 r4 d4 t4
  · exact hp.elim
theorem ed_lenF (c : ClsF J.K C n) : ED J (tCB (fun xs H Q => ∃ x n, xs = [x] ∧ LenV J.K x H n ∧ Q (.int n) H) (tCons (tFld J.K (tVar i) n) tNil)) (gLenF C i n) := fun σ H Γ fp R Q hp => by
  unfold gLenF at hp
  split at hp
  · rename_i xs e
    obtain ⟨p, dx, ws, q, vs, h1, h2, h3, h4, h5, _⟩ := fld_list R e
    exact ⟨_, h1, p, C, dx, ws, _, rfl, h2, c.cl, c.no, h3, _, _, rfl, .inl ⟨_, .inl (.inl h4), rfl⟩, by rw [h5.length]; exact hp _ H fp R (.int _) (Step.refl _ _)⟩
  · exact hp.elim
/-- an instance's field is stored -/
theorem set_fld {σ : St} {H : Hp} {Γ : Env} {fp : Nat → Fp} (R : Rel J.K H σ Γ fp) {fs : List (Str × Ob)} (e : Γ[i]? = some (some (.ins C fs))) {o : Ob} {v : V} {f : Fp} (r : RepO J.K H o v f) (d : ∀ b, f b → U fp b → False) :
    ∃ p dx ws, σ[i]? = some (some (.ref p)) ∧ H p = some (.ins C dx ws) ∧ fs.length = ws.length ∧ ∃ fp', Rel J.K (upd H p (.ins C dx (putF n v ws))) σ (Γ.set i (some (.ins C (putO n o fs)))) fp' ∧ (∀ b, U fp' b → f b ∨ U fp b) ∧
      Step (fun b => f b ∨ U fp b) (U fp') H (upd H p (.ins C dx (putF n v ws))) := by
  obtain ⟨p, dx, ws, g, h1, h2, h3, h4, h5⟩ := R.ins e
  obtain ⟨v0, k1, k2, R2, k4, k5⟩ := R.take e
  rw [h1] at k1
  cases k1
  have pU : U fp p := ⟨i, (h5 p).mpr (.inl rfl)⟩
  have im : Im H (upd H p (.ins C dx (putF n v ws))) := ⟨fun b xs z => by rw [upd_ne (show b ≠ p from fun q => by rw [q, h2] at z; cases z)]; exact z, fun b x y z => by rw [upd_ne (show b ≠ p from fun q => by rw [q, h2] at z; cases z)]; exact z, fun b y z => by rw [upd_ne (show b ≠ p from fun q => by rw [q, h2] at z; cases z)]; exact z, fun b y z => by rw [upd_ne (show b ≠ p from fun q => by rw [q, h2] at z; cases z)]; exact z⟩
  have R3 : Rel J.K (upd H p (.ins C dx (putF n v ws))) σ (Γ.set i none) (fun j b => j ≠ i ∧ fp j b) := R2.frame im fun b u hb z => by
    rw [upd_ne (show b ≠ p from fun q => k4 p ((h5 p).mpr (.inl rfl)) (q ▸ hb))]
    exact z
  have r3 : RepO J.K (upd H p (.ins C dx (putF n v ws))) o v f := r.frame im fun b u hb z => by
    rw [upd_ne (show b ≠ p from fun q => d p (q ▸ hb) pU)]
    exact z
  have h3' : RepFs J.K (upd H p (.ins C dx (putF n v ws))) fs ws g := h3.frame im fun b u hb z => by
    rw [upd_ne (show b ≠ p from fun q => h4 (q ▸ hb))]
    exact z
  obtain ⟨g', q1, q2⟩ := h3'.put r3 (n := n) fun b z1 z2 => d b z1 ⟨i, (h5 b).mpr (.inr z2)⟩
  have np : ¬ g' p := fun z => (q2 p z).elim (fun z => d p z pU) h4
  have ri : RepO J.K (upd H p (.ins C dx (putF n v ws))) (.ins C (putO n o fs)) (.ref p) (fun b => b = p ∨ g' b) := .ins upd_same q1 np fun b => Iff.rfl
  obtain ⟨R4, u4⟩ := R3.put (σ' := σ) (i := i) rfl h1 (fun _ _ => rfl) ri (fun b z1 z2 => by
    rcases z1 with z1 | z1
    · exact k4 b ((h5 b).mpr (.inl z1)) z2
    · rcases q2 b z1 with z | z
      · obtain ⟨j, _, z2⟩ := z2; exact d b z ⟨j, z2⟩
      · exact k4 b ((h5 b).mpr (.inr z)) z2)
  rw [List.set_set] at R4
  have sub : ∀ b, U (fun j b => (j = i ∧ (b = p ∨ g' b)) ∨ (j ≠ i ∧ (j ≠ i ∧ fp j b))) b → f b ∨ U fp b := fun b z => by
    rcases u4 b z with z | ⟨j, _, z⟩
    · rcases z with rfl | z
      · exact .inr pU
      · exact (q2 b z).imp id fun z => ⟨i, (h5 b).mpr (.inr z)⟩
    · exact .inr ⟨j, z⟩
  exact ⟨p, dx, ws, h1, h2, h3.length, _, R4, sub, ⟨im, fun b u z nb => by rw [upd_ne (show b ≠ p from fun q => nb (.inr (q ▸ pU)))]; exact z, fun b z => .inl (sub b z)⟩⟩
theorem ss_setF (c : ClsF J.K C n) {te : TE} {go : G Ob} (ho : EO J te go) : SS J m (sFld J.K (tVar i) te n) (gSetF C i n go) := fun σ H Γ fp R D hp =>
  ho σ H Γ fp R _ ((Post.bind hp).imp (fun o Γ1 q v H1 fp1 f R1 r d s1 => by
    unfold setF at q
    cases e : insAt C Γ1 i with
    | none => simp only [e] at q; exact q.elim
    | some fs =>
      simp only [e] at q
      split at q
      · rename_i hl
        obtain ⟨p, dx, ws, h1, h2, h3, fp2, R2, u2, s2⟩ := set_fld (n := n) R1 (insAt_some e) r d
        exact ⟨_, h1, p, C, dx, ws, rfl, h2, c.cl, c.no, by rw [← h3]; exact hl, q σ _ fp2 R2 (Kp.refl _ _) (s1.trans s2)⟩
      · exact q.elim) fun _ _ z => z.e)
theorem ss_augF (c : ClsF J.K C n) {te : TE} {gd : G D} {rd : V → V → Hp → VK → Prop} {f : D → D → Option D} (hf : OpD J.K rd f) (hd : ED J te gd) : SS J m (sFldAug J.K (tVar i) te rd n) (gAugF C f i n gd) := fun σ H Γ fp R D hp => by
  unfold gAugF at hp
  split at hp
  · rename_i x e
    obtain ⟨fs, e1, _, e2⟩ := fld_of e
    obtain ⟨p, dx, ws, g, h1, h2, h3, h4, h5⟩ := R.ins e1
    obtain ⟨v, f', k1, k2, k3⟩ := h3.look e2
    cases k2 with
    | d a q0 =>
      refine ⟨_, h1, p, C, dx, ws, v, rfl, h2, c.cl, c.no, k1, hd σ H Γ fp R _ ((Post.bind hp).imp (fun y Γ1 q w H1 fp1 R1 b1 s1 => ?_) fun _ _ z => z.e)⟩
      unfold augF at q
      cases e3 : f x y with
      | none => simp only [e3] at q; exact q.elim
      | some z =>
        simp only [e3] at q
        refine hf H1 v w x y z _ (a.mono s1.im) b1 e3 fun u H2 ex az => ?_
        unfold setF at q
        cases e4 : insAt C Γ1 i with
        | none => simp only [e4] at q; exact q.elim
        | some fs' =>
          simp only [e4] at q
          split at q
          · rename_i hl
            have R2 := R1.ext ex
            obtain ⟨p', dx', ws', j1, j2, j3, fp3, R3, u3, s3⟩ := set_fld (n := n) R2 (insAt_some e4) (.d (f := fun _ => False) az fun _ z => z) (fun _ z => z.elim)
            rw [h1] at j1
            cases j1
            exact ⟨dx', ws', j2, by rw [← j3]; exact hl, q σ _ fp3 R3 (Kp.refl _ _) ((s1.trans (Step.ofExt ex)).trans ⟨s3.im, fun b o e n => s3.keep b o e fun z => z.elim (fun z => z) n, fun b z => (s3.fresh b z).imp (fun z => z.elim (fun z => z.elim) id) id⟩)⟩
          · exact q.elim
  · exact hp.elim
theorem eib_lendF (c : ClsF J.K C n) (hm : m[i]? = some true) : EIB J m (iSeq J.K (tFld J.K (tVar i) n)) (gLendF C i n) := fun σ H Γ fp R K hp => by
  unfold gLendF at hp
  cases e : insAt C Γ i with
  | none => simp only [e] at hp; exact hp.elim
  | some fs =>
    simp only [e] at hp
    cases e2 : fs.lookup n with
    | none => simp only [e2] at hp; exact hp.elim
    | some o =>
      simp only [e2] at hp
      cases o with
      | lst xs =>
        have e1 := insAt_some e
        obtain ⟨p, dx, ws, q, vs, h1, h2, h3, h4, h5, h6⟩ := fld_list (C := C) (n := n) R (xs := xs) (by unfold fldAt; rw [e]; exact e2)
        obtain ⟨v0, k1, k2, R2, k4, k5⟩ := R.take e1
        have own := k2.own
        refine ⟨_, h1, p, C, dx, ws, _, rfl, h2, c.cl, c.no, h3, .inl ⟨q, rfl, ⟨vs, .inl (.inl h4)⟩, hp _ H _ (fp i) R2 (itr_list (fun H' r => .inl (.inl (r.2 _ _ h6 h4))) h5) own k4 ((Step.refl _ _).sub fun b z => (k5 b).mpr z) fun H'' σ'' Γ'' fp'' fr R3 k d => ?_⟩⟩
        have r3 := k2.frame fr.1 fr.2
        obtain ⟨R4, u4⟩ := R3.put (σ' := σ'') (i := i) rfl ((k i hm).trans k1) (fun _ _ => rfl) r3 d
        exact ⟨_, R4, u4⟩
      | _ => exact hp.elim
end

/-! ### methods -/
theorem RepFs.lookNone {K : Frag} {H : Hp} {n : Str} : ∀ {fs : List (Str × Ob)} {ws : List (Str × V)} {g : Fp}, RepFs K H fs ws g → fs.lookup n = none → ws.lookup n = none
  | _, _, _, .nil _, _ => rfl
  | _, _, _, .cons (n := m) (fs := fs) (ws := ws) h hs d u, e => by
    simp only [List.lookup] at e ⊢
    cases q : n == m with
    | true => rw [q] at e; cases e
    | false =>
      rw [q] at e
      exact RepFs.lookNone hs e
def gMeth (C : Addr) (i : Nat) (n : Str) (mf : Mf) (ga : G (List Arg)) (Γ : Env) : Res Ob Env := match insAt C Γ i with
  | some fs => match fs.lookup n with
    | none => gCall mf (gcCons (gcS i) ga) Γ
    | some _ => .bad
  | none => .bad
def kMeth (i : Nat) (n : Str) (mf : Mf) (ga : G (List Arg)) : Option (List (Str × Ob)) → Env → Res Ob Env
  | some fs, Γ => if (fs.lookup n).isNone then (ga Γ).bind fun as Γ => kCall mf (.slot i :: as) Γ else .bad
  | none, _ => .bad
@[simp] def kMeth2 (i : Nat) (mf : Mf) (as : List Arg) (Γ : Env) : Res Ob Env := kCall mf (.slot i :: as) Γ
@[simp] theorem gMeth_ap (C : Addr) (i : Nat) (n : Str) (mf : Mf) (ga : G (List Arg)) (Γ : Env) : gMeth C i n mf ga Γ = match insAt C Γ i with
    | some fs => if (fs.lookup n).isNone then (ga Γ).bind (kMeth2 i mf) else .bad
    | none => .bad := by
  unfold gMeth
  cases e : insAt C Γ i with
  | none => rfl
  | some fs =>
    dsimp only
    cases q : fs.lookup n with
    | none =>
      have hs : Γ[i]? = some (some (.ins C fs)) := insAt_some e
      simp only [Option.isNone_none, if_true]
      rw [gCall_ap, gcCons_ap]
      simp only [gcS, hs, bind_ok]
      rw [kcCons]
      cases ga Γ <;> rfl
    | some o => rfl
def tMethS (C : Addr) (m : Str) (sp : Sp) (E : St → XK) (ta : TE) (t : TA) : TE := fun σ H Q => ta σ H fun x H1 => ∃ a dx fs, x = .ref a ∧ H1 a = some (.ins C dx fs) ∧ fs.lookup m = none ∧ t σ H1 fun vs H2 => sp (x :: vs) H2 Q (E σ)
section
variable {X : Cx} {CX : CXT} {k : Nat} {f C : Addr} {fd : FuncData} {ps : List Str} {sp : Sp} {E : St → XK} {x m : Str} {p pos apos : Pos} {e o : Expr} {es : List Expr} {ta : TE} {t : TA}
theorem pe_methS {pl : Sem Bool} (he : PE X o ta) (c : Cls X.K C) (hm : Meth X.K C m f) (F : FnOk X.prog X.w X.K X.mg X.base CX k f fd ps sp) (hr : Room k X.A) (hb : Binds X.K fd ps []) (hx : ∀ σ, PassesAt CX X σ (E σ)) (ha : PA X (e :: es) t)
    (hst : starEach (e :: es) X.env = (false, eval e X.env) :: starEach es X.env := by rfl) (hpl : (backTo pos (starEach es X.env)).any (·.1) = false := by rfl)
    (ht : eval (.Call (.Attribute o m apos) (e :: es) [] pos) X.env = (do
      let ov ← eval o X.env; standAt apos.atName
      let (f, first) ← holding [ov] (getMethod ov m pl); callWith pos f first (backTo pos (starEach (e :: es) X.env)) (backToKw pos (keywordEach [] X.env))) := by rfl) :
    PE X (.Call (.Attribute o m apos) (e :: es) [] pos) (tMethS C m sp E ta t) := by
  refine ⟨fun pins s σ H Q I h => PySem.W.methodCall_KW (pl := pl) (thn (he.run pins s σ H _ I h) fun u s1 ⟨x, H1, I1, rx, a, dx, fs, ex, ea, l, q⟩ => ?_) ht⟩
  subst ex
  obtain rfl : u = Value.ref a := rx
  refine getmeth_ok I1 ea c hm l (PySem.W.callWith_K (first := [.ref a]) (h₀ := X.base) I.ok.mod.kin hm.kp (thn (ha.run pos pins s1 σ H1 _ I1 q) fun us s2 ⟨vs, H2, I2, r, q2⟩ => ⟨I2.kIn, ?_⟩) hst hpl)
  exact run_fnS (us := .ref a :: us) (vs := .ref a :: vs) F hr hb (hx σ) I2 (.cons rfl r) q2
theorem pe_methS0 {pl : Sem Bool} (he : PE X o ta) (c : Cls X.K C) (hm : Meth X.K C m f) (F : FnOk X.prog X.w X.K X.mg X.base CX k f fd ps sp) (hr : Room k X.A) (hb : Binds X.K fd ps []) (hx : ∀ σ, PassesAt CX X σ (E σ))
    (ht : eval (.Call (.Attribute o m apos) [] [] pos) X.env = (do
      let ov ← eval o X.env; standAt apos.atName
      let (f, first) ← holding [ov] (getMethod ov m pl); callWith pos f first (backTo pos (starEach [] X.env)) (backToKw pos (keywordEach [] X.env))) := by rfl) :
    PE X (.Call (.Attribute o m apos) [] [] pos) (tMethS C m sp E ta tNil) := by
  refine ⟨fun pins s σ H Q I h => PySem.W.methodCall_KW (pl := pl) (thn (he.run pins s σ H _ I h) fun u s1 ⟨x, H1, I1, rx, a, dx, fs, ex, ea, l, q⟩ => ?_) ht⟩
  subst ex
  obtain rfl : u = Value.ref a := rx
  exact getmeth_ok I1 ea c hm l (PySem.W.callWith_K0 (first := [.ref a]) I1.kIn hm.kp (run_fnS (us := [.ref a]) (vs := [.ref a]) F hr hb (hx σ) I1 (.cons rfl .nil) q))
def tMakeS (C : Addr) (sp : Sp) (E : St → XK) (t : TA) : TE := fun σ H Q => t σ H fun vs H1 => ∀ x dx, H1 x = none → H1 dx = none → dx ≠ x →
  sp (.ref x :: vs) (upd (upd H1 dx (.own x)) x (.ins C dx [])) (fun v H2 => v = .non ∧ Q (.ref x) H2) (E σ)
theorem run_makeS {pins : List (Addr × Obj)} {σ : St} {H : Hp} {s : Shared} {Q : VK} {us : List Value} {vs : List V} (M : Mk X.K C f) (F : FnOk X.prog X.w X.K X.mg X.base CX k f fd ps sp) (hr : Room (k + 1) X.A) (hb : Binds X.K fd ps [])
    (hx : PassesAt CX X σ (E σ)) (I : Inv X pins σ H s) (r : Vals vs us)
    (h : ∀ x dx, H x = none → H dx = none → dx ≠ x → sp (.ref x :: vs) (upd (upd H dx (.own x)) x (.ins C dx [])) (fun v H2 => v = .non ∧ Q (.ref x) H2) (E σ)) :
    wpAny (model X.prog X.w) X.A (call (.ref C) us) (EP X pins σ Q) X.xe s := by
  have hq := h (s.heap.objs.size + 1) s.heap.objs.size (I.hok.fresh (Nat.le_succ _)) (I.hok.fresh (Nat.le_refl _)) (Nat.ne_of_lt (Nat.lt_succ_self _))
  have J2 := Inv.made (C := C) I
  have r2 : Vals (V.ref (s.heap.objs.size + 1) :: vs) (Value.ref (s.heap.objs.size + 1) :: us) := .cons rfl r
  have hl : (Value.ref (s.heap.objs.size + 1) :: us).length = ps.length := by
    rw [← r2.length]
    exact F.len _ _ _ _ hq
  have bd := hb _ (Value.ref (s.heap.objs.size + 1) :: us) J2.kIn (by rw [List.append_nil]; exact hl)
  rw [List.append_nil] at bd
  refine wpAny_call (make_map (f := f) I.kIn M.makes M.init (beq_iff_eq.mp M.fn) (codeAny_mono (F.run _ X.stack _ _ ⟨Value.ref (s.heap.objs.size + 1) :: us, []⟩ (Value.ref (s.heap.objs.size + 1) :: us) _ _ (E σ) (hr.make C us []) (J2.env0.make C us []) bd r2 hq) fun r s' hq' => ?_))
  cases r with
  | error e => exact hx pins _ _ e s' J2 hq'
  | ok fl =>
    cases fl with
    | ret u =>
      obtain ⟨v, H', J3, rv, ev, q3⟩ := J2.after hq'
      subst ev
      exact ⟨rv, ⟨V.ref (s.heap.objs.size + 1), H', J3, rfl, q3⟩⟩
    | next => exact False.elim hq'
    | brk => exact False.elim hq'
    | cont => exact False.elim hq'
theorem pe_makeS (M : Mk X.K C f) (F : FnOk X.prog X.w X.K X.mg X.base CX k f fd ps sp) (hr : Room (k + 1) X.A) (hg : Gl X x) (hm : X.mg x = some (.ref C)) (hb : Binds X.K fd ps []) (hx : ∀ σ, PassesAt CX X σ (E σ))
    (ha : PA X (e :: es) t) (hdb : (x == ("__debug__" : Str)) = false := by decide) (he : starEach (e :: es) X.env = (false, eval e X.env) :: starEach es X.env := by rfl) (hpl : (backTo pos (starEach es X.env)).any (·.1) = false := by rfl) :
    PE X (.Call (.Name x p) (e :: es) [] pos) (tMakeS C sp E t) :=
  ⟨fun pins s σ H Q I h => wpAny_Call_Name_kw (ld_glob I hg hm (PySem.W.callWith_K (h₀ := X.base) I.ok.mod.kin M.kp (thn (ha.run pos pins s σ H _ I h) fun us s1 ⟨vs, H1, I1, r, q⟩ => ⟨I1.kIn, run_makeS M F hr hb (hx σ) I1 r q⟩) he hpl) hdb)⟩
theorem pe_makeS0 (M : Mk X.K C f) (F : FnOk X.prog X.w X.K X.mg X.base CX k f fd ps sp) (hr : Room (k + 1) X.A) (hg : Gl X x) (hm : X.mg x = some (.ref C)) (hb : Binds X.K fd ps []) (hx : ∀ σ, PassesAt CX X σ (E σ))
    (hdb : (x == ("__debug__" : Str)) = false := by decide) : PE X (.Call (.Name x p) [] [] pos) (tMakeS C sp E tNil) :=
  ⟨fun pins s σ H Q I h => wpAny_Call_Name_kw (ld_glob I hg hm (PySem.W.callWith_K0 I.kIn M.kp (run_makeS (us := []) M F hr hb (hx σ) I .nil h)) hdb)⟩
end
section
variable {J : Jc} {C : Addr} {n : Str} {i : Nat} {ta : TA} {ga : G (List Arg)}
theorem eo_meth {mf : Mf} (ha : EC J (tCons (tVar i) ta) (gcCons (gcS i) ga)) : EO J (tMethS C n (SpM J.K J.mg mf) (WE J.W) (tVar i) ta) (gMeth C i n mf ga) := fun σ H Γ fp R Q hp => by
  unfold gMeth at hp
  cases e : insAt C Γ i with
  | none => simp only [e] at hp; exact hp.elim
  | some fs =>
    simp only [e] at hp
    cases e2 : fs.lookup n with
    | some o => simp only [e2] at hp; exact hp.elim
    | none =>
      simp only [e2] at hp
      obtain ⟨p, dx, ws, g, h1, h2, h3, h4, h5⟩ := R.ins (insAt_some e)
      have q := eo_call ha σ H Γ fp R Q hp
      obtain ⟨v, k1, k2⟩ := q
      rw [h1] at k1
      cases k1
      exact ⟨_, h1, p, dx, ws, rfl, h2, h3.lookNone e2, k2⟩
/-- a new instance by its class's __init__ -/
@[simp] def makeK3 (as : List Arg) (Γ : Env) : Res Ob (List Ob) → Res Ob Env
  | .ok (.d .non) (o :: os) => .ok o (putA as os Γ)
  | .ex x (_ :: os) => .ex x (putA as os Γ)
  | _ => .bad
@[simp] def makeK2 (C : Addr) (mf : Mf) (as : List Arg) : Option (List Ob × Env) → Res Ob Env
  | none => .bad
  | some p => makeK3 as p.2 (mf (.ins C [] :: p.1))
@[simp] def makeK (C : Addr) (mf : Mf) (as : List Arg) (Γ : Env) : Res Ob Env := makeK2 C mf as (takeA as Γ)
def gMake (C : Addr) (mf : Mf) (ga : G (List Arg)) (Γ : Env) : Res Ob Env := (ga Γ).bind (makeK C mf)
@[simp] theorem gMake_ap (C : Addr) (mf : Mf) (ga : G (List Arg)) (Γ : Env) : gMake C mf ga Γ = (ga Γ).bind (makeK C mf) := rfl
theorem eo_make {mf : Mf} (ha : EC J ta ga) : EO J (tMakeS C (SpM J.K J.mg mf) (WE J.W) ta) (gMake C mf ga) := fun σ H Γ fp R Q hp =>
  ha σ H Γ fp R _ ((Post.bind hp).imp (fun as Γ1 q vs H1 fp1 f R1 a1 d1 s1 => by
    unfold makeK at q
    cases e : takeA as Γ1 with
    | none => rw [e] at q; exact q.elim
    | some p =>
      obtain ⟨os, Γ2⟩ := p
      rw [e] at q
      simp only [makeK2] at q
      obtain ⟨fs, fp2, r2, R2, d2, u2, k2⟩ := take_ok R1 a1 d1 e
      have s2 : Step (U fp) (fun b => U fp2 b ∨ U fs b) H H1 := s1.sub fun b z => (u2 b).mp z.symm
      intro x dx nx ndx nex
      have ex : Ext H1 (upd (upd H1 dx (.own x)) x (.ins C dx [])) := fun b u z => by
        rw [upd_ne (ne_of_none z nx), upd_ne (ne_of_none z ndx)]
        exact z
      have nU : ¬ U fs x := fun z => (r2.own x z).ne_none nx
      have nU2 : ¬ U fp2 x := fun z => (R2.own x z).ne_none nx
      have ri : RepO J.K (upd (upd H1 dx (.own x)) x (.ins C dx [])) (.ins C []) (.ref x) (fun b => b = x) := .ins upd_same (.nil (g := fun _ => False) fun _ z => z) (fun z => z) fun b => ⟨.inl, fun z => z.elim id fun z => z.elim⟩
      have r3 := Reps.cons ri (r2.ext ex) fun b z1 z2 => nU (z1 ▸ z2)
      refine ⟨.ins C [] :: os, _, r3, ?_⟩
      have uc : ∀ b, U (fun i => match i with | 0 => fun b => b = x | i + 1 => fs i) b ↔ b = x ∨ U fs b := fun b => Reps.cons_U
      have sx : Step (U fs) (fun b => b = x ∨ U fs b) H1 (upd (upd H1 dx (.own x)) x (.ins C dx [])) := ⟨ex.im, fun b u z _ => ex b u z, fun b z => z.elim (fun z => .inr (z ▸ nx)) .inl⟩
      have R2x := R2.ext ex
      -- behind __init__
      have back : ∀ {H' : Hp} {fs' : Nat → Fp}, Step (fun b => b = x ∨ U fs b) (U fs') (upd (upd H1 dx (.own x)) x (.ins C dx [])) H' → Rel J.K H' σ Γ2 fp2 ∧ (∀ b, U fs' b → U fp2 b → False) ∧ Step (U fp) (fun b => U fp2 b ∨ U fs' b) H H' := fun {H' fs'} s3 => by
        have d2x : ∀ b, (b = x ∨ U fs b) → U fp2 b → False := fun b z1 z2 => z1.elim (fun z => nU2 (z ▸ z2)) fun z => d2 b z z2
        refine ⟨R2x.frame s3.im fun b u z e => s3.keep b u e fun z2 => d2x b z2 z, fun b z1 z2 => ?_, s2.trans (sx.trans s3).wide⟩
        rcases s3.fresh b z1 with z | z
        · exact d2x b z z2
        · exact (R2x.own b z2).ne_none z
      cases em : mf (.ins C [] :: os) with
      | bad => rw [em] at q; exact q.elim
      | ok r os' =>
        rw [em] at q
        intro v H' fs' f' r4 rv d3 s3
        have s3' : Step (fun b => b = x ∨ U fs b) (U fs') (upd (upd H1 dx (.own x)) x (.ins C dx [])) H' := ⟨s3.im, fun b o z n => s3.keep b o z fun y => n ((uc b).mp y), fun b z => (s3.fresh b (.inr z)).imp (fun y => (uc b).mp y) id⟩
        cases r with
        | d y => cases y with
          | non => cases os' with
            | nil => exact q.elim
            | cons o os' =>
              simp only [makeK3] at q
              obtain ⟨t1, t2, t3, t4⟩ := r4.uncons
              cases rv with
              | d av _ =>
                cases av
                refine ⟨rfl, ?_⟩
                obtain ⟨R3, d4, s4⟩ := back s3'
                obtain ⟨fp4, R4, u4⟩ := put_ok R3 a1 t2 (fun b z => d4 b ((t4 b).mpr (.inr z))) fun i p vs m h1 h2 => s3'.keep p _ (ex p _ h2) fun z => z.elim (fun z => nU2 (z ▸ k2 i p m h1)) fun z => d2 p z (k2 i p m h1)
                refine q (.ref x) H' fp4 _ R4 t1 (fun b z1 z2 => ?_) (s4.sub fun b z => ?_)
                · rcases u4 b z2 with z | z
                  · exact t3 b z1 z
                  · exact d4 b ((t4 b).mpr (.inl z1)) z
                · rcases z with z | z
                  · exact .inr ((t4 b).mpr (.inl z))
                  · rcases u4 b z with y | y
                    · exact .inr ((t4 b).mpr (.inr y))
                    · exact .inl y
          | _ => exact q.elim
        | _ => exact q.elim
      | ex y os' =>
        rw [em] at q
        cases os' with
        | nil => exact q.elim
        | cons o os' =>
          simp only [makeK3] at q
          intro cls d H' fs' r4 exr s3
          have s3' : Step (fun b => b = x ∨ U fs b) (U fs') (upd (upd H1 dx (.own x)) x (.ins C dx [])) H' := ⟨s3.im, fun b o z n => s3.keep b o z fun y => n ((uc b).mp y), fun b z => (s3.fresh b z).imp (fun y => (uc b).mp y) id⟩
          obtain ⟨t1, t2, t3, t4⟩ := r4.uncons
          obtain ⟨R3, d4, s4⟩ := back s3'
          obtain ⟨fp4, R4, u4⟩ := put_ok R3 a1 t2 (fun b z => d4 b ((t4 b).mpr (.inr z))) fun i p vs m h1 h2 => s3'.keep p _ (ex p _ h2) fun z => z.elim (fun z => nU2 (z ▸ k2 i p m h1)) fun z => d2 p z (k2 i p m h1)
          refine q cls d H' fp4 R4 exr (s4.sub fun b z => ?_)
          rcases u4 b z with y | y
          · exact .inr ((t4 b).mpr (.inr y))
          · exact .inl y) fun _ _ z => z)
end

/-! ### len(o) by the class's own __len__ -/
def tLenO (C : Addr) (sp : Sp) (E : St → XK) (ta : TE) : TE := fun σ H Q => ta σ H fun x H1 => ∃ a dx fs, x = .ref a ∧ H1 a = some (.ins C dx fs) ∧ sp [x] H1 (fun v H2 => ∃ n : Int, v = .int n ∧ 0 ≤ n ∧ n < 2 ^ 63 ∧ Q (.int n) H2) (E σ)
theorem pe_lenO {X : Cx} {CX : CXT} {k : Nat} {f C : Addr} {fd : FuncData} {ps : List Str} {sp : Sp} {E : St → XK} {p pos : Pos} {o : Expr} {ta : TE} (he : PE X o ta) (hm : Meth X.K C "__len__" f) (F : FnOk X.prog X.w X.K X.mg X.base CX k f fd ps sp) (hr : Room (k + 1) X.A)
    (hb : Binds X.K fd ps []) (hx : ∀ σ, PassesAt CX X σ (E σ)) (hg : Gl X "len") (hn : X.mg "len" = none) (hs : starEach [o] X.env = [(false, eval o X.env)] := by rfl) : PE X (.Call (.Name "len" p) [o] [] pos) (tLenO C sp E ta) := by
  refine ⟨fun pins s σ H Q I h => Call_ (ld_blt I hg hn boot_len (PyProof.Rows.callWith_builtin1 (thn ((pa_cons he pa_nil hs).run pos pins s σ H (fun vs H1 => ∃ a dx fs, vs = [.ref a] ∧ H1 a = some (.ins C dx fs) ∧ sp [.ref a] H1 (fun v H2 => ∃ n : Int, v = .int n ∧ 0 ≤ n ∧ n < 2 ^ 63 ∧ Q (.int n) H2) (E σ)) I ?_) fun us s1 ⟨vs, H1, I1, r1, q1⟩ => ?_) hs rfl))⟩
  · have e : ta σ H fun x H1 => ∃ a dx fs, x = .ref a ∧ H1 a = some (.ins C dx fs) ∧ sp [x] H1 (fun v H2 => ∃ n : Int, v = .int n ∧ 0 ≤ n ∧ n < 2 ^ 63 ∧ Q (.int n) H2) (E σ) := h
    have ev : (fun x H1 => ∃ a dx fs, x = V.ref a ∧ H1 a = some (.ins C dx fs) ∧ sp [x] H1 (fun v H2 => ∃ n : Int, v = .int n ∧ 0 ≤ n ∧ n < 2 ^ 63 ∧ Q (.int n) H2) (E σ)) = fun x H1 => ∃ a dx fs, [x] = [V.ref a] ∧ H1 a = some (.ins C dx fs) ∧ sp [.ref a] H1 (fun v H2 => ∃ n : Int, v = .int n ∧ 0 ≤ n ∧ n < 2 ^ 63 ∧ Q (.int n) H2) (E σ) := by
      funext x H1
      apply propext
      constructor
      · rintro ⟨a, dx, fs, rfl, h1, h2⟩; exact ⟨a, dx, fs, rfl, h1, h2⟩
      · rintro ⟨a, dx, fs, h0, h1, h2⟩; cases h0; exact ⟨a, dx, fs, rfl, h1, h2⟩
    rw [ev] at e
    exact e
  · obtain ⟨a, dx, fs, rfl, ha, hq⟩ := q1
    cases r1 with
    | cons r rr =>
      cases rr
      cases r
      obtain ⟨mA, J, _⟩ := ins_get I1.hok ha
      obtain ⟨od, J, _⟩ := J.look
      obtain ⟨m, hF⟩ := I1.fr
      refine PySem.W.len_K hF I1.ok.mod.kin J hm.at_ hm.fn ?_
      have hl := F.len _ _ _ _ hq
      have bd := hb s1 [.ref a] I1.kIn (by simpa using hl)
      rw [List.append_nil] at bd
      refine wpAny_call (codeAny_mono (F.run X.A.in1 X.stack s1 H1 ⟨[.ref a], []⟩ [.ref a] [.ref a] _ (E σ) hr.in1 I1.env0.in1 bd (.cons rfl .nil) hq) fun r s' hq' => ?_)
      cases r with
      | error e => exact hx σ pins H1 s1 e s' I1 hq'
      | ok fl =>
        cases fl with
        | ret u =>
          obtain ⟨v, H', J3, rv, n, ev, n0, n1, q3⟩ := I1.after hq'
          subst ev
          obtain ⟨tk, rfl⟩ := rv
          exact ⟨⟨n0, n1⟩, .int n, H', J3.tok _, ⟨_, rfl⟩, q3⟩
        | next => exact False.elim hq'
        | brk => exact False.elim hq'
        | cont => exact False.elim hq'
@[simp] def lenK2 : Ob → Env → Res D Env
  | .d (.int n), Γ => if 0 ≤ n ∧ n < 100000000 then .ok (.int n) Γ else .bad
  | _, _ => .bad
def gLenO (C : Addr) (i : Nat) (mf : Mf) (Γ : Env) : Res D Env := match insAt C Γ i with
  | some _ => (gCall mf (gcCons (gcS i) gcNil) Γ).bind lenK2
  | none => .bad
@[simp] theorem gLenO_ap (C : Addr) (i : Nat) (mf : Mf) (Γ : Env) : gLenO C i mf Γ = match insAt C Γ i with
  | some _ => (gCall mf (gcCons (gcS i) gcNil) Γ).bind lenK2
  | none => .bad := rfl
theorem ed_lenO {J : Jc} {C : Addr} {i : Nat} {mf : Mf} (ha : EC J (tCons (tVar i) tNil) (gcCons (gcS i) gcNil)) : ED J (tLenO C (SpM J.K J.mg mf) (WE J.W) (tVar i)) (gLenO C i mf) := fun σ H Γ fp R Q hp => by
  unfold gLenO at hp
  cases e : insAt C Γ i with
  | none => simp only [e] at hp; exact hp.elim
  | some fs =>
    simp only [e] at hp
    obtain ⟨p, dx, ws, g, h1, h2, h3, h4, h5⟩ := R.ins (insAt_some e)
    have q := eo_call ha σ H Γ fp R (fun v H2 => ∃ n : Int, v = .int n ∧ 0 ≤ n ∧ n < 2 ^ 63 ∧ Q (.int n) H2) ((Post.bind hp).imp (fun o Γ1 q v H' fp' f R' r d s => by
      cases o with
      | d x => cases x with
        | int n =>
          simp only [lenK2] at q
          split at q
          · rename_i c
            cases r with
            | d a _ =>
              cases a
              exact ⟨n, rfl, c.1, by omega, q _ H' fp' R' (.int n) (s.sub fun _ => .inr)⟩
          · exact q.elim
        | _ => exact q.elim
      | _ => exact q.elim) fun _ _ z => z)
    obtain ⟨v, k1, k2⟩ := q
    rw [h1] at k1
    cases k1
    exact ⟨_, h1, p, dx, ws, rfl, h2, k2⟩
/-! ### the pure ones: they change nothing -/
section
variable (J : Jc)
structure PD (te : TE) (g : G D) : Prop where
  pu : ∀ Γ x Γ', g Γ = .ok x Γ' → Γ' = Γ
  rd : ∀ σ H Γ fp, Rel J.K H σ Γ fp → ∀ x, g Γ = .ok x Γ → ∀ Q : VK, (∀ v H', Ext H H' → At J.K H' v x → Q v H') → te σ H Q
structure PAs (ta : TA) (g : G (List D)) : Prop where
  pu : ∀ Γ x Γ', g Γ = .ok x Γ' → Γ' = Γ
  rd : ∀ σ H Γ fp, Rel J.K H σ Γ fp → ∀ x, g Γ = .ok x Γ → ∀ Q : List V → Hp → Prop, (∀ v H', Ext H H' → Ats J.K H' v x → Q v H') → ta σ H Q
end
theorem bind_inv {α β S : Type} {r : Res α S} {f : α → S → Res β S} {y : β} {s' : S} (h : r.bind f = .ok y s') : ∃ x s, r = .ok x s ∧ f x s = .ok y s' := by
  cases r with
  | ok a s => exact ⟨a, s, rfl, h⟩
  | ex x s => cases h
  | bad => cases h
theorem ofOpt_inv {α S : Type} {o : Option α} {s s' : S} {y : α} (h : ofOpt o s = .ok y s') : o = some y ∧ s' = s := by
  cases o with
  | none => cases h
  | some a => cases h; exact ⟨rfl, rfl⟩
section
variable {J : Jc} {ta tb : TE} {ga gb : G D} {tl : TA} {gl : G (List D)} {C : Addr} {n : Str} {i : Nat}
theorem var_inv {i : Nat} {Γ Γ' : Env} {x : D} (h : gVar i Γ = .ok x Γ') : Γ' = Γ ∧ Γ[i]? = some (some (.d x)) := by
  unfold gVar at h
  split at h
  · rename_i e
    cases h
    exact ⟨rfl, e⟩
  · cases h
theorem pd_var (i : Nat) : PD J (tVar i) (gVar i) := by
  refine ⟨fun Γ x Γ' h => (var_inv h).1, fun σ H Γ fp R x h Q q => ?_⟩
  obtain ⟨v, h1, h2⟩ := R.rep i _ (var_inv h).2
  cases h2 with
  | d a _ => exact ⟨v, h1, q v H (Ext.refl H) a⟩
theorem pd_c {v : V} {y : D} (hy : ∀ H, At J.K H v y) : PD J (tC v) (gC y) := ⟨fun Γ x Γ' h => by cases h; rfl, fun σ H Γ fp R x h Q q => by cases h; exact q v H (Ext.refl H) (hy H)⟩
theorem fld_inv {Γ Γ' : Env} {x : D} (h : gFld C i n Γ = .ok x Γ') : Γ' = Γ ∧ fldAt C Γ i n = some (.d x) := by
  unfold gFld at h
  split at h
  · rename_i e
    cases h
    exact ⟨rfl, e⟩
  · cases h
theorem pd_fld (c : ClsF J.K C n) : PD J (tFld J.K (tVar i) n) (gFld C i n) := by
  refine ⟨fun Γ x Γ' h => (fld_inv h).1, fun σ H Γ fp R x h Q q => ?_⟩
  obtain ⟨fs, e1, _, e2⟩ := fld_of (fld_inv h).2
  obtain ⟨p, dx, ws, g, h1, h2, h3, h4, h5⟩ := R.ins e1
  obtain ⟨v, f, k1, k2, k3⟩ := h3.look e2
  cases k2 with
  | d a _ => exact ⟨_, h1, p, C, dx, ws, v, rfl, h2, c.cl, c.no, k1, q v H (Ext.refl H) a⟩
theorem pd_op {r : R2} {f : D → D → Option D} (hr : OpD J.K r f) (ha : PD J ta ga) (hb : PD J tb gb) : PD J (tOp r ta tb) (g2 f ga gb) := by
  have inv : ∀ {Γ x Γ'}, g2 f ga gb Γ = .ok x Γ' → Γ' = Γ ∧ ∃ y z, ga Γ = .ok y Γ ∧ gb Γ = .ok z Γ ∧ f y z = some x := fun {Γ x Γ'} h => by
    unfold g2 at h
    obtain ⟨y, Γ1, h1, h⟩ := bind_inv h
    obtain ⟨z, Γ2, h2, h⟩ := bind_inv h
    obtain ⟨h3, h4⟩ := ofOpt_inv h
    have e1 := ha.pu _ _ _ h1
    subst e1
    have e2 := hb.pu _ _ _ h2
    subst e2
    exact ⟨h4, y, z, h1, h2, h3⟩
  refine ⟨fun Γ x Γ' h => (inv h).1, fun σ H Γ fp R x h Q q => ?_⟩
  obtain ⟨_, y, z, h1, h2, h3⟩ := inv h
  exact ha.rd σ H Γ fp R y h1 _ fun v H1 x1 a1 => hb.rd σ H1 Γ fp (R.ext x1) z h2 _ fun w H2 x2 a2 => hr H2 v w y z x Q (a1.mono x2.im) a2 h3 fun u H3 x3 a3 => q u H3 ((x1.trans x2).trans x3) a3
theorem pa_nil' : PAs J tNil gNilA := ⟨fun Γ x Γ' h => by cases h; rfl, fun σ H Γ fp R x h Q q => by cases h; exact q [] H (Ext.refl H) .nil⟩
theorem pa_cons' (ha : PD J ta ga) (hl : PAs J tl gl) : PAs J (tCons ta tl) (gConsA ga gl) := by
  have inv : ∀ {Γ x Γ'}, gConsA ga gl Γ = .ok x Γ' → Γ' = Γ ∧ ∃ y z, ga Γ = .ok y Γ ∧ gl Γ = .ok z Γ ∧ x = y :: z := fun {Γ x Γ'} h => by
    unfold gConsA at h
    obtain ⟨y, Γ1, h1, h3⟩ := bind_inv h
    obtain ⟨z, Γ2, h2, h4⟩ := bind_inv h3
    clear h h3
    have e1 := ha.pu _ _ _ h1
    subst e1
    have e2 := hl.pu _ _ _ h2
    subst e2
    cases h4
    exact ⟨rfl, y, z, h1, h2, rfl⟩
  refine ⟨fun Γ x Γ' h => (inv h).1, fun σ H Γ fp R x h Q q => ?_⟩
  obtain ⟨_, y, z, h1, h2, rfl⟩ := inv h
  exact ha.rd σ H Γ fp R y h1 _ fun v H1 x1 a1 => hl.rd σ H1 Γ fp (R.ext x1) z h2 _ fun w H2 x2 a2 => q _ H2 (x1.trans x2) (.cons (a1.mono x2.im) a2)
theorem pd_tup (hl : PAs J tl gl) : PD J (tTup tl) (gTup gl) := by
  have inv : ∀ {Γ x Γ'}, gTup gl Γ = .ok x Γ' → Γ' = Γ ∧ ∃ xs, gl Γ = .ok xs Γ ∧ small xs.length = true ∧ x = .tup xs := fun {Γ x Γ'} h => by
    unfold gTup at h
    obtain ⟨xs, Γ1, h1, h2⟩ := bind_inv h
    clear h
    have e1 := hl.pu _ _ _ h1
    subst e1
    by_cases c : small xs.length = true
    · rw [if_pos c] at h2; cases h2; exact ⟨rfl, xs, h1, c, rfl⟩
    · rw [if_neg c] at h2; cases h2
  refine ⟨fun Γ x Γ' h => (inv h).1, fun σ H Γ fp R x h Q q => ?_⟩
  obtain ⟨_, xs, h1, c, rfl⟩ := inv h
  exact hl.rd σ H Γ fp R xs h1 _ fun vs H1 x1 a1 => ⟨by rw [a1.length]; exact small_ok c, fun p np => q _ _ (x1.trans (Ext.new np)) (.tup (.inl (.inl upd_same)) (a1.mono (Ext.new np).im))⟩
end
/-! ### o.f.append(e), e pure -/
theorem RepFs.updL {K : Frag} {H H' : Hp} {n : Str} {q : Addr} {vs' : List V} {xs xs' : List D} (new : Ats K H' vs' xs') (hq : H' q = some (.lst vs')) (im : Im H H') (keep : ∀ b u, b ≠ q → H b = some u → H' b = some u) :
    ∀ {fs : List (Str × Ob)} {ws : List (Str × V)} {g : Fp}, RepFs K H fs ws g → fs.lookup n = some (.lst xs) → ws.lookup n = some (.ref q) → RepFs K H' (putO n (.lst xs') fs) ws g
  | _, _, _, .nil _, e, _ => by cases e
  | _, _, g, .cons (n := m) (o := o) (v := v) (fs := fs) (ws := ws) (f := f) (g := g1) h hs d u, e, e2 => by
    simp only [List.lookup] at e e2
    by_cases c : m = n
    · subst c
      simp only [beq_self_eq_true] at e e2
      cases e
      cases e2
      simp only [putO, if_true]
      cases h with
      | lst h1 h2 h3 =>
        refine .cons (.lst hq new h3) (hs.frame im fun b w hb z => keep b w (fun y => d b ((h3 b).mpr y) hb) z) d u
    · have c' : (n == m) = false := by simpa using fun z => c z.symm
      rw [c'] at e e2
      simp only [putO, if_neg c]
      obtain ⟨v', f', k1, k2, k3⟩ := hs.look e
      have e2' : ws.lookup n = some (.ref q) := e2
      rw [e2'] at k1
      cases k1
      have qg : g1 q := by
        cases k2 with
        | lst h1 h2 h3 => exact k3 q ((h3 q).mpr rfl)
      exact .cons (h.frame im fun b w hb z => keep b w (fun y => d b hb (y ▸ qg)) z) (RepFs.updL new hq im keep hs e e2) d u
@[simp] def kAppF2 (C : Addr) (i : Nat) (n : Str) (fs : List (Str × Ob)) (xs : List D) (x : D) (Γ : Env) : Res Fl Env :=
  if small xs.length then .ok .nx (Γ.set i (some (.ins C (putO n (.lst (xs ++ [x])) fs)))) else .bad
@[simp] def kAppF1 (C : Addr) (i : Nat) (n : Str) (a : G D) (fs : List (Str × Ob)) : Option Ob → Env → Res Fl Env
  | some (.lst xs), Γ => (a Γ).bind (kAppF2 C i n fs xs)
  | _, _ => .bad
@[simp] def kAppF (C : Addr) (i : Nat) (n : Str) (a : G D) (Γ : Env) : Option (List (Str × Ob)) → Res Fl Env
  | some fs => kAppF1 C i n a fs (fs.lookup n) Γ
  | none => .bad
def gAppF (C : Addr) (i : Nat) (n : Str) (a : G D) (Γ : Env) : Res Fl Env := kAppF C i n a Γ (insAt C Γ i)
@[simp] theorem gAppF_ap (C : Addr) (i : Nat) (n : Str) (a : G D) (Γ : Env) : gAppF C i n a Γ = kAppF C i n a Γ (insAt C Γ i) := rfl
theorem ss_appF {J : Jc} {m : List Bool} {C : Addr} {n : Str} {i : Nat} {te : TE} {gd : G D} (c : ClsF J.K C n) (ha : PD J te gd) (hx : ∀ Γ x Γ', gd Γ ≠ .ex x Γ') : SS J m (tDrop (tBM J.K "list" rAppend (tFld J.K (tVar i) n) (tCons te tNil))) (gAppF C i n gd) := fun σ H Γ fp R D hp => by
  unfold gAppF at hp
  cases e : insAt C Γ i with
  | none => rw [e] at hp; exact hp.elim
  | some fs =>
    rw [e] at hp
    simp only [kAppF] at hp
    cases e2 : fs.lookup n with
    | none => rw [e2] at hp; exact hp.elim
    | some o =>
      rw [e2] at hp
      cases o with
      | lst xs =>
        simp only [kAppF1] at hp
        cases e3 : gd Γ with
        | bad => rw [e3] at hp; exact hp.elim
        | ex x Γ' => exact (hx _ _ _ e3).elim
        | ok x Γ' =>
          rw [e3] at hp
          have eΓ := ha.pu _ _ _ e3
          subst eΓ
          have hp' : Post (kAppF2 C i n fs xs x Γ') (FlP J m σ (U fp) H D) (XxP J m σ (U fp) H) := hp
          unfold kAppF2 at hp'
          by_cases cs : small xs.length = true
          · rw [if_pos cs] at hp'
            have e1 := insAt_some e
            obtain ⟨p, dx, ws, g, h1, h2, h3, h4, h5⟩ := R.ins e1
            obtain ⟨v, f, k1, k2, k3⟩ := h3.look e2
            cases k2 with
            | lst a1 a2 a3 =>
              rename_i q vs
              refine ⟨_, h1, p, C, dx, ws, _, rfl, h2, c.cl, c.no, k1, .inl ⟨rfl, vs, .inl (.inl a1)⟩, ha.rd σ H Γ' fp R x e3 _ fun w H1 x1 b1 => ?_⟩
              have R1 := R.ext x1
              obtain ⟨p', dx', ws', g', j1, j2, j3, j4, j5⟩ := R1.ins e1
              rw [h1] at j1
              cases j1
              rw [x1 _ _ h2] at j2
              cases j2
              have hq1 : H1 q = some (.lst vs) := x1 _ _ a1
              refine ⟨q, vs, w, rfl, rfl, hq1, by rw [a2.length]; exact small_lt cs, ?_⟩
              have npq : p ≠ q := fun z => h4 (k3 p ((a3 p).mpr z))
              have im : Im H1 (upd H1 q (.lst (vs ++ [w]))) := ⟨fun b ys z => by rw [upd_ne (show b ≠ q from fun y => by rw [y, hq1] at z; cases z)]; exact z, fun b y z t => by rw [upd_ne (show b ≠ q from fun y => by rw [y, hq1] at t; cases t)]; exact t, fun b y t => by rw [upd_ne (show b ≠ q from fun y => by rw [y, hq1] at t; cases t)]; exact t, fun b y t => by rw [upd_ne (show b ≠ q from fun y => by rw [y, hq1] at t; cases t)]; exact t⟩
              have keep : ∀ b u, b ≠ q → H1 b = some u → (upd H1 q (.lst (vs ++ [w]))) b = some u := fun b u nb z => by rw [upd_ne nb]; exact z
              have new : Ats J.K (upd H1 q (.lst (vs ++ [w]))) (vs ++ [w]) (xs ++ [x]) := ((a2.mono x1.im).append (.cons b1 .nil)).mono im
              have F2 := RepFs.updL (n := n) new upd_same im keep j3 e2 k1
              obtain ⟨v0, l1, l2, R2, l4, l5⟩ := R1.take e1
              rw [h1] at l1
              cases l1
              have gq' : g' q := by
                obtain ⟨v2, f2, m1, m2, m3⟩ := j3.look e2
                rw [k1] at m1
                cases m1
                cases m2 with
                | lst n1 n2 n3 => exact m3 q ((n3 q).mpr rfl)
              have R3 := R2.frame im fun b u hb z => keep b u (fun y => l4 q ((j5 q).mpr (.inr gq')) (y ▸ hb)) z
              have ri : RepO J.K (upd H1 q (.lst (vs ++ [w]))) (.ins C (putO n (.lst (xs ++ [x])) fs)) (.ref p) (fp i) := .ins (by rw [upd_ne npq]; exact x1 _ _ h2) F2 j4 j5
              obtain ⟨R4, u4⟩ := R3.put (σ' := σ) (i := i) rfl h1 (fun _ _ => rfl) ri fun b z1 z2 => l4 b z1 z2
              rw [List.set_set] at R4
              refine hp' σ _ _ R4 (Kp.refl _ _) ⟨x1.im.trans im, fun b u z nb => ?_, fun b z => .inl ?_⟩
              · have hb : b ≠ q := fun y => nb (y ▸ ⟨i, (h5 q).mpr (.inr (k3 q ((a3 q).mpr rfl)))⟩)
                exact keep b u hb (x1 b u z)
              · rcases u4 b z with z | ⟨j, _, z⟩
                · exact ⟨i, z⟩
                · exact ⟨j, z⟩
          · rw [if_neg cs] at hp'; exact hp'.elim
      | _ => exact hp.elim
/-! ### what is never gone through -/
def gBadS : G Fl := fun _ => .bad
@[simp] theorem gBadS_ap (Γ : Env) : gBadS Γ = .bad := rfl
end Gm

/-! Gm13: the rules for instances, as they are put together; defs with defaults. -/
namespace Gm
open PySem PySem.Spec PyProof.Rows L2
section
variable (K : Frag) (mg : Str → Option Value) (X : Cx) (W : WX)
/-- a pure expression -/
def VPD (e : Expr) (te : TE) (g : G D) : Prop := X.K = K → X.mg = mg → PE X e te ∧ PD (jc K mg W) te g ∧ ∀ Γ x Γ', g Γ ≠ .ex x Γ'
def VPA (es : List Expr) (tl : TA) (g : G (List D)) : Prop := X.K = K → X.mg = mg → PA X es tl ∧ PAs (jc K mg W) tl g ∧ ∀ Γ x Γ', g Γ ≠ .ex x Γ'
end
/-- what the text's class must have so that its objects are made -/
structure ClsK (K : Frag) (mg : Str → Option Value) (x : Str) (C : Addr) : Prop where
  cl : Cls K C
  ma : PySem.W.makesIn K C = true
  kc : PySem.W.keepIn K (.ref C) = true
  mgC : mg x = some (.ref C)
/-- a method, ready to be called -/
structure CalleeM (K : Frag) (mg : Str → Option Value) (P : Program) (w : World) (base : Heap) (C : Addr) (m : Str) (k : Nat) (ps : List Str) (mf : Mf) : Prop where
  ex : ∃ (f : Addr) (fd : FuncData), FnOk P w K mg base (L2.CX P w) k f fd ps (SpM K mg mf) ∧ Meth K C m f ∧ Binds K fd ps []
section
variable {K : Frag} {mg : Str → Option Value} {X : Cx} {W : WX} {a e : Expr} {es : List Expr} {pos p : Pos} {ta tb te : TE} {ga gb : G D} {go : G Ob} {tl : TA} {gl : G (List D)} {C : Addr} {n x : Str} {px apx pos' : Pos} {m : List Bool}
theorem d_fld (i : Nat) (c : Cls K C) (c2 : NoAttr K C n) (hN : X.N[i]? = some x := by rfl) (hv : Vis X.env.scope x := by first | exact Or.inl rfl | exact Or.inr (Or.inl rfl) | exact Or.inr (Or.inr rfl)) (hd : (x == ("__debug__" : Str)) = false := by decide)
    (hcd : (x == ("__classdict__" : Str)) = false := by decide) (hb : attributeBase (.Name x px) n X.env (eval (.Name x px) X.env) = eval (.Name x px) X.env := by rfl) : VD K mg X W (.Attribute (.Name x px) n pos) (tFld K (tVar i) n) (gFld C i n) := fun k _ => by
  subst k
  exact ⟨pe_fld (pe_var hN hv hd hcd) hb, ed_fld ⟨c, c2⟩⟩
theorem o_listF (i : Nat) (c : Cls K C) (c2 : NoAttr K C n) (hm : mg "list" = none) (hN : X.N[i]? = some x := by rfl) (hv : Vis X.env.scope x := by first | exact Or.inl rfl | exact Or.inr (Or.inl rfl) | exact Or.inr (Or.inr rfl)) (hd : (x == ("__debug__" : Str)) = false := by decide)
    (hcd : (x == ("__classdict__" : Str)) = false := by decide) (hb : attributeBase (.Name x px) n X.env (eval (.Name x px) X.env) = eval (.Name x px) X.env := by rfl) (hg : Gl X "list" := by rfl) (he : starEach [.Attribute (.Name x px) n apx] X.env = [(false, eval (.Attribute (.Name x px) n apx) X.env)] := by rfl) :
    VO K mg X W (.Call (.Name "list" p) [.Attribute (.Name x px) n apx] [] pos) (tCB (fun xs H Q => ∃ p ys, xs = [.ref p] ∧ (SqL K H p ys ∨ SqT K H p ys) ∧ ∀ l, H l = none → Q (.ref l) (upd H l (.lst ys))) (tCons (tFld K (tVar i) n) tNil)) (gListF C i n) := fun k h => by
  subst k h
  exact ⟨pe_callTy call_list_of hg hm boot_list (pa_cons (pe_fld (pe_var hN hv hd hcd) hb) pa_nil he) (by decide) (by decide) he rfl, eo_listF ⟨c, c2⟩⟩
theorem d_lenF (i : Nat) (c : Cls K C) (c2 : NoAttr K C n) (hm : mg "len" = none) (hN : X.N[i]? = some x := by rfl) (hv : Vis X.env.scope x := by first | exact Or.inl rfl | exact Or.inr (Or.inl rfl) | exact Or.inr (Or.inr rfl)) (hd : (x == ("__debug__" : Str)) = false := by decide)
    (hcd : (x == ("__classdict__" : Str)) = false := by decide) (hb : attributeBase (.Name x px) n X.env (eval (.Name x px) X.env) = eval (.Name x px) X.env := by rfl) (hg : Gl X "len" := by rfl) (he : starEach [.Attribute (.Name x px) n apx] X.env = [(false, eval (.Attribute (.Name x px) n apx) X.env)] := by rfl) :
    VD K mg X W (.Call (.Name "len" p) [.Attribute (.Name x px) n apx] [] pos) (tCB (fun xs H Q => ∃ x n, xs = [x] ∧ LenV K x H n ∧ Q (.int n) H) (tCons (tFld K (tVar i) n) tNil)) (gLenF C i n) := fun k h => by
  subst k h
  exact ⟨pe_callB call_len hg hm boot_len (pa_cons (pe_fld (pe_var hN hv hd hcd) hb) pa_nil he) (by decide) (by decide) he rfl, ed_lenF ⟨c, c2⟩⟩
theorem st_setF (i : Nat) (c : Cls K C) (c2 : NoAttr K C n) (h : VO K mg X W e te go) (hN : X.N[i]? = some x := by rfl) (hv : Vis X.env.scope x := by first | exact Or.inl rfl | exact Or.inr (Or.inl rfl) | exact Or.inr (Or.inr rfl)) (hd : (x == ("__debug__" : Str)) = false := by decide)
    (hcd : (x == ("__classdict__" : Str)) = false := by decide) (hs : swapsWith e (some (.Attribute (.Name x px) n pos')) pos.line X.env = pure false := by rfl) : VSt K mg X W m (.Assign [.Attribute (.Name x px) n pos'] e pos) (sFld K (tVar i) te n) (gSetF C i n go) := fun k l => by
  have h := h k l
  subst k
  exact ⟨ps_fld (pe_var hN hv hd hcd) h.1 hs, ss_setF ⟨c, c2⟩ h.2⟩
theorem rAdd_D {K : Frag} : OpD K rAdd (oI0 fun a b => .int (a + b)) := by
  intro H v w x y z Q hx hy e k
  unfold oI0 at e
  split at e
  · cases hx; cases hy; cases e
    exact ⟨_, _, rfl, rfl, k _ H (Ext.refl H) (.int _)⟩
  · cases e
theorem rSub_D {K : Frag} : OpD K rSub (oI0 fun a b => .int (a - b)) := by
  intro H v w x y z Q hx hy e k
  unfold oI0 at e
  split at e
  · cases hx; cases hy; cases e
    exact ⟨_, _, rfl, rfl, k _ H (Ext.refl H) (.int _)⟩
  · cases e
theorem st_augFAdd (i : Nat) (c : Cls K C) (c2 : NoAttr K C n) (h : VD K mg X W e te ga) (hN : X.N[i]? = some x := by rfl) (hv : Vis X.env.scope x := by first | exact Or.inl rfl | exact Or.inr (Or.inl rfl) | exact Or.inr (Or.inr rfl)) (hd : (x == ("__debug__" : Str)) = false := by decide)
    (hcd : (x == ("__classdict__" : Str)) = false := by decide) : VSt K mg X W m (.AugAssign (.Attribute (.Name x px) n pos') .Add e pos) (sFldAug K (tVar i) te rAdd n) (gAugF C (oI0 fun a b => .int (a + b)) i n ga) := fun k l => by
  have h := h k l
  subst k
  exact ⟨ps_fldaug (pe_var hN hv hd hcd) h.1 in_add, ss_augF ⟨c, c2⟩ rAdd_D h.2⟩
theorem st_augFSub (i : Nat) (c : Cls K C) (c2 : NoAttr K C n) (h : VD K mg X W e te ga) (hN : X.N[i]? = some x := by rfl) (hv : Vis X.env.scope x := by first | exact Or.inl rfl | exact Or.inr (Or.inl rfl) | exact Or.inr (Or.inr rfl)) (hd : (x == ("__debug__" : Str)) = false := by decide)
    (hcd : (x == ("__classdict__" : Str)) = false := by decide) : VSt K mg X W m (.AugAssign (.Attribute (.Name x px) n pos') .Sub e pos) (sFldAug K (tVar i) te rSub n) (gAugF C (oI0 fun a b => .int (a - b)) i n ga) := fun k l => by
  have h := h k l
  subst k
  exact ⟨ps_fldaug (pe_var hN hv hd hcd) h.1 in_sub, ss_augF ⟨c, c2⟩ rSub_D h.2⟩
theorem ib_fld {tg : Expr} (i : Nat) (c : Cls K C) (c2 : NoAttr K C n) (hm : m[i]? = some true := by decide) (hN : X.N[i]? = some x := by rfl) (hv : Vis X.env.scope x := by first | exact Or.inl rfl | exact Or.inr (Or.inl rfl) | exact Or.inr (Or.inr rfl)) (hd : (x == ("__debug__" : Str)) = false := by decide)
    (hcd : (x == ("__classdict__" : Str)) = false := by decide) (hb : attributeBase (.Name x px) n X.env (eval (.Name x px) X.env) = eval (.Name x px) X.env := by rfl) : VIB K mg X W m tg (.Attribute (.Name x px) n pos) (iSeq K (tFld K (tVar i) n)) (gLendF C i n) := fun k _ => by
  subst k
  exact ⟨pi_seq (pe_fld (pe_var hN hv hd hcd) hb), eib_lendF ⟨c, c2⟩ hm⟩
/-! ### the pure ones -/
theorem p_var (i : Nat) (hN : X.N[i]? = some x := by rfl) (hv : Vis X.env.scope x := by first | exact Or.inl rfl | exact Or.inr (Or.inl rfl) | exact Or.inr (Or.inr rfl)) (hd : (x == ("__debug__" : Str)) = false := by decide)
    (hcd : (x == ("__classdict__" : Str)) = false := by decide) : VPD K mg X W (.Name x pos) (tVar i) (gVar i) := fun _ _ => ⟨pe_var hN hv hd hcd, pd_var i, fun Γ x Γ' h => by unfold gVar at h; split at h <;> cases h⟩
theorem p_fld (i : Nat) (c : Cls K C) (c2 : NoAttr K C n) (hN : X.N[i]? = some x := by rfl) (hv : Vis X.env.scope x := by first | exact Or.inl rfl | exact Or.inr (Or.inl rfl) | exact Or.inr (Or.inr rfl)) (hd : (x == ("__debug__" : Str)) = false := by decide)
    (hcd : (x == ("__classdict__" : Str)) = false := by decide) (hb : attributeBase (.Name x px) n X.env (eval (.Name x px) X.env) = eval (.Name x px) X.env := by rfl) : VPD K mg X W (.Attribute (.Name x px) n pos) (tFld K (tVar i) n) (gFld C i n) := fun k _ => by
  subst k
  exact ⟨pe_fld (pe_var hN hv hd hcd) hb, pd_fld ⟨c, c2⟩, fun Γ x Γ' h => by unfold gFld at h; split at h <;> cases h⟩
theorem noex_bind {α β S : Type} {r : Res α S} {f : α → S → Res β S} {x : Ex} {s : S} (h1 : ∀ x s, r ≠ .ex x s) (h2 : ∀ a s y t, f a s ≠ .ex y t) : r.bind f ≠ .ex x s := by
  cases r with
  | ok a s' => exact h2 a s' x s
  | ex y t => exact (h1 y t rfl).elim
  | bad => intro h; cases h
theorem p_add (ha : VPD K mg X W a ta ga) (hb : VPD K mg X W e tb gb) : VPD K mg X W (.BinOp a .Add e pos) (tOp (rAddA K) ta tb) (g2 oAdd ga gb) := fun k l => by
  have h1 := ha k l
  have h2 := hb k l
  subst k
  refine ⟨pe_op op_addA h1.1 h2.1, pd_op (add_D X.K) h1.2.1 h2.2.1, fun Γ x Γ' => ?_⟩
  unfold g2
  exact noex_bind (h1.2.2 Γ) fun a s y t => noex_bind (h2.2.2 s) fun b s' y t h => by
    cases q : oAdd a b <;> rw [q] at h <;> cases h
theorem p_int {i : Int} {j} : VPD K mg X W (.Constant (.int i) j pos) (tC (.int i)) (gC (.int i)) := fun _ _ => ⟨pe_int, pd_c fun _ => .int _, fun Γ x Γ' h => by cases h⟩
theorem p_str {i : Str} {j} : VPD K mg X W (.Constant (.str i) j pos) (tC (.str i)) (gC (.str i)) := fun _ _ => ⟨pe_str, pd_c fun _ => .str _, fun Γ x Γ' h => by cases h⟩
theorem pl_nil : VPA K mg X W [] tNil gNilA := fun _ _ => ⟨pa_nil, pa_nil', fun Γ x Γ' h => by cases h⟩
theorem pl_cons (ha : VPD K mg X W a ta ga) (hl : VPA K mg X W es tl gl) (hs : starEach (a :: es) X.env = (false, eval a X.env) :: starEach es X.env := by rfl) : VPA K mg X W (a :: es) (tCons ta tl) (gConsA ga gl) := fun k l => by
  have h1 := ha k l
  have h2 := hl k l
  refine ⟨pa_cons h1.1 h2.1 hs, pa_cons' h1.2.1 h2.2.1, fun Γ x Γ' => ?_⟩
  unfold gConsA
  exact noex_bind (h1.2.2 Γ) fun a s y t => noex_bind (h2.2.2 s) fun b s' y t h => by cases h
theorem p_tup {x1} (h : VPA K mg X W es tl gl) : VPD K mg X W (.Tuple es x1 pos) (tTup tl) (gTup gl) := fun k l => by
  have h1 := h k l
  refine ⟨pe_tup h1.1, pd_tup h1.2.1, fun Γ x Γ' => ?_⟩
  unfold gTup
  exact noex_bind (h1.2.2 Γ) fun a s y t h => by split at h <;> cases h
theorem st_appF (i : Nat) {cpos apos : Pos} (c : Cls K C) (c2 : NoAttr K C n) (h : VPD K mg X W e te ga) (hN : X.N[i]? = some x := by rfl) (hv : Vis X.env.scope x := by first | exact Or.inl rfl | exact Or.inr (Or.inl rfl) | exact Or.inr (Or.inr rfl)) (hd : (x == ("__debug__" : Str)) = false := by decide)
    (hcd : (x == ("__classdict__" : Str)) = false := by decide) (hb : attributeBase (.Name x px) n X.env (eval (.Name x px) X.env) = eval (.Name x px) X.env := by rfl) (he : starEach [e] X.env = [(false, eval e X.env)] := by rfl)
    (hbase : attributeBase (.Attribute (.Name x px) n apx) "append" X.env (eval (.Attribute (.Name x px) n apx) X.env) = eval (.Attribute (.Name x px) n apx) X.env := by rfl)
    (hfew : ((backTo cpos (starEach [e] X.env)).all (fun x => !x.1) && (backToKw cpos (keywordEach [] X.env)).all (fun x => x.1.isSome) && decide (([e] : List Expr).length + ([] : List Keyword).length + (if ([] : List Keyword).isEmpty then 0 else 1) < 30)) = true := by rfl)
    (hline : (apos.endLine == cpos.line) = true := by rfl) (hplain : (backTo cpos (starEach [] X.env)).any (·.1) = false := by rfl) (hs : swapsWith (.Call (.Attribute (.Attribute (.Name x px) n apx) "append" apos) [e] [] cpos) none pos.line X.env = pure false := by rfl) :
    VSt K mg X W m (.Expr (.Call (.Attribute (.Attribute (.Name x px) n apx) "append" apos) [e] [] cpos) pos) (tDrop (tBM K "list" rAppend (tFld K (tVar i) n) (tCons te tNil))) (gAppF C i n ga) := fun k l => by
  have h := h k l
  subst k
  exact ⟨ps_expr (pe_bm PySem.F.plainAttrs_list PySem.F.slot_list_append PySem.F.type_list_append mt_append (pe_fld (pe_var hN hv hd hcd) hb) (pa_cons h.1 pa_nil he) hbase hfew hline he hplain) hs, ss_appF ⟨c, c2⟩ h.2.1 h.2.2⟩
/-! ### methods, makers -/
variable {tcs : TA} {gcs : G (List Arg)} {ps : List Str} {mf : Mf} {k j : Nat} {cpos apos : Pos}
theorem o_meth {pl : Sem Bool} (i : Nat) (c : Cls K C) (F : CalleeM K mg X.prog X.w X.base C n j ps mf) (hr : Room k X.A) (hj : j ≤ k) (tk : Takes X W) (h : VC K mg X W (a :: es) tcs gcs) (hN : X.N[i]? = some x := by rfl) (hv : Vis X.env.scope x := by first | exact Or.inl rfl | exact Or.inr (Or.inl rfl) | exact Or.inr (Or.inr rfl)) (hd : (x == ("__debug__" : Str)) = false := by decide)
    (hcd : (x == ("__classdict__" : Str)) = false := by decide) (hst : starEach (a :: es) X.env = (false, eval a X.env) :: starEach es X.env := by rfl) (hpl : (backTo cpos (starEach es X.env)).any (·.1) = false := by rfl)
    (ht : eval (.Call (.Attribute (.Name x px) n apos) (a :: es) [] cpos) X.env = (do
      let ov ← eval (.Name x px) X.env; standAt apos.atName
      let (f, first) ← holding [ov] (getMethod ov n pl); callWith cpos f first (backTo cpos (starEach (a :: es) X.env)) (backToKw cpos (keywordEach [] X.env))) := by rfl) :
    VO K mg X W (.Call (.Attribute (.Name x px) n apos) (a :: es) [] cpos) (tMethS C n (SpM K mg mf) (WE W) (tVar i) tcs) (gMeth C i n mf gcs) := fun q l => by
  have h := h q l
  obtain ⟨f, fd, F, q1, q2⟩ := F.ex
  subst q l
  exact ⟨pe_methS (pl := pl) (pe_var hN hv hd hcd) c q1 F (hr.mono hj) q2 (fun σ => passAt tk σ) h.1 hst hpl ht, eo_meth (ec_cons (ec1_s i) h.2)⟩
theorem o_meth0 {pl : Sem Bool} (i : Nat) (c : Cls K C) (F : CalleeM K mg X.prog X.w X.base C n j ps mf) (hr : Room k X.A) (hj : j ≤ k) (tk : Takes X W) (hN : X.N[i]? = some x := by rfl) (hv : Vis X.env.scope x := by first | exact Or.inl rfl | exact Or.inr (Or.inl rfl) | exact Or.inr (Or.inr rfl)) (hd : (x == ("__debug__" : Str)) = false := by decide)
    (hcd : (x == ("__classdict__" : Str)) = false := by decide)
    (ht : eval (.Call (.Attribute (.Name x px) n apos) [] [] cpos) X.env = (do
      let ov ← eval (.Name x px) X.env; standAt apos.atName
      let (f, first) ← holding [ov] (getMethod ov n pl); callWith cpos f first (backTo cpos (starEach [] X.env)) (backToKw cpos (keywordEach [] X.env))) := by rfl) :
    VO K mg X W (.Call (.Attribute (.Name x px) n apos) [] [] cpos) (tMethS C n (SpM K mg mf) (WE W) (tVar i) tNil) (gMeth C i n mf gcNil) := fun q l => by
  obtain ⟨f, fd, F, q1, q2⟩ := F.ex
  subst q l
  exact ⟨pe_methS0 (pl := pl) (pe_var hN hv hd hcd) c q1 F (hr.mono hj) q2 (fun σ => passAt tk σ) ht, eo_meth (ec_cons (ec1_s i) ec_nil)⟩
theorem o_make (c : ClsK K mg x C) (F : CalleeM K mg X.prog X.w X.base C "__init__" j ps mf) (hr : Room k X.A) (hj : j + 1 ≤ k) (tk : Takes X W) (h : VC K mg X W (a :: es) tcs gcs) (hg : Gl X x := by rfl) (hdb : (x == ("__debug__" : Str)) = false := by decide) (he : starEach (a :: es) X.env = (false, eval a X.env) :: starEach es X.env := by rfl) (hpl : (backTo pos (starEach es X.env)).any (·.1) = false := by rfl) :
    VO K mg X W (.Call (.Name x p) (a :: es) [] pos) (tMakeS C (SpM K mg mf) (WE W) tcs) (gMake C mf gcs) := fun q l => by
  have h := h q l
  obtain ⟨f, fd, F, q1, q2⟩ := F.ex
  subst q l
  exact ⟨pe_makeS ⟨c.ma, q1.at_, q1.fn, c.kc⟩ F (hr.mono hj) hg c.mgC q2 (fun σ => passAt tk σ) h.1 hdb he hpl, eo_make h.2⟩
theorem o_make0 (c : ClsK K mg x C) (F : CalleeM K mg X.prog X.w X.base C "__init__" j ps mf) (hr : Room k X.A) (hj : j + 1 ≤ k) (tk : Takes X W) (hg : Gl X x := by rfl) (hdb : (x == ("__debug__" : Str)) = false := by decide) :
    VO K mg X W (.Call (.Name x p) [] [] pos) (tMakeS C (SpM K mg mf) (WE W) tNil) (gMake C mf gcNil) := fun q l => by
  obtain ⟨f, fd, F, q1, q2⟩ := F.ex
  subst q l
  exact ⟨pe_makeS0 ⟨c.ma, q1.at_, q1.fn, c.kc⟩ F (hr.mono hj) hg c.mgC q2 (fun σ => passAt tk σ) hdb, eo_make ec_nil⟩
theorem d_lenO (i : Nat) (F : CalleeM K mg X.prog X.w X.base C "__len__" j ps mf) (hr : Room k X.A) (hj : j + 1 ≤ k) (tk : Takes X W) (hm : mg "len" = none) (hN : X.N[i]? = some x := by rfl) (hv : Vis X.env.scope x := by first | exact Or.inl rfl | exact Or.inr (Or.inl rfl) | exact Or.inr (Or.inr rfl)) (hd : (x == ("__debug__" : Str)) = false := by decide)
    (hcd : (x == ("__classdict__" : Str)) = false := by decide) (hg : Gl X "len" := by rfl) (he : starEach [.Name x px] X.env = [(false, eval (.Name x px) X.env)] := by rfl) :
    VD K mg X W (.Call (.Name "len" p) [.Name x px] [] pos) (tLenO C (SpM K mg mf) (WE W) (tVar i)) (gLenO C i mf) := fun q l => by
  obtain ⟨f, fd, F, q1, q2⟩ := F.ex
  subst q l
  exact ⟨pe_lenO (pe_var hN hv hd hcd) q1 F (hr.mono hj) q2 (fun σ => passAt tk σ) hg hm he, ed_lenO (ec_cons (ec1_s i) ec_nil)⟩
/-- a statement that is never come to -/
theorem st_bad {s : Stmt} : VSt K mg X W m s (fun _ _ _ => False) gBadS := fun _ _ => ⟨⟨fun _ _ _ _ _ _ h => h.elim⟩, fun _ _ _ _ _ _ hp => hp.elim⟩
end
/-! ### defs with defaults, called with all their arguments -/
theorem def_okD {P : Program} {w : World} {K : Frag} {mg : Str → Option Value} {base : Heap} {x qual : Str} {st : Stmt} {f : Addr} {fd : FuncData} {N ps : List Str} {k : Nat} {m : List Bool} {gf : G Fl} {dvs : List V} (F : FunD K x qual (defArgs st) (defBody st) (defScope st) dvs [] f fd) (S : FnScope N ps (defScope st)) (hm : m.length = ps.length)
    (hb : ∀ (cdv : Value) (A : Around) (outer : List PySem.Env) (s : Shared) (H : Hp) (E : XK), Room k (A.deeper (envOfC qual (defScope st) s.heap.objs.size f cdv)) →
      Takes (cxOf (L2.CX P w) P w K mg base N qual (defScope st) f cdv A outer s H E) (fun cls d _ H => E cls d H) →
      PassesOwn (model P w) (cxOf (L2.CX P w) P w K mg base N qual (defScope st) f cdv A outer s H E).A (cxOf (L2.CX P w) P w K mg base N qual (defScope st) f cdv A outer s H E).env (cxOf (L2.CX P w) P w K mg base N qual (defScope st) f cdv A outer s H E).xe →
      ∃ ts, VB K mg (cxOf (L2.CX P w) P w K mg base N qual (defScope st) f cdv A outer s H E) (fun cls d _ H => E cls d H) m (defBody st) ts gf) :
    FnOk P w K mg base (L2.CX P w) (k + 1) f fd ps (SpM K mg (gBody m N.length gf)) := by
  have len := spm_len (K := K) (mg := mg) (N := N) (gf := gf) hm
  refine F.ok S len (fun cdv A outer s H vs Q E hr h => ?_)
  obtain ⟨ts, hv⟩ := hb cdv A outer s H E hr (takes_of rfl rfl rfl rfl) (passes_of rfl)
  have hv := hv rfl rfl
  exact ⟨ts, hv.1, body_ok hv.2 (by rw [len vs H Q E h, hm]; exact Nat.le_refl _) h⟩
theorem binds_all {K : Frag} {x qual : Str} {params : Arguments} {body : List Stmt} {scope : Scope} {dvs : List V} {f : Addr} {fd : FuncData} {ps : List Str} (F : FunD K x qual params body scope dvs [] f fd) (n : Nat) (hd : dvs ≠ []) (hn : n + (dvs.length - dvs.length) = ps.length)
    (h : ∀ (T : Addr) (kV doc pm : Value) (an : Option Addr) (cdv ct : Value) (us its : List Value), us.length = n → its.length = dvs.length →
      ∃ k, bindArgs (PySem.W.fnOf x qual params body scope (.ref T) kV doc pm an cdv ct) ⟨us, []⟩ = seqItems? (.ref T) >>= k ∧ k (some its.toArray) = pure (ps.zip (us ++ its.drop dvs.length))) : Binds K fd ps [] := by
  obtain ⟨ds, hv, hb⟩ := F.binds1 n dvs.length hd hn h
  rw [List.drop_length] at hv
  cases hv
  exact hb
end Gm

/-! Gm14: isinstance of several types, a, b = x, y. -/
namespace Gm
open PySem PySem.Spec PyProof.Rows L2
@[simp] def kIsi2 (t u : String) (x : D) (Γ : Env) : Res D Env := .ok (.bl (isI t x || isI u x)) Γ
def gIsi2 (t u : String) (a : G D) (Γ : Env) : Res D Env := (a Γ).bind (kIsi2 t u)
@[simp] theorem gIsi2_ap (t u : String) (a : G D) (Γ : Env) : gIsi2 t u a Γ = (a Γ).bind (kIsi2 t u) := rfl
section
variable {K : Frag} {mg : Str → Option Value} {X : Cx} {W : WX} {a b e : Expr} {pos p : Pos} {ta tb te : TE} {ga gb : G D} {m : List Bool}
theorem d_isi2 (t u : String) {tn un : Str} (hv : bootBuiltins tn = some (.type t)) (ht : t = "int" ∨ t = "str" ∨ t = "tuple" ∨ t = "list" ∨ t = "bool" ∨ t = "dict") (hv2 : bootBuiltins un = some (.type u)) (hu : u = "int" ∨ u = "str" ∨ u = "tuple" ∨ u = "list" ∨ u = "bool" ∨ u = "dict")
    (hm : mg "isinstance" = none) (hm2 : mg tn = none) (hm3 : mg un = none) (ha : VD K mg X W a ta ga) (hn : tn ≠ "__name__" := by decide) (hdb : (tn == ("__debug__" : Str)) = false := by decide) (hn2 : un ≠ "__name__" := by decide) (hdb2 : (un == ("__debug__" : Str)) = false := by decide)
    (hg : Gl X "isinstance" := by rfl) (hg2 : Gl X tn := by rfl) (hg3 : Gl X un := by rfl) {pt pu pp : Pos} {kk : Nat} (he : starEach [a, .Tuple [.Name tn pt, .Name un pu] kk pp] X.env = (false, eval a X.env) :: starEach [.Tuple [.Name tn pt, .Name un pu] kk pp] X.env := by rfl)
    (he2 : starEach [.Tuple [.Name tn pt, .Name un pu] kk pp] X.env = [(false, eval (.Tuple [.Name tn pt, .Name un pu] kk pp) X.env)] := by rfl) (he3 : starEach [.Name tn pt, .Name un pu] X.env = (false, eval (.Name tn pt) X.env) :: starEach [.Name un pu] X.env := by rfl) (he4 : starEach [.Name un pu] X.env = [(false, eval (.Name un pu) X.env)] := by rfl)
    (hpl : (backTo pos (starEach [.Tuple [.Name tn pt, .Name un pu] kk pp] X.env)).any (·.1) = false := by rfl) :
    VD K mg X W (.Call (.Name "isinstance" p) [a, .Tuple [.Name tn pt, .Name un pu] kk pp] [] pos) (tCB (rIsiT K) (tCons ta (tCons (tTup (tCons (tC (.ty t)) (tCons (tC (.ty u)) tNil))) tNil))) (gIsi2 t u ga) := fun k l => by
  have h := ha k l
  subst k l
  refine ⟨pe_callB call_isiT hg hm boot_isinstance (pa_cons h.1 (pa_cons (pe_tup (pa_cons (pe_bltn hg2 hm2 hv rfl hn hdb) (pa_cons (pe_bltn hg3 hm3 hv2 rfl hn2 hdb2) pa_nil he4) he3)) pa_nil he2) he) (by decide) (by decide) he hpl, fun σ H Γ fp R Q hp => h.2.go R hp fun x Γ1 v H1 fp1 hp R1 a1 s1 => ?_⟩
  refine ⟨(by show 2 ≤ sizeLine; decide), fun q nq => ?_⟩
  have ex := Ext.new (o := HO.tup [.ty t, .ty u]) nq
  refine ⟨v, q, _, _, _, isI t x || isI u x, rfl, upd_same, .cons (.ty t) (.cons (.ty u) .nil), (a1.mono ex.im).ty, ?_, hp _ _ fp1 (R1.ext ex) (.bl _) (s1.trans (Step.ofExt ex))⟩
  refine kitAny_cons (kit_ty (kit_all t ht x)) (fun e1 => ?_) fun e1 => by rw [e1]; rfl
  refine kitAny_cons (kit_ty (kit_all u hu x)) (fun e2 => ?_) fun e2 => by rw [e1, e2]; rfl
  rw [e1, e2]
  exact kitAny_nil
/-! ### a, b = x, y -/
@[simp] def kPar2 (i j : Nat) : List D → Env → Res Fl Env
  | [x, y], Γ => if i < Γ.length ∧ j < Γ.length then .ok .nx ((Γ.set i (some (.d x))).set j (some (.d y))) else .bad
  | _, _ => .bad
def gPar2 (i j : Nat) (a : G (List D)) (Γ : Env) : Res Fl Env := (a Γ).bind (kPar2 i j)
@[simp] theorem gPar2_ap (i j : Nat) (a : G (List D)) (Γ : Env) : gPar2 i j a Γ = (a Γ).bind (kPar2 i j) := rfl
theorem ss_par2 {J : Jc} {i j : Nat} {tl : TA} {gl : G (List D)} (hi : m[i]? ≠ some true) (hj : m[j]? ≠ some true) (hl : EA J tl gl) : SS J m (tPar i j tl) (gPar2 i j gl) := fun σ H Γ fp R D hp =>
  hl σ H Γ fp R _ ((Post.bind hp).imp (fun xs Γ1 q vs H' fp' R' a s => by
    match xs, vs, a, q with
    | [x, y], _, .cons a1 (.cons a2 .nil), q =>
      have q : Post (if i < Γ1.length ∧ j < Γ1.length then Res.ok Fl.nx ((Γ1.set i (some (.d x))).set j (some (.d y))) else Res.bad) (FlP J m σ (U fp) H D) (XxP J m σ (U fp) H) := q
      by_cases c : i < Γ1.length ∧ j < Γ1.length
      · rw [if_pos c] at q
        obtain ⟨fp2, R2, u2⟩ := put_slot R' c.1 (RepO.d a1 (f := fun _ => False) fun _ z => z) fun _ z => z.elim
        obtain ⟨fp3, R3, u3⟩ := put_slot (i := j) R2 (by rw [List.length_set]; exact c.2) (RepO.d a2 (f := fun _ => False) fun _ z => z) fun _ z => z.elim
        exact ⟨_, _, rfl, q _ H' fp3 R3 ((kp_set hi).trans (kp_set hj)) (s.sub fun b z => (u3 b z).elim (fun z => z.elim) fun z => (u2 b z).elim (fun z => z.elim) id)⟩
      · rw [if_neg c] at q; exact q.elim
    | [], _, _, q => exact q.elim
    | [_], _, _, q => exact q.elim
    | _ :: _ :: _ :: _, _, _, q => exact q.elim) fun _ _ z => z.e)
theorem st_par2 (i j : Nat) {x y : Str} {px py pt : Pos} {kt k2 : Nat} {pt2 : Pos} (hc : X.calm = true) (hN : X.N.Nodup) (h1 : VD K mg X W a ta ga) (h2 : VD K mg X W b tb gb) (hij : i ≠ j := by decide) (hmi : m[i]? ≠ some true := by decide) (hmj : m[j]? ≠ some true := by decide) (hi : X.N[i]? = some x := by rfl) (hj : X.N[j]? = some y := by rfl)
    (hx : X.env.scope.names.lookup x = some .local := by rfl) (hy : X.env.scope.names.lookup y = some .local := by rfl) (hs1 : starEach [a, b] X.env = (false, eval a X.env) :: starEach [b] X.env := by rfl) (hs2 : starEach [b] X.env = [(false, eval b X.env)] := by rfl)
    (hw : swappedStores [.Tuple [.Name x px, .Name y py] kt pt] (.Tuple [a, b] k2 pt2) X.env = pure (some [x, y]) := by rfl)
    (hs : swapsWithSole [.Tuple [.Name x px, .Name y py] kt pt] (.Tuple [a, b] k2 pt2) pos.line X.env = pure false := by rfl) :
    VSt K mg X W m (.Assign [.Tuple [.Name x px, .Name y py] kt pt] (.Tuple [a, b] k2 pt2) pos) (tPar i j (tCons ta (tCons tb tNil))) (gPar2 i j (gConsA ga (gConsA gb gNilA))) := fun k l =>
  ⟨ps_par hc hN hi hj hij hx hy (pa_cons (h1 k l).1 (pa_cons (h2 k l).1 pa_nil hs2) hs1) hw hs, ss_par2 hmi hmj (ea_cons (h1 k l).2 (ea_cons (h2 k l).2 ea_nil))⟩
end
@[simp] theorem oNe_bl (a b : Bool) : oNe (.bl a) (.bl b) = some (.bl (a != b)) := by cases a <;> cases b <;> rfl
@[simp] theorem oEq_bl (a b : Bool) : oEq (.bl a) (.bl b) = some (.bl (a == b)) := by cases a <;> cases b <;> rfl
def maskLe : List Bool → List Bool → Bool
  | [], _ => true
  | true :: m, true :: m' => maskLe m m'
  | true :: _, _ => false
  | false :: m, _ :: m' => maskLe m m'
  | false :: m, [] => maskLe m []
theorem mask_le : ∀ {m m' : List Bool}, maskLe m m' = true → ∀ i : Nat, m[i]? = some true → m'[i]? = some true
  | [], _, _, i, h => by simp at h
  | true :: m, true :: m', e, i, h => by
    cases i with
    | zero => rfl
    | succ i => exact mask_le (m := m) (m' := m') e i (by simpa using h)
  | true :: m, false :: m', e, _, _ => by simp [maskLe] at e
  | true :: m, [], e, _, _ => by simp [maskLe] at e
  | false :: m, b :: m', e, i, h => by
    cases i with
    | zero => simp at h
    | succ i => exact mask_le (m := m) (m' := m') (by simpa [maskLe] using e) i (by simpa using h)
  | false :: m, [], e, i, h => by
    cases i with
    | zero => simp at h
    | succ i =>
      have := mask_le (m := m) (m' := []) (by simpa [maskLe] using e) i (by simpa using h)
      simp at this
end Gm

/-! Gm15: plain data (numbers, texts, None, tuples, lists; no truths): == is being the same. -/
namespace Gm
open PySem PySem.Spec PyProof.Rows L2
def Pl : Nat → D → Prop
  | _, .non => True
  | _, .int _ => True
  | _, .str s => SOk 100000 s
  | n + 1, .tup xs => xs.length ≤ 10000 ∧ ∀ x ∈ xs, Pl n x
  | n + 1, .fl xs => xs.length ≤ 10000 ∧ ∀ x ∈ xs, Pl n x
  | _, _ => False
theorem Pl.mono : ∀ {m n : Nat} {x : D}, Pl m x → m ≤ n → Pl n x
  | _, _, .non, _, _ => by simp [Pl]
  | _, _, .int _, _, _ => by simp [Pl]
  | m, n, .str s, h, _ => by simp only [Pl] at *; exact h
  | 0, _, .tup xs, h, _ => by simp [Pl] at h
  | 0, _, .fl xs, h, _ => by simp [Pl] at h
  | m + 1, 0, .tup xs, _, hl => by omega
  | m + 1, 0, .fl xs, _, hl => by omega
  | m + 1, n + 1, .tup xs, h, hl => by
    simp only [Pl] at *
    exact ⟨h.1, fun x hx => Pl.mono (h.2 x hx) (by omega)⟩
  | m + 1, n + 1, .fl xs, h, hl => by
    simp only [Pl] at *
    exact ⟨h.1, fun x hx => Pl.mono (h.2 x hx) (by omega)⟩
  | m, _, .bl b, h, _ => by cases m <;> simp [Pl] at h
  | m, _, .fd, h, _ => by cases m <;> simp [Pl] at h
theorem canAll_of : ∀ {xs : List D}, (∀ x ∈ xs, (toPy x).canLay0 = true) → PyData.canLayAll0 (toPys xs) = true
  | [], _ => by simp [toPys, PyData.canLayAll0]
  | x :: xs, h => by
    simp only [toPys, PyData.canLayAll0, Bool.and_eq_true]
    exact ⟨h x List.mem_cons_self, canAll_of fun y hy => h y (List.mem_cons_of_mem _ hy)⟩
theorem depthAll_of {n : Nat} : ∀ {xs : List D}, (∀ x ∈ xs, (toPy x).depth ≤ n) → PyData.depthAll (toPys xs) ≤ n
  | [], _ => by simp [toPys, PyData.depthAll]
  | x :: xs, h => by
    simp only [toPys, PyData.depthAll]
    have := h x List.mem_cons_self
    have := depthAll_of fun y hy => h y (List.mem_cons_of_mem _ hy)
    omega
theorem Pl.lay : ∀ {n : Nat} {x : D}, Pl n x → (toPy x).canLay0 = true ∧ (toPy x).depth ≤ n + 1
  | _, .non, _ => ⟨by simp [toPy, PyData.canLay0], by simp [toPy, PyData.depth]⟩
  | _, .int _, _ => ⟨by simp [toPy, PyData.canLay0], by simp [toPy, PyData.depth]⟩
  | _, .str s, h => ⟨by simp only [Pl] at h; simp only [toPy, PyData.canLay0]; exact h.1, by simp [toPy, PyData.depth]⟩
  | 0, .tup xs, h => by simp [Pl] at h
  | 0, .fl xs, h => by simp [Pl] at h
  | n + 1, .tup xs, h => by
    simp only [Pl] at h
    refine ⟨by simp only [toPy, PyData.canLay0]; exact canAll_of fun x hx => (Pl.lay (h.2 x hx)).1, ?_⟩
    have := depthAll_of (n := n + 1) fun x hx => (Pl.lay (h.2 x hx)).2
    simp only [toPy, PyData.depth]
    omega
  | n + 1, .fl xs, h => by
    simp only [Pl] at h
    refine ⟨by simp only [toPy, PyData.canLay0]; exact canAll_of fun x hx => (Pl.lay (h.2 x hx)).1, ?_⟩
    have := depthAll_of (n := n + 1) fun x hx => (Pl.lay (h.2 x hx)).2
    simp only [toPy, PyData.depth]
    omega
  | m, .bl b, h => by cases m <;> simp [Pl] at h
  | m, .fd, h => by cases m <;> simp [Pl] at h
theorem Pl.ok {n : Nat} {x : D} (h : Pl n x) (hn : n ≤ 150) : eqOk x = true := by
  unfold eqOk
  rw [h.lay.1, Bool.true_and, decide_eq_true_eq]
  have := h.lay.2
  omega
theorem oEq_ok {x y : D} (hx : eqOk x = true) (hy : eqOk y = true) : oEq x y = some (.bl (eqD x y)) := by
  unfold oEq
  split
  · simp [eqD, toPy, PyData.eqv, Bool.beq_eq_decide_eq]
  · simp [eqD, toPy, PyData.eqv, Bool.beq_eq_decide_eq]
  · rename_i xs
    cases xs <;> simp [eqD, toPy, toPys, PyData.eqv, PyData.eqvAll]
  · rename_i xs
    cases xs <;> simp [eqD, toPy, toPys, PyData.eqv, PyData.eqvAll]
  · rw [hx, hy]; rfl
theorem oNe_ok {x y : D} (hx : eqOk x = true) (hy : eqOk y = true) : oNe x y = some (.bl (!eqD x y)) := by
  unfold oNe
  split
  · simp [eqD, toPy, PyData.eqv, Bool.beq_eq_decide_eq]
  · simp [eqD, toPy, PyData.eqv, Bool.beq_eq_decide_eq]
  · rename_i xs
    cases xs <;> simp [eqD, toPy, toPys, PyData.eqv, PyData.eqvAll]
  · rename_i xs
    cases xs <;> simp [eqD, toPy, toPys, PyData.eqv, PyData.eqvAll]
  · rw [hx, hy]; rfl
theorem any_toPys (x : D) : ∀ ys : List D, ((toPys ys).any fun y => PyData.eqv y (toPy x)) = ys.any fun y => eqD y x
  | [] => rfl
  | y :: ys => by
    rw [toPys, List.any_cons, List.any_cons, any_toPys x ys]
    rfl
theorem oInL_ok {x : D} {ys : List D} (hx : eqOk x = true) (hy : ∀ y ∈ ys, (toPy y).canLay0 = true) : oInL x ys = some (ys.any fun y => eqD y x) := by
  unfold oInL
  rw [hx, canAll_of hy, any_toPys]
  rfl
theorem eqOk_lay {x : D} (h : eqOk x = true) : (toPy x).canLay0 = true := by
  unfold eqOk at h
  rw [Bool.and_eq_true] at h
  exact h.1
/-! ### == is being the same -/
@[simp] theorem eqD_str (a b : Str) : eqD (.str a) (.str b) = decide (a = b) := by simp [eqD, toPy, PyData.eqv, Bool.beq_eq_decide_eq]
@[simp] theorem eqD_int (a b : Int) : eqD (.int a) (.int b) = decide (a = b) := by simp [eqD, toPy, PyData.eqv, Bool.beq_eq_decide_eq]
@[simp] theorem eqD_non : eqD .non .non = true := by simp [eqD, toPy, PyData.eqv]
@[simp] theorem eqD_non_str (a : Str) : eqD .non (.str a) = false := by simp [eqD, toPy, PyData.eqv]
@[simp] theorem eqD_str_non (a : Str) : eqD (.str a) .non = false := by simp [eqD, toPy, PyData.eqv]
@[simp] theorem eqD_int_non (a : Int) : eqD (.int a) .non = false := by simp [eqD, toPy, PyData.eqv]
@[simp] theorem eqD_tup_non (a : List D) : eqD (.tup a) .non = false := by simp [eqD, toPy, PyData.eqv]
@[simp] theorem eqD_non_tup (a : List D) : eqD .non (.tup a) = false := by simp [eqD, toPy, PyData.eqv]
@[simp] theorem eqD_non_int (a : Int) : eqD .non (.int a) = false := by simp [eqD, toPy, PyData.eqv]
@[simp] theorem eqD_tups (x y : D) (xs ys : List D) : eqD (.tup (x :: xs)) (.tup (y :: ys)) = (eqD x y && eqD (.tup xs) (.tup ys)) := by simp [eqD, toPy, toPys, PyData.eqv, PyData.eqvAll]
@[simp] theorem eqD_tup0 : eqD (.tup []) (.tup []) = true := by simp [eqD, toPy, toPys, PyData.eqv, PyData.eqvAll]
@[simp] theorem eqD_tup1 (x : D) (xs : List D) : eqD (.tup (x :: xs)) (.tup []) = false := by simp [eqD, toPy, toPys, PyData.eqv, PyData.eqvAll]
@[simp] theorem eqD_tup2 (x : D) (xs : List D) : eqD (.tup []) (.tup (x :: xs)) = false := by simp [eqD, toPy, toPys, PyData.eqv, PyData.eqvAll]
theorem eqD_self {n : Nat} {x : D} (h : Pl n x) : eqD x x = true := SeqAt.eqv_refl (toPy x) h.lay.1
end Gm

/-! Gm16: texts that are given are unlike where their signs are. -/
namespace Gm
open PySem PySem.Spec PyProof.Rows L2
theorem toNats_inj : ∀ {xs ys : List Char}, xs.map Char.toNat = ys.map Char.toNat → xs = ys
  | [], [], _ => rfl
  | [], _ :: _, h => by cases h
  | _ :: _, [], h => by cases h
  | x :: xs, y :: ys, h => by
    rw [List.map_cons, List.map_cons, List.cons.injEq] at h
    rw [toNats_inj h.2, Char.ext (UInt32.toNat_inj.mp h.1)]
@[simp] theorem ofStr_eq {a b : String} : (PySem.Str.ofString a = PySem.Str.ofString b) ↔ a = b := by
  constructor
  · intro h
    have h1 : (PySem.Str.ofString a).cps.toList = (PySem.Str.ofString b).cps.toList := by rw [h]
    rw [PyProof.Rows.signs_ofString, PyProof.Rows.signs_ofString] at h1
    exact String.toList_inj.mp (toNats_inj h1)
  · rintro rfl
    rfl
@[simp] theorem ofStr_beq (a b : String) : (PySem.Str.ofString a == PySem.Str.ofString b) = (a == b) := by
  rw [Bool.eq_iff_iff, beq_iff_eq, beq_iff_eq, ofStr_eq]
end Gm

/-! Gm17: a caught exception stands in the slot as a thing of one's own; it outlives its suite. -/
namespace Gm
open PySem PySem.Spec PyProof.Rows L2
/-- the heap without the exception's object, then with it: it is tracked from now on -/
theorem keepExc {X : Cx} {pins : List (Addr × Obj)} {σ : St} {H : Hp} {s0 s1 : Shared} {B : Heap} {a C : Addr} {d : Option Addr} {oe : Obj} {vs : Array Value} (J : Inv X pins σ H s0) (nb : ∀ b o, s0.heap.get? b = some o → b ∉ frs X.stack → B.get? b = some o)
    (st : B.StaysIn s1.heap) (hB : B.get? a = none) (up : s0.heap.UpToSlots s1.heap) (hos : s1.os = s0.os) (hag : AllBare s1.gens) (na : H a = none) (he : s1.heap.get? a = some oe) (hz : Zc (.ref C) d oe) (hd : oe.data = .fields vs) :
    Inv X pins σ (upd H a (exa a C d)) s1 := by
  obtain ⟨hp, gs, dr, tk, oo⟩ := s1
  obtain ⟨G, g1, g2⟩ := restrict hp fun b => decide (b ≠ a)
  have gne : ∀ b, b ≠ a → G.get? b = hp.get? b := fun b n => g1 b (decide_eq_true n)
  have gat : G.get? a = none := g2 a (decide_eq_false fun z => z rfl)
  have sub : ∀ b u, G.get? b = some u → hp.get? b = some u := fun b u q => by
    by_cases n : b = a
    · rw [n, gat] at q; cases q
    · rw [← gne b n]; exact q
  have J1 : Inv X pins σ H ⟨G, gs, dr, tk, oo⟩ := J.landed (s' := ⟨G, gs, dr, tk, oo⟩) nb (fun b u q => by
      rw [gne b fun z => by rw [z, hB] at q; cases q]
      exact st b u q) (fun b u q nf => by
      obtain ⟨sl, e⟩ := up b u q nf
      refine ⟨sl, ?_⟩
      rw [gne b fun z => ?_]
      · exact e
      · rw [z] at e
        have z2 : some oe = some { u with slots := sl } := he.symm.trans e
        cases z2
        exact nf vs hd) hos hag
  have new : ObjOk X.prog X.w (upd H a (exa a C d)) hp a (exa a C d) := ⟨⟨oe, vs, he, hz.1, hz.2, hd⟩, ⟨oe, he⟩, fun _ _ ⟨o, v, q, r⟩ k => ⟨o, v, k o q, r⟩⟩
  exact J1.laidN (t' := tk) sub gat na new
theorem toSuite {X : Cx} {pins : List (Addr × Obj)} {σ : St} {H : Hp} {s : Shared} (I : Inv X pins σ H s) (a : Addr) : Inv (X.suite a (X.pn ++ pins)) [] σ H s :=
  ⟨Cx.Ok.suite I.ok a (X.pn ++ pins), I.os, I.bare, I.base, I.loc, I.cell, I.free, I.freeC, fun p hp => I.pin p (by rwa [List.append_nil] at hp), I.hok, I.len⟩
theorem fromSuite {X : Cx} {pins pn2 : List (Addr × Obj)} {σ : St} {H : Hp} {s : Shared} {a : Addr} (I : Inv (X.suite a (X.pn ++ pins)) pn2 σ H s) (ok : X.Ok) : Inv X pins σ H s :=
  ⟨ok, I.os, I.bare, I.base, I.loc, I.cell, I.free, I.freeC, fun p hp => I.pin p (List.mem_append.mpr (.inl hp)), I.hok, I.len⟩
/-- what the clause wishes: the suite has the exception in slot i, and may keep it -/
def wKeep (K : Frag) (c : Value) (i : Nat) (ts : TS) (Wo : WX) (D : Ends) : WX := fun cls d σ H =>
  ∃ b, PySem.W.exmOne K cls c = some b ∧ (b = true → ∃ C, cls = .ref C ∧ ∀ a, H a = none → ts { nx := fun σ' H' => D.nx (σ'.set i none) H', rt := D.rt, bk := fun σ' H' => D.bk (σ'.set i none) H', ct := fun σ' H' => D.ct (σ'.set i none) H' } (σ.set i (some (.ref a))) (upd H a (exa a C d))) ∧
    (b = false → Wo cls d σ H)
section
variable {X : Cx} {x n : Str} {c : Value} {i : Nat} {bod su : List Stmt} {s₀ : Stmt} {np p1 p2 : Pos} {tb : WX → TS} {ts : TS} {Wo : WX}
theorem ps_keep (hst : X.stack = X.env :: X.outer) (hfm : X.env.frame = some X.env.locals) (hnd : X.N.Nodup) (hin : X.N[i]? = some n) (hlo : X.env.kindOf n = some .local) (hnm : Names X x c) (tko : Takes X Wo)
    (hbo : ∀ (W : WX) (pn : List (Addr × Obj)) (xe : Value → Shared → Prop), Takes (X.tr pn xe) W → PassesOwn (model X.prog X.w) X.A X.env xe → PSs (X.tr pn xe) bod (tb W)) (hsu : ∀ (a : Addr) (pn : List (Addr × Obj)), PSs (X.suite a pn) (s₀ :: su) ts) :
    PS X (.Try bod [.ExceptHandler (some (.Name x np)) (some n) (s₀ :: su) p1] [] [] p2) (fun D σ H => tb (wKeep X.K c i ts Wo D) D σ H) := by
  refine ⟨fun pins s σ H D I hyp => ?_⟩
  have okX := I.ok
  have fr0 : X.A.frames = some (X.env :: X.outer) := okX.frames.trans (congrArg some hst)
  refine wpAny_Try_except (wpAny_mono ((hbo (wKeep X.K c i ts Wo D) (X.pn ++ pins)
    (fun e t₁ => wpAny (model X.prog X.w) X.A (noteFrame e X.env) (fun _ t₂ => wpAny (model X.prog X.w) X.A (setFlight e none) (fun _ t₃ => wpAny (model X.prog X.w) X.A (handleBy e X.env [.ExceptHandler (some (.Name x np)) (some n) (s₀ :: su) p1]) (SP X pins D) X.xe t₃) X.xe t₂) X.xe t₁)
    (fun u t air => ?_) PassesOwn.looking).run [] s σ H D (I.toTry _) hyp) (fun fl t done => ?_) fun _ _ z => z)
  · obtain ⟨a, B, t0, pins1, σ1, H1, cls, d, rfl, I1, nb, up, sky, na, hos, hag, b, hb, hyes, hno⟩ := air
    have J : Inv X pins σ1 H1 t0 := Inv.ofTry I1 okX
    rw [show (Cx.tr X (X.pn ++ pins) _).stack = X.env :: X.outer from hst] at sky
    show wpAny (model X.prog X.w) X.A (noteFrame (.ref a) X.env) _ _ _
    refine Sky.land Zc.steady fr0 hfm sky fun h1 fly1 up1 => ?_
    obtain ⟨o1, vs1, ho1, hz1, hd1⟩ := fly1.there
    have I3 : Inv X pins σ1 H1 { t with heap := h1 } := J.landed nb fly1.1 (up.trans up1) hos hag
    have off : a ∉ frs (X.env :: X.outer) := fun hm => by
      obtain ⟨_, o2, q2, nf⟩ := fly1.2.2.1.mem hm
      rw [ho1] at q2
      cases q2
      exact nf _ hd1
    have offL : a ≠ X.env.locals := fun z => off (List.mem_filterMap.mpr ⟨_, List.mem_cons_self, by rw [hfm, z]⟩)
    have offF : a ∉ X.fs := fun hm => by
      obtain ⟨v, hv, q⟩ := List.mem_filterMap.mp hm
      exact off (List.mem_filterMap.mpr ⟨v, List.mem_cons_of_mem _ hv, q⟩)
    have T3 := I3.suite ho1 hd1 na offL offF
    have looks : PySem.W.Looks (model X.prog X.w) h1 (typeOf (.ref a)) cls := fun _ _ _ _ k q => wpAny_typeOf_ref (k _ _ ho1) (hz1.1 ▸ q)
    have asks := PySem.W.exm_one (M := model X.prog X.w) I3.kIn looks hb
    refine wpAny_handleBy_cons (codeAny_handlers_test ?_) (fun q => by cases q)
    have named : ∀ {Q : Value → Shared → Prop} {E : Value → Shared → Prop}, Q c { t with heap := h1 } → wpAny (model X.prog X.w) (X.A.mark (some (.ref a))) (eval (.Name x np) X.env) Q E { t with heap := h1 } := fun {Q E} q => by
      obtain ⟨q1, q2, q3⟩ := hnm
      rcases q3 with q3 | ⟨q3, q4, q5⟩
      · exact ld_glob (X := X.suite a ((a, o1) :: (X.pn ++ pins))) T3 q1 q3 q q2
      · exact ld_blt (X := X.suite a ((a, o1) :: (X.pn ++ pins))) T3 q1 q3 q4 q q5 q2
    refine named (asks.here ?_)
    cases b with
    | false =>
      show wpAny _ X.A (handleBy (.ref a) X.env []) _ _ _
      refine wpAny_handleBy_nil ?_
      obtain ⟨_, _, _, o2, vs2, T, _, _, ho2, _, hd2, hv1, _⟩ := id fly1
      unfold PySem.passOn
      refine wpAny_bind (wpAny_field ho2 hd2 hv1 ?_)
      rw [if_neg (show ¬ ((Value.ref T == Value.none) = true) by simp)]
      have on : wpAny (model X.prog X.w) X.A (setFlight (.ref a) X.env.frame) (fun _ t4 => wpAny (model X.prog X.w) X.A (throw (.ref a) : Sem Flow) (SP X pins D) X.xe t4) X.xe { t with heap := h1 } := by
        rw [hfm]
        refine HandSPX.setFlight_upZ fly1 fun h2 held up2 => wpAny_throw (tko _ _ ⟨a, B, t0, pins, σ1, H1, cls, d, rfl, J, nb, (up.trans up1).trans up2, .inr (.inr ?_), na, hos, hag, hno rfl⟩)
        rw [hst]
        exact held
      first
        | exact wpAny_bind (wpAny_pure (wpAny_bind on))
        | exact wpAny_bind on
    | true =>
      obtain ⟨C, rfl, wish⟩ := hyes rfl
      refine codeAny_handlers_suite_as (HandSPX.lands_againZ fly1 fun h2 fly2 up2 => ?_)
      obtain ⟨o2, vs2, ho2, hz2, hd2⟩ := fly2.there
      have I4 : Inv X pins σ1 (upd H1 a (exa a C d)) { t with heap := h2 } := keepExc J nb fly2.1 fly2.2.1 ((up.trans up1).trans up2) hos hag na ho2 hz2 hd2
      refine store_ok (X := X.suite a (X.pn ++ pins)) (v := .ref a) (toSuite I4 a) hnd hin (.inl hlo) rfl (fun t5 I5 => ?_) (.inr hlo)
      refine wpAny_mono ((hsu a (X.pn ++ pins)).run [] t5 _ _ _ I5 (wish a na)) (fun fl t6 fin => ?_) fun _ _ z => False.elim z
      have goes : ∀ {σ6 : St} {H6 : Hp} {Q : Shared → Prop}, Inv (X.suite a (X.pn ++ pins)) [] σ6 H6 t6 → (∀ t7, Inv X pins (σ6.set i none) H6 t7 → Q t7) → wpAny (model X.prog X.w) X.A (do bindName X.env n .none; unbindBehindTheSuite X.env n p1) (fun _ t7 => Q t7) X.xe t6 :=
        fun {_ _ _} I6 hq => gone_ok (fromSuite I6 okX) hnd hin hlo hq
      cases fl with
      | next =>
        obtain ⟨_, _, I6, q6⟩ := fin
        exact goes I6 fun _ I7 => ⟨_, _, I7, q6⟩
      | brk =>
        obtain ⟨_, _, I6, q6⟩ := fin
        exact goes I6 fun _ I7 => ⟨_, _, I7, q6⟩
      | cont =>
        obtain ⟨_, _, I6, q6⟩ := fin
        exact goes I6 fun _ I7 => ⟨_, _, I7, q6⟩
      | ret u =>
        obtain ⟨_, _, _, I6, r6, q6⟩ := fin
        exact goes I6 fun _ I7 => ⟨_, _, _, I7, r6, q6⟩
  · cases fl with
    | next =>
      obtain ⟨_, _, I2, q⟩ := done
      exact wpAny_execs_nil ⟨_, _, Inv.ofTry I2 okX, q⟩
    | brk =>
      obtain ⟨_, _, I2, q⟩ := done
      exact ⟨_, _, Inv.ofTry I2 okX, q⟩
    | cont =>
      obtain ⟨_, _, I2, q⟩ := done
      exact ⟨_, _, Inv.ofTry I2 okX, q⟩
    | ret u =>
      obtain ⟨_, _, _, I2, r, q⟩ := done
      exact ⟨_, _, _, Inv.ofTry I2 okX, r, q⟩
end
end Gm

/-! Gm18: raise, try, isinstance and fields of caught exceptions. -/
namespace Gm
open PySem PySem.Spec PyProof.Rows L2
/-! ### what the text must say of exception classes -/
/-- an exception class of the program -/
structure ExcI (K : Frag) (C : Addr) : Prop where
  hcl : (PySem.W.clsIn K C).isSome = true
  hga : PySem.W.findIn K (.ref C) "__getattribute__" = some (some (.builtin "BaseException.__getattribute__"))
  hgt : PySem.W.findIn K (.ref C) "__getattr__" = some none
  hsb : PySem.W.subIn K (.ref C) (.type "BaseException") = some true
  hca : PySem.W.findIn K (.ref C) "__class__" = some (some (.builtin "object.__class__"))
  hsn : PySem.W.specialIn K (.builtin "object.__class__") "__get__" = some (some (.builtin "getset_descriptor.__get__"))
  htk : PySem.W.takesIn K (.builtin "object.__class__") = some true
  hmr : PySem.W.mroIn K C (.type "object") = some true
  hdc : PySem.W.hasDictIn K C = true
  hty : PySem.W.typeIn K (.ref C) = some (.type "type")
  hke : PySem.W.keepIn K (.ref C) = true
def excIB (K : Frag) (C : Addr) : Bool := (PySem.W.clsIn K C).isSome && (decide (PySem.W.findIn K (.ref C) "__getattribute__" = some (some (.builtin "BaseException.__getattribute__"))) && (decide (PySem.W.findIn K (.ref C) "__getattr__" = some none) &&
  (decide (PySem.W.subIn K (.ref C) (.type "BaseException") = some true) && (decide (PySem.W.findIn K (.ref C) "__class__" = some (some (.builtin "object.__class__"))) && (decide (PySem.W.specialIn K (.builtin "object.__class__") "__get__" = some (some (.builtin "getset_descriptor.__get__"))) &&
  (decide (PySem.W.takesIn K (.builtin "object.__class__") = some true) && (decide (PySem.W.mroIn K C (.type "object") = some true) && (PySem.W.hasDictIn K C && (decide (PySem.W.typeIn K (.ref C) = some (.type "type")) && PySem.W.keepIn K (.ref C))))))))))
theorem excIB_ok {K : Frag} {C : Addr} (h : excIB K C = true) : ExcI K C := by
  unfold excIB at h
  simp only [Bool.and_eq_true, decide_eq_true_eq] at h
  obtain ⟨a, b, c, d, e, f, g, i, j, k, l⟩ := h
  exact ⟨a, b, c, d, e, f, g, i, j, k, l⟩
/-- the classes of that name -/
def nmOf (K : Frag) (n : Str) : Option Addr := match PySem.W.nsIn K mainGlobals n with
  | some (some (.ref C)) => some C
  | _ => none
theorem nmOf_iff {K : Frag} {n : Str} {C : Addr} : nmOf K n = some C ↔ NmC K n C := by
  unfold nmOf NmC
  split
  · rename_i D e
    rw [e]
    simp
  · rename_i e
    constructor
    · intro h; cases h
    · intro h; exact (e _ h).elim
def allB (K : Frag) (all : List Str) : Bool := all.all fun n => match nmOf K n with | some C => excIB K C | none => false
/-- all exceptions that may come -/
def XAll (K : Frag) (all : List Str) : Prop := ∀ n ∈ all, ∃ C, NmC K n C ∧ ExcI K C
theorem allB_ok {K : Frag} {all : List Str} (h : allB K all = true) : XAll K all := fun n hn => by
  have := List.all_eq_true.mp h n hn
  cases e : nmOf K n with
  | none => rw [e] at this; cases this
  | some C => rw [e] at this; exact ⟨C, nmOf_iff.mp e, excIB_ok this⟩
/-- what a name of a class means -/
def ClsV (mg : Str → Option Value) (t : Str) (cv : Value) : Prop := mg t = some cv ∨ (mg t = none ∧ bootBuiltins t = some cv ∧ t ≠ "__name__")
theorem ClsV.uniq {mg : Str → Option Value} {t : Str} {u v : Value} (a : ClsV mg t u) (b : ClsV mg t v) : u = v := by
  rcases a with a | ⟨a, c, _⟩ <;> rcases b with b | ⟨b, d, _⟩
  · rw [a] at b; exact Option.some.inj b
  · rw [a] at b; cases b
  · rw [a] at b; cases b
  · rw [c] at d; exact Option.some.inj d
/-- which of all are of a class -/
structure XT (K : Frag) (mg : Str → Option Value) (all : List Str) (t : Str) (yes : List Str) : Prop where
  ex : ∃ (cv : Value) (vv : V), ClsV mg t cv ∧ RelV vv cv ∧ (∀ u, RelV vv u → u = cv) ∧ ∀ n ∈ all, ∀ C, NmC K n C → PySem.W.kitOne K (.ref C) cv = some (decide (n ∈ yes)) ∧ PySem.W.exmOne K (.ref C) cv = some (decide (n ∈ yes))
def xtB (K : Frag) (all : List Str) (cv : Value) (yes : List Str) : Bool := all.all fun n => match nmOf K n with
  | some C => decide (PySem.W.kitOne K (.ref C) cv = some (decide (n ∈ yes))) && decide (PySem.W.exmOne K (.ref C) cv = some (decide (n ∈ yes)))
  | none => false
theorem xtB_ok {K : Frag} {all : List Str} {cv : Value} {yes : List Str} (h : xtB K all cv yes = true) : ∀ n ∈ all, ∀ C, NmC K n C → PySem.W.kitOne K (.ref C) cv = some (decide (n ∈ yes)) ∧ PySem.W.exmOne K (.ref C) cv = some (decide (n ∈ yes)) := fun n hn C hc => by
  have := List.all_eq_true.mp h n hn
  rw [nmOf_iff.mpr hc] at this
  simpa [Bool.and_eq_true] using this
theorem xt_own {K : Frag} {mg : Str → Option Value} {all yes : List Str} {t : Str} {C : Addr} (hm : mg t = some (.ref C)) (h : xtB K all (.ref C) yes = true) : XT K mg all t yes :=
  ⟨.ref C, .ref C, .inl hm, rfl, fun _ hu => hu, xtB_ok h⟩
theorem xt_bi {K : Frag} {mg : Str → Option Value} {all yes : List Str} {t : Str} {T : String} (hm : mg t = none) (hb : bootBuiltins t = some (.type T)) (hn : t ≠ "__name__") (h : xtB K all (.type T) yes = true) : XT K mg all t yes :=
  ⟨.type T, .ty T, .inr ⟨hm, hb, hn⟩, rfl, fun _ hu => hu, xtB_ok h⟩
/-- the table: of those that may come, which are meant -/
def subX (all yes : List Str) (n : Str) : Option Bool := if n ∈ all then some (decide (n ∈ yes)) else none
/-- no class has that field itself -/
def XF (K : Frag) (all : List Str) (f : Str) : Prop := ∀ n ∈ all, ∀ C, NmC K n C → PySem.W.findIn K (.ref C) f = some none
def xfieldB (K : Frag) (all : List Str) (f : Str) : Bool := all.all fun n => match nmOf K n with | some C => decide (PySem.W.findIn K (.ref C) f = some none) | none => false
theorem xfieldB_ok {K : Frag} {all : List Str} {f : Str} (h : xfieldB K all f = true) : XF K all f := fun n hn C hc => by
  have := List.all_eq_true.mp h n hn
  rw [nmOf_iff.mpr hc] at this
  simpa using this
/-! ### raising -/
/-- raise X("..") -/
def gRaise (c : Str) (Γ : Env) : Res Fl Env := .ex ⟨c, none⟩ Γ
@[simp] theorem gRaise_ap (c : Str) (Γ : Env) : gRaise c Γ = .ex ⟨c, none⟩ Γ := rfl
/-- the number may be told in the message -/
def tellOk (z : Str) (i : Int) : Bool := decide (i.natAbs.log2 < 1920) && (oAdd (.str z) (.str (toString i))).isSome
@[simp] def kRaiseI (c f z : Str) : D → Env → Res Fl Env
  | .int i, Γ => if tellOk z i then .ex ⟨c, some (f, i)⟩ Γ else .bad
  | _, _ => .bad
/-- raise X(i), X keeping it in a field -/
def gRaiseI (c f z : Str) (a : G D) (Γ : Env) : Res Fl Env := (a Γ).bind (kRaiseI c f z)
@[simp] theorem gRaiseI_ap (c f z : Str) (a : G D) (Γ : Env) : gRaiseI c f z a Γ = (a Γ).bind (kRaiseI c f z) := rfl
/-- an exception class without an __init__ of its own -/
structure ExcS (K : Frag) (mg : Str → Option Value) (n : Str) : Prop where
  ex : ∃ C bm newId, NmC K n C ∧ mg n = some (.ref C) ∧ PySem.W.excIn K C bm newId = true ∧ ExcI K C ∧ ∃ B initId, ExcBaseFacts B newId initId bm
theorem excS_mk {K : Frag} {mg : Str → Option Value} {n : Str} {C : Addr} {bm : List Value} {B newId initId : String} (F : ExcBaseFacts B newId initId bm) (h1 : NmC K n C) (h2 : mg n = some (.ref C)) (h3 : PySem.W.excIn K C bm newId = true) (h4 : excIB K C = true) : ExcS K mg n := ⟨C, bm, newId, h1, h2, h3, excIB_ok h4, B, initId, F⟩
section
variable {K : Frag} {mg : Str → Option Value} {X : Cx} {W : WX} {a b e : Expr} {pos p p2 : Pos} {ta te : TE} {ga : G D} {m : List Bool}
/-- reading of raise X("..") -/
def tRs (K : Frag) (W : WX) (n : Str) : TS := fun _ σ H => ∀ C, NmC K n C → W (.ref C) none σ H
theorem st_raise {x z : Str} {p3 : Pos} (S : ExcS K mg x) (hc : X.calm = true) (tk : Takes X W) (hg : Gl X x := by rfl) (hdb : (x == ("__debug__" : Str)) = false := by decide) {jj : Nat} :
    VSt K mg X W m (.Raise (some (.Call (.Name x p) [.Constant (.str z) jj p2] [] pos)) none p3) (tRs K W x) (gRaise x) := fun k1 k2 => by
  obtain ⟨C, bm, newId, q1, q2, q3, q4, B, initId, F⟩ := S.ex
  subst k1 k2
  have ps := ps_raise (pos := p3) hc tk (pmk_own (pos := pos) (p := p) (p2 := p2) (m := z) (j := jj) F q3 q2 q4.hke (raises_own q4.hsb q4.hty) hg hdb)
  refine ⟨⟨fun pins s σ H D I h => ps.run pins s σ H D I (h C q1)⟩, fun σ H Γ fp R D hp C' hC => ?_⟩
  exact hp (.ref C') none σ H fp R (Kp.refl _ _) ⟨⟨C', rfl, hC⟩, rfl⟩ (Step.refl _ _)
/-- what X's own __init__ does -/
def spInit (C : Addr) (f z : Str) : Sp := fun vs H Q _ => ∃ (x : Addr) (i : Int), vs = [.ref x, .int i] ∧ tellOk z i = true ∧ H x = some (exo x C none) ∧ ∀ H', Ext H H' → ∀ d, H' d = none → d ≠ x → Q .non (upd (upd H' d (exd d [(f, .int i)])) x (exo x C (some d)))
/-- an exception class whose __init__ keeps one number in a field -/
structure ExcN (K : Frag) (mg : Str → Option Value) (P : Program) (w : World) (base : Heap) (n f z : Str) (k : Nat) : Prop where
  ex : ∃ (C fI : Addr) (fd : FuncData) (ps : List Str), NmC K n C ∧ mg n = some (.ref C) ∧ OexC K C ∧ PySem.W.findIn K (.ref C) "__init__" = some (some (.ref fI)) ∧ PySem.W.typeIn K (.ref fI) = some (.type "function") ∧ FnOk P w K mg base (L2.CX P w) k fI fd ps (spInit C f z) ∧ Binds K fd ps []
/-- reading of raise X(i) -/
def tRsI (K : Frag) (W : WX) (n f z : Str) (te : TE) : TS := fun _ σ H => ∀ C, NmC K n C → tMkO C (spInit C f z) [] (tCons te tNil) σ H fun cls d H' => W cls d σ H'
theorem del_ext {H H' : Hp} {x d : Addr} {o u v w : HO} (nx : H x = none) (nd : H' d = none) (e : Ext (upd H x o) H') : Ext H (upd (L2.del (upd (upd H' d u) x v) x) d w) := fun b y h => by
  have n1 : b ≠ x := fun z => by rw [z, nx] at h; cases h
  have h' : H' b = some y := e b y (by rw [upd_ne n1]; exact h)
  have n2 : b ≠ d := fun z => by rw [z, nd] at h'; cases h'
  rw [upd_ne n2, L2.del_ne n1, upd_ne n1, upd_ne n2]
  exact h'
theorem ss_raiseI {J : Jc} {n f z : Str} (ha : ED J te ga) : SS J m (tRsI J.K J.W n f z te) (gRaiseI n f z ga) := fun σ H Γ fp R D hp C hC => by
  refine ha σ H Γ fp R _ ((Post.bind hp).imp (fun y Γ1 hp v H1 fp1 R1 a1 s1 => ?_) fun _ _ z => z.e)
  cases a1 with
  | int i =>
    have hp : Post (if tellOk z i then Res.ex ⟨n, some (f, i)⟩ Γ1 else .bad) (FlP J m σ (U fp) H D) (XxP J m σ (U fp) H) := hp
    by_cases c : tellOk z i = true
    · rw [if_pos c] at hp
      refine ⟨by simp, fun x nx => ⟨x, i, rfl, c, upd_same, fun H' eH d nd hd => ?_⟩⟩
      have nd1 : H1 d = none := by
        cases q : H1 d with
        | none => rfl
        | some o =>
          have := eH d o (by rw [upd_ne hd]; exact q)
          rw [nd] at this
          cases this
      refine ⟨rfl, d, [(f, .int i)], upd_same, by rw [upd_ne hd, upd_same], nd1, ?_⟩
      have ex := del_ext (u := exd d [(f, .int i)]) (v := exo x C (some d)) (w := .xd [(f, .int i)]) nx nd eH
      exact hp (.ref C) (some d) σ _ fp1 (R1.ext ex) (Kp.refl _ _) ⟨⟨C, rfl, hC⟩, d, rfl, upd_same⟩ (s1.trans (Step.ofExt ex))
    · rw [if_neg c] at hp; exact hp.elim
  | _ => exact hp.elim
theorem st_raiseI {x f z : Str} {k j : Nat} (S : ExcN K mg X.prog X.w X.base x f z j) (hr : Room k X.A) (hj : j + 1 ≤ k) (hc : X.calm = true) (tk : Takes X W) (h : VD K mg X W e te ga) (hg : Gl X x := by rfl) (hdb : (x == ("__debug__" : Str)) = false := by decide)
    (he : starEach [e] X.env = (false, eval e X.env) :: starEach [] X.env := by rfl) (hpl : (backTo pos (starEach [] X.env)).any (·.1) = false := by rfl) :
    VSt K mg X W m (.Raise (some (.Call (.Name x p) [e] [] pos)) none p2) (tRsI K W x f z te) (gRaiseI x f z ga) := fun k1 k2 => by
  obtain ⟨C, fI, fd, ps, q1, q2, q3, q4, q5, q6, q7⟩ := S.ex
  have hh := h k1 k2
  subst k1 k2
  have st := ps_raise (pos := p2) hc tk (pmk_oex (CX := L2.CX X.prog X.w) (pos := pos) (p := p) q3 q4 q5 q6 (hr.mono hj) q7 (dvs := []) .nil passL hg q2 (pa_cons hh.1 pa_nil he) hdb he hpl)
  exact ⟨⟨fun pins s σ H D I y => st.run pins s σ H D I (y C q1)⟩, ss_raiseI hh.2⟩
/-! ### X's __init__: R.__init__(self, ..), self.f = i -/
/-- R, a class that finds ValueError's __init__ -/
structure ExcR (K : Frag) (mg : Str → Option Value) (r : Str) : Prop where
  ex : ∃ (C : Addr) (mc : Value), mg r = some (.ref C) ∧ ClX.CRead K C mc ∧ PySem.W.findCls K (.ref C) mc "__init__" = some (.val (.builtin "ValueError.__init__"))
theorem pe_rinit {es : List Expr} {tl : TA} {r : Str} {p1 p3 : Pos} {pl : Sem Bool} (S : ExcR X.K X.mg r) (ha : PA X (e :: es) tl) (hg : Gl X r := by rfl) (hdb : (r == ("__debug__" : Str)) = false := by decide)
    (hc : eval (.Call (.Attribute (.Name r p1) "__init__" p3) (e :: es) [] pos) X.env = (do
      let cv ← eval (.Name r p1) X.env
      standAt p3.atName
      let (g, one) ← holding [cv] (getMethod cv "__init__" pl)
      callWith pos g one (backTo pos (starEach (e :: es) X.env)) (backToKw pos (keywordEach [] X.env))) := by rfl)
    (he : starEach (e :: es) X.env = (false, eval e X.env) :: starEach es X.env := by rfl) (hpl : (backTo pos (starEach es X.env)).any (·.1) = false := by rfl) :
    PE X (.Call (.Attribute (.Name r p1) "__init__" p3) (e :: es) [] pos) (tVeI X.K tl) := by
  obtain ⟨C, mc, q1, q2, q3⟩ := S.ex
  refine ⟨fun pins s σ H Q I y => PySem.W.methodCall_KW (ld_glob I hg q1 ?_ hdb) hc⟩
  refine PySem.W.method_cls I.kIn q2.ga (PySem.W.cls_value I.kIn q2.rd q3 rfl ?_)
  show wpAny _ _ (callWith pos (Value.builtin "ValueError.__init__") [] (backTo pos (starEach (e :: es) X.env)) []) _ _ _
  refine PyProof.Rows.callWith_method1 (thn (ha.run pos pins _ σ H _ (I.tok _) y) fun us s1 ⟨vs, H1, I1, rv, x, D, ws, ev, hl, T, hx, q⟩ => ?_) he hpl
  subst ev
  cases rv with
  | @cons _ u0 _ ur r1 r2 =>
    obtain rfl : u0 = Value.ref x := r1
    exact oinit_ok T I1 hx (by rw [← Paired.length r2, sizeLine_eq]; omega) fun s' J => ⟨.non, H1, J, rfl, q⟩
end
theorem exInit_ok {P : Program} {w : World} {K : Frag} {mg : Str → Option Value} {base : Heap} {qual z f0 : Str} {st : Stmt} {f C : Addr} {fd : FuncData} {a1 a2 : Str} {k : Nat} (F : Fun K "__init__" qual st f fd) (S : FnScope [a1, a2] [a1, a2] (defScope st)) (T : OexC K C) (hn : PySem.W.findIn K (.ref C) f0 = some none)
    (hb : ∀ (cdv : Value) (A : Around) (outer : List PySem.Env) (s : Shared) (H : Hp) (E : XK), Room k (A.deeper (envOfC qual (defScope st) s.heap.objs.size f cdv)) →
      ∃ te, PSs (cxOf (L2.CX P w) P w K mg base [a1, a2] qual (defScope st) f cdv A outer s H E) (defBody st) (tSeq (tDrop (tVeI K (tCons (tVar 0) (tCons te tNil)))) (tOst K f0 (tVar 0) (tVar 1))) ∧ ED (jc K mg fun _ _ _ _ => False) te (g2 oAdd (gC (.str z)) (gCal oStrI (gConsA (gVar 1) gNilA)))) :
    FnOk P w K mg base (L2.CX P w) (k + 1) f fd [a1, a2] (spInit C f0 z) := by
  refine F.okX S (fun vs H Q E ⟨x, i, e, _⟩ => by rw [e]; rfl) (fun cdv A outer s H vs Q E hr h => ?_)
  obtain ⟨te, hp, he⟩ := hb cdv A outer s H E hr
  refine ⟨_, hp, ?_⟩
  obtain ⟨x, i, rfl, c, hx, q⟩ := h
  unfold tellOk at c
  rw [Bool.and_eq_true, decide_eq_true_eq] at c
  obtain ⟨y, hy⟩ := Option.isSome_iff_exists.mp c.2
  have R : Rel K H [some (.ref x), some (.int i)] [none, some (.d (.int i))] (fun _ _ => False) := by
    refine ⟨rfl, fun j o e => ?_, fun _ _ _ z => z.elim, fun _ _ z => z.elim⟩
    match j, e with
    | 1, e => cases e; exact ⟨_, rfl, .d (.int i) fun _ z => z⟩
  refine ⟨.ref x, rfl, he _ H _ _ R _ ?_⟩
  have ev : (g2 oAdd (gC (.str z)) (gCal oStrI (gConsA (gVar 1) gNilA))) [none, some (.d (.int i))] = .ok y [none, some (.d (.int i))] := by
    rw [show (Res.ok y [none, some (Ob.d (D.int i))] : Res D Env) = ofOpt (some y) [none, some (Ob.d (D.int i))] from rfl, ← hy]
    simp [c.1]
  rw [ev]
  intro v H1 fp1 R1 a1 s1
  have hx1 : H1 x = some (exo x C none) := s1.keep x _ hx fun ⟨_, z⟩ => z.elim
  have ext : Ext H H1 := fun b o h => s1.keep b o h fun ⟨_, z⟩ => z.elim
  exact ⟨x, C, [v], rfl, by simp, T, hx1, .int i, rfl, .ref x, rfl, x, C, rfl, T, hn, .inl ⟨hx1, fun d nd dx => q H1 ext d nd dx⟩⟩
end Gm

/-! Gm19: try, isinstance and fields of caught exceptions. -/
namespace Gm
open PySem PySem.Spec PyProof.Rows L2
/-! ### try -/
@[simp] def kTryS (i : Nat) : Res Fl Env → Res Fl Env
  | .ok fl Γ => .ok fl (Γ.set i none)
  | _ => .bad
@[simp] def kTry2 (i : Nat) (gs : G Fl) (x : Ex) (Γ : Env) : Option Bool → Res Fl Env
  | some true => if i < Γ.length then kTryS i (gs (Γ.set i (some (.exc x)))) else .bad
  | some false => .ex x Γ
  | none => .bad
@[simp] def kTry (c : Str → Option Bool) (i : Nat) (gs : G Fl) : Res Fl Env → Res Fl Env
  | .ok fl Γ => .ok fl Γ
  | .ex x Γ => kTry2 i gs x Γ (c x.cls)
  | .bad => .bad
/-- try: .. except X as n: .. -/
def gTry (c : Str → Option Bool) (i : Nat) (gb gs : G Fl) (Γ : Env) : Res Fl Env := kTry c i gs (gb Γ)
@[simp] theorem gTry_ap (c : Str → Option Bool) (i : Nat) (gb gs : G Fl) (Γ : Env) : gTry c i gb gs Γ = kTry c i gs (gb Γ) := rfl
@[simp] def kTryN2 (gs : G Fl) (x : Ex) (Γ : Env) : Option Bool → Res Fl Env
  | some true => match gs Γ with
    | .ok fl Γ => .ok fl Γ
    | _ => .bad
  | some false => .ex x Γ
  | none => .bad
@[simp] def kTryN (c : Str → Option Bool) (gs : G Fl) : Res Fl Env → Res Fl Env
  | .ok fl Γ => .ok fl Γ
  | .ex x Γ => kTryN2 gs x Γ (c x.cls)
  | .bad => .bad
/-- try: .. except X: .. -/
def gTryN (c : Str → Option Bool) (gb gs : G Fl) (Γ : Env) : Res Fl Env := kTryN c gs (gb Γ)
@[simp] theorem gTryN_ap (c : Str → Option Bool) (gb gs : G Fl) (Γ : Env) : gTryN c gb gs Γ = kTryN c gs (gb Γ) := rfl
theorem subX_ok {K : Frag} {all yes : List Str} {cv : Value} (h : ∀ n ∈ all, ∀ C, NmC K n C → PySem.W.kitOne K (.ref C) cv = some (decide (n ∈ yes)) ∧ PySem.W.exmOne K (.ref C) cv = some (decide (n ∈ yes))) {n : Str} {b : Bool} {C : Addr} (e : subX all yes n = some b) (hC : NmC K n C) :
    PySem.W.kitOne K (.ref C) cv = some b ∧ PySem.W.exmOne K (.ref C) cv = some b := by
  unfold subX at e
  split at e
  · rename_i hn
    cases e
    exact h n hn C hC
  · cases e
section
variable {K : Frag} {mg : Str → Option Value} {W : WX} {m : List Bool} {all yes : List Str} {cv : Value} {i : Nat} {tb : WX → TS} {ts : TS} {gb gs : G Fl}
theorem ss_try (hT : ∀ n ∈ all, ∀ C, NmC K n C → PySem.W.kitOne K (.ref C) cv = some (decide (n ∈ yes)) ∧ PySem.W.exmOne K (.ref C) cv = some (decide (n ∈ yes))) (hm : m[i]? ≠ some true) (hb : ∀ W', SS (jc K mg W') m (tb W') gb) (hs : SS (jc K mg fun _ _ _ _ => False) m ts gs) :
    SS (jc K mg W) m (fun D σ H => tb (wKeep K cv i ts W D) D σ H) (gTry (subX all yes) i gb gs) := fun σ H Γ fp R D hp => by
  refine hb (wKeep K cv i ts W D) σ H Γ fp R D ?_
  unfold gTry at hp
  cases e : gb Γ with
  | bad => rw [e] at hp; exact hp.elim
  | ok fl Γ1 => rw [e] at hp; exact hp
  | ex x Γ1 =>
    rw [e] at hp
    simp only [kTry] at hp
    intro cls d σ1 H1 fp1 R1 k1 e1 s1
    obtain ⟨⟨C, rfl, nc⟩, pay⟩ := e1
    cases ec : subX all yes x.cls with
    | none => rw [ec] at hp; exact hp.elim
    | some b =>
      rw [ec] at hp
      refine ⟨b, (subX_ok hT ec nc).2, fun hb => ⟨C, rfl, fun a na => ?_⟩, fun hb => ?_⟩
      · subst hb
        simp only [kTry2] at hp
        have ext : Ext H1 (upd H1 a (exa a C d)) := Ext.new na
        by_cases hi : i < Γ1.length
        · rw [if_pos hi] at hp
          obtain ⟨fp2, R2, u2⟩ := put_slot (i := i) (R1.ext ext) hi (RepO.exc (f := fun _ => False) nc upd_same (pay.keep ext.im) fun _ z => z) fun _ z => z.elim
          have st2 : Step (U fp) (U fp2) H (upd H1 a (exa a C d)) := (s1.trans (Step.ofExt ext)).sub fun b z => (u2 b z).elim (fun z => z.elim) id
          refine hs _ _ _ fp2 R2 _ ?_
          cases eg : gs (Γ1.set i (some (.exc x))) with
          | bad => rw [eg] at hp; exact hp.elim
          | ex y Γ2 => rw [eg] at hp; exact hp.elim
          | ok fl Γ2 =>
            rw [eg] at hp
            have hp : FlP (jc K mg W) m σ (U fp) H D fl (Γ2.set i none) := hp
            intro σ2 H2 fp3 R3 k3
            obtain ⟨R4, u4⟩ := R3.drop (σ' := σ2.set i none) (i := i) (by simp) fun j hj => List.getElem?_set_ne (Ne.symm hj)
            have k4 : Kp m σ (σ2.set i none) := ((k1.trans (kp_set hm)).trans k3).trans fun j hj => by
              refine List.getElem?_set_ne fun z => ?_
              subst z
              exact hm hj
            have q := hp _ H2 _ R4 k4
            cases fl with
            | nx => exact fun s3 => q ((st2.trans s3).sub u4)
            | bk => exact fun s3 => q ((st2.trans s3).sub u4)
            | ct => exact fun s3 => q ((st2.trans s3).sub u4)
            | rt o => exact fun v f r dd s3 => q v f r (fun b z1 z2 => dd b z1 (u4 b z2)) ((st2.trans s3).sub fun b z => z.imp id (u4 b))
        · rw [if_neg hi] at hp; exact hp.elim
      · subst hb
        exact hp (.ref C) d σ1 H1 fp1 R1 k1 ⟨⟨C, rfl, nc⟩, pay⟩ s1
theorem ss_tryN (hT : ∀ n ∈ all, ∀ C, NmC K n C → PySem.W.kitOne K (.ref C) cv = some (decide (n ∈ yes)) ∧ PySem.W.exmOne K (.ref C) cv = some (decide (n ∈ yes))) (hb : ∀ W', SS (jc K mg W') m (tb W') gb) (hs : SS (jc K mg fun _ _ _ _ => False) m ts gs) :
    SS (jc K mg W) m (fun D σ H => tb (wOnly K cv (fun _ _ _ => ts) W D) D σ H) (gTryN (subX all yes) gb gs) := fun σ H Γ fp R D hp => by
  refine hb (wOnly K cv (fun _ _ _ => ts) W D) σ H Γ fp R D ?_
  unfold gTryN at hp
  cases e : gb Γ with
  | bad => rw [e] at hp; exact hp.elim
  | ok fl Γ1 => rw [e] at hp; exact hp
  | ex x Γ1 =>
    rw [e] at hp
    simp only [kTryN] at hp
    intro cls d σ1 H1 fp1 R1 k1 e1 s1
    obtain ⟨⟨C, rfl, nc⟩, pay⟩ := e1
    cases ec : subX all yes x.cls with
    | none => rw [ec] at hp; exact hp.elim
    | some b =>
      rw [ec] at hp
      refine ⟨b, (subX_ok hT ec nc).2, fun hb a na => ?_, fun hb => ?_⟩
      · subst hb
        simp only [kTryN2] at hp
        refine hs _ _ _ fp1 R1 _ ?_
        cases eg : gs Γ1 with
        | bad => rw [eg] at hp; exact hp.elim
        | ex y Γ2 => rw [eg] at hp; exact hp.elim
        | ok fl Γ2 =>
          rw [eg] at hp
          have hp : FlP (jc K mg W) m σ (U fp) H D fl Γ2 := hp
          intro σ2 H2 fp3 R3 k3
          have q := hp σ2 H2 fp3 R3 (k1.trans k3)
          cases fl with
          | nx => exact fun s3 => q (s1.trans s3)
          | bk => exact fun s3 => q (s1.trans s3)
          | ct => exact fun s3 => q (s1.trans s3)
          | rt o => exact fun v f r dd s3 => q v f r dd (s1.trans s3)
      · subst hb
        exact hp (.ref C) d σ1 H1 fp1 R1 k1 ⟨⟨C, rfl, nc⟩, pay⟩ s1
end
section
variable {K : Frag} {mg : Str → Option Value} {X : Cx} {W : WX} {m : List Bool} {all yes : List Str} {i : Nat} {tb : WX → TS} {ts : TS} {gb gs : G Fl} {x n : Str} {bod su : List Stmt} {s₀ : Stmt} {np p1 p2 : Pos}
/-- a wish that all is noted -/
def xeT (X : Cx) (e : Value) (s : Shared) : Prop := wpAny (model X.prog X.w) X.A (noteFrame e X.env) (fun _ t => wpAny (model X.prog X.w) X.A (setFlight e none) (fun _ _ => True) (fun _ _ => True) t) (fun _ _ => True) s
theorem takesT {W' : WX} (hst : X.stack = X.env :: X.outer) (hfm : X.env.frame = some X.env.locals) : Takes (X.tr [] (xeT X)) W' := fun u s' air => by
  obtain ⟨a, B, t0, pins1, σ1, H1, cls, d, rfl, I1, nb, up, sky, _⟩ := air
  rw [show (Cx.tr X [] (xeT X)).stack = X.env :: X.outer from hst] at sky
  exact Sky.land Zc.steady (show X.A.frames = some (X.env :: X.outer) from (I1.ok.frames).trans (congrArg some hst)) hfm sky fun _ _ _ => trivial
theorem passT {X : Cx} : PassesOwn (model X.prog X.w) X.A X.env (xeT X) := PassesOwn.looking
/-- readings: the class by its name -/
def tTry (K : Frag) (mg : Str → Option Value) (x : Str) (i : Nat) (tb : WX → TS) (ts : TS) (W : WX) : TS := fun D σ H => ∀ cv, ClsV mg x cv → tb (wKeep K cv i ts W D) D σ H
def tTryN (K : Frag) (mg : Str → Option Value) (x : Str) (tb : WX → TS) (ts : TS) (W : WX) : TS := fun D σ H => ∀ cv, ClsV mg x cv → tb (wOnly K cv (fun _ _ _ => ts) W D) D σ H
theorem st_try (i : Nat) (T : XT K mg all x yes) (hN : X.N.Nodup) (tk : Takes X W) (hbo : ∀ (W' : WX) (pn : List (Addr × Obj)) (xe : Value → Shared → Prop), Takes (X.tr pn xe) W' → PassesOwn (model X.prog X.w) X.A X.env xe → VB K mg (X.tr pn xe) W' m bod (tb W') gb)
    (hsu : ∀ (a : Addr) (pn : List (Addr × Obj)), VB K mg (X.suite a pn) (fun _ _ _ _ => False) m (s₀ :: su) ts gs) (hst : X.stack = X.env :: X.outer := by rfl) (hfm : X.env.frame = some X.env.locals := by rfl) (hi : X.N[i]? = some n := by rfl) (hl : X.env.kindOf n = some .local := by rfl)
    (hg : Gl X x := by rfl) (hdb : (x == ("__debug__" : Str)) = false := by decide) (hm : m[i]? ≠ some true := by decide) : VSt K mg X W m (.Try bod [.ExceptHandler (some (.Name x np)) (some n) (s₀ :: su) p1] [] [] p2) (tTry K mg x i tb ts W) (gTry (subX all yes) i gb gs) := fun k1 k2 => by
  obtain ⟨cv, vv, q1, q2, q3, q4⟩ := T.ex
  subst k1 k2
  have ps := ps_keep (i := i) (p1 := p1) (p2 := p2) (np := np) hst hfm hN hi hl ⟨hg, hdb, q1⟩ tk (fun W' pn xe t po => (hbo W' pn xe t po rfl rfl).1) fun a pn => (hsu a pn rfl rfl).1
  refine ⟨⟨fun pins s σ H D I h => ps.run pins s σ H D I (h cv q1)⟩, fun σ H Γ fp R D hp cv' hc' => ?_⟩
  rw [ClsV.uniq hc' q1]
  exact ss_try q4 hm (fun W' => (hbo W' [] (xeT X) (takesT hst hfm) passT rfl rfl).2) (hsu X.env.locals [] rfl rfl).2 σ H Γ fp R D hp
theorem st_tryN (T : XT K mg all x yes) (tk : Takes X W) (hbo : ∀ (W' : WX) (pn : List (Addr × Obj)) (xe : Value → Shared → Prop), Takes (X.tr pn xe) W' → PassesOwn (model X.prog X.w) X.A X.env xe → VB K mg (X.tr pn xe) W' m bod (tb W') gb)
    (hsu : ∀ (a : Addr) (pn : List (Addr × Obj)), VB K mg (X.suite a pn) (fun _ _ _ _ => False) m (s₀ :: su) ts gs) (hst : X.stack = X.env :: X.outer := by rfl) (hfm : X.env.frame = some X.env.locals := by rfl)
    (hg : Gl X x := by rfl) (hdb : (x == ("__debug__" : Str)) = false := by decide) : VSt K mg X W m (.Try bod [.ExceptHandler (some (.Name x np)) none (s₀ :: su) p1] [] [] p2) (tTryN K mg x tb ts W) (gTryN (subX all yes) gb gs) := fun k1 k2 => by
  obtain ⟨cv, vv, q1, q2, q3, q4⟩ := T.ex
  subst k1 k2
  have ps := ps_try_only (pos' := p1) (pos := p2) (np := np) (ts := fun _ _ _ => ts) hst hfm ⟨hg, hdb, q1⟩ tk (fun W' pn xe t po => (hbo W' pn xe t po rfl rfl).1) fun a oe cls d pn _ _ => (hsu a ((a, oe) :: pn) rfl rfl).1
  refine ⟨⟨fun pins s σ H D I h => ps.run pins s σ H D I (h cv q1)⟩, fun σ H Γ fp R D hp cv' hc' => ?_⟩
  rw [ClsV.uniq hc' q1]
  exact ss_tryN q4 (fun W' => (hbo W' [] (xeT X) (takesT hst hfm) passT rfl rfl).2) (hsu X.env.locals [] rfl rfl).2 σ H Γ fp R D hp
end
/-! ### isinstance of a caught exception, its field, is None -/
/-- reading of isinstance(e, ..) -/
def rIsX (K : Frag) : List V → Hp → VK → Prop := fun xs H Q => ∃ (a C : Addr) (d : Option Addr) (pay : Option (Str × Int)) (c : V) (cv : Value) (b : Bool), xs = [.ref a, c] ∧ H a = some (exa a C d) ∧ PayR H pay d ∧ ExcI K C ∧ (∀ u, RelV c u → u = cv) ∧ PySem.W.kitOne K (.ref C) cv = some b ∧ Q (.bl b) H
theorem exa_inst {X : Cx} {pins : List (Addr × Obj)} {σ : St} {H : Hp} {s : Shared} {a C : Addr} {d : Option Addr} {pay : Option (Str × Int)} (I : Inv X pins σ H s) (h : H a = some (exa a C d)) (p : PayR H pay d) : ∃ (oe : Obj) (od : Option Obj), PySem.W.InstAt s.heap a oe C od := by
  have x : ObjOk X.prog X.w H s.heap a (.ext fun h => ∃ (o : Obj) (vs : Array Value), h.get? a = some o ∧ o.cls = .ref C ∧ o.dict = d ∧ o.data = .fields vs) := I.hok a _ h
  obtain ⟨⟨o, vs, h1, h2, h3, h4⟩, _⟩ := x
  cases pay with
  | none =>
    have e : d = none := p
    subst e
    exact ⟨o, none, h1, h2, by unfold PySem.W.notCls; rw [h4] <;> rfl, by rw [h3]; trivial⟩
  | some q =>
    obtain ⟨dd, e, hx⟩ := p
    subst e
    have y : ObjOk X.prog X.w H s.heap dd (.xd [(q.1, .int q.2)]) := I.hok dd _ hx
    obtain ⟨mA, hns, _⟩ := y
    obtain ⟨od, ho, _⟩ := lookIn_ns hns
    exact ⟨o, some od, h1, h2, by unfold PySem.W.notCls; rw [h4] <;> rfl, by rw [h3]; exact ho⟩
theorem call_isX {X : Cx} : CallR X (.builtin "isinstance") (rIsX X.K) := by
  intro pins s σ H xs us Q I r h
  obtain ⟨a, C, d, pay, c, cv, b, rfl, ha, hp, T, hcv, e, q⟩ := h
  cases r with
  | cons rx rr =>
    cases rr with
    | cons rt rr =>
      cases rr
      cases rx
      have ec := hcv _ rt
      subst ec
      obtain ⟨oe, od, J⟩ := exa_inst I ha hp
      exact PySem.W.kia_one (PySem.W.kitx_exc T.hcl T.hga T.hgt T.hsb T.hca T.hsn T.htk T.hmr) I.kIn J e (fun z => nomatch z) fun tk => ⟨.bl b, H, I.kept (t' := tk) fun _ _ z => z, rfl, q⟩
@[simp] def kIsX (all yes : List Str) (Γ : Env) : Option (Option Ob) → Res D Env
  | some (some (.exc x)) => ofOpt ((subX all yes x.cls).map .bl) Γ
  | _ => .bad
def gIsX (all yes : List Str) (i : Nat) (Γ : Env) : Res D Env := kIsX all yes Γ Γ[i]?
@[simp] theorem gIsX_ap (all yes : List Str) (i : Nat) (Γ : Env) : gIsX all yes i Γ = kIsX all yes Γ Γ[i]? := rfl
/-- reading: the class by its name -/
def tIsX (K : Frag) (mg : Str → Option Value) (x : Str) (i : Nat) : TE := fun σ H Q => ∀ (cv : Value) (vv : V), ClsV mg x cv → (∀ u, RelV vv u → u = cv) → tCB (rIsX K) (tCons (tVar i) (tCons (tC vv) tNil)) σ H Q
section
variable {K : Frag} {mg : Str → Option Value} {X : Cx} {W : WX} {all yes : List Str} {x y : Str} {p pos px py : Pos}
theorem d_isX (i : Nat) (A : XAll K all) (T : XT K mg all x yes) (hm : mg "isinstance" = none) (hN : X.N[i]? = some y := by rfl) (hv : Vis X.env.scope y := by first | exact Or.inl rfl | exact Or.inr (Or.inl rfl) | exact Or.inr (Or.inr rfl)) (hd : (y == ("__debug__" : Str)) = false := by decide)
    (hcd : (y == ("__classdict__" : Str)) = false := by decide) (hg : Gl X "isinstance" := by rfl) (hg2 : Gl X x := by rfl) (hdb : (x == ("__debug__" : Str)) = false := by decide)
    (he : starEach [.Name y py, .Name x px] X.env = (false, eval (.Name y py) X.env) :: starEach [.Name x px] X.env := by rfl) (he2 : starEach [.Name x px] X.env = [(false, eval (.Name x px) X.env)] := by rfl) (hpl : (backTo pos (starEach [.Name x px] X.env)).any (·.1) = false := by rfl) :
    VD K mg X W (.Call (.Name "isinstance" p) [.Name y py, .Name x px] [] pos) (tIsX K mg x i) (gIsX all yes i) := fun k1 k2 => by
  obtain ⟨cv, vv, q1, q2, q3, q4⟩ := T.ex
  subst k1 k2
  have pn : PE X (.Name x px) (tC vv) := by
    rcases q1 with q | ⟨q, r, n⟩
    · exact pe_glob hg2 q q2 hdb
    · exact pe_bltn hg2 q r q2 n hdb
  have pe := pe_callB (p := p) (pos := pos) call_isX hg hm boot_isinstance (pa_cons (pe_var hN hv hd hcd) (pa_cons pn pa_nil he2) he) (by decide) (by decide) he hpl
  refine ⟨⟨fun pins s σ H Q I h => pe.run pins s σ H Q I (h cv vv q1 q3)⟩, fun σ H Γ fp R Q hp cv' vv' hc' hv' => ?_⟩
  unfold gIsX at hp
  cases e : Γ[i]? with
  | none => rw [e] at hp; exact hp.elim
  | some o =>
    cases o with
    | none => rw [e] at hp; exact hp.elim
    | some o =>
      cases o with
      | exc z =>
        rw [e] at hp
        obtain ⟨v, e1, r⟩ := R.rep i _ e
        cases r with
        | exc nc ha hpay hf =>
          rename_i a C d
          have hp : Post (ofOpt ((subX all yes z.cls).map D.bl) Γ) (OkD (jc X.K X.mg W) σ (U fp) H Q) (XxE (jc X.K X.mg W) σ (U fp) H) := hp
          obtain ⟨w, ew, hp⟩ := hp.ofOpt
          obtain ⟨b, eb, rfl⟩ := Option.map_eq_some_iff.mp ew
          have hn : z.cls ∈ all := by
            unfold subX at eb
            split at eb
            · assumption
            · cases eb
          obtain ⟨D, hD, TD⟩ := A z.cls hn
          have hDC := hD.uniq nc
          subst hDC
          have ec := ClsV.uniq hc' q1
          subst ec
          exact ⟨_, e1, _, _, d, z.pay, vv', cv', b, rfl, ha, hpay, TD, hv', (subX_ok q4 eb nc).1, hp _ H fp R (.bl b) (Step.refl _ _)⟩
      | _ => rw [e] at hp; exact hp.elim
/-- e.f -/
@[simp] def kFldX2 (f : Str) (Γ : Env) : Option (Str × Int) → Res D Env
  | some (g, i) => if g = f then .ok (.int i) Γ else .bad
  | none => .bad
@[simp] def kFldX (all : List Str) (f : Str) (Γ : Env) : Option (Option Ob) → Res D Env
  | some (some (.exc x)) => if x.cls ∈ all then kFldX2 f Γ x.pay else .bad
  | _ => .bad
def gFldX (all : List Str) (f : Str) (i : Nat) (Γ : Env) : Res D Env := kFldX all f Γ Γ[i]?
@[simp] theorem gFldX_ap (all : List Str) (f : Str) (i : Nat) (Γ : Env) : gFldX all f i Γ = kFldX all f Γ Γ[i]? := rfl
def tFldX (K : Frag) (f : Str) (te : TE) : TE := fun σ H Q => te σ H fun v H1 => ∃ (a C d : Addr) (i : Int), v = .ref a ∧ H1 a = some (exa a C (some d)) ∧ H1 d = some (.xd [(f, .int i)]) ∧ ExcI K C ∧ PySem.W.findIn K (.ref C) f = some none ∧ Q (.int i) H1
theorem pe_fldX {e : Expr} {te : TE} {f : Str} (he : PE X e te) (hb : attributeBase e f X.env (eval e X.env) = eval e X.env := by rfl) : PE X (.Attribute e f pos) (tFldX X.K f te) := by
  refine ⟨fun pins s σ H Q I h => attr_of hb (thn (he.run pins s σ H _ I h) fun u s1 hh => ?_)⟩
  obtain ⟨v, H1, I1, rv, a, C, d, i, rfl, ha, hx, T, hno, q⟩ := hh
  obtain rfl : u = Value.ref a := rv
  have z : ObjOk X.prog X.w H1 s1.heap a (.ext fun h => ∃ (o : Obj) (vs : Array Value), h.get? a = some o ∧ o.cls = .ref C ∧ o.dict = some d ∧ o.data = .fields vs) := I1.hok a _ ha
  obtain ⟨⟨o, vs, h1, h2, h3, h4⟩, _⟩ := z
  have y : ObjOk X.prog X.w H1 s1.heap d (.xd [(f, .int i)]) := I1.hok d _ hx
  obtain ⟨mA, hns, hr⟩ := y
  obtain ⟨od, ho, hl⟩ := lookIn_ns hns
  obtain ⟨w, hw, rw'⟩ := RelO.some_of (v := V.int i) (o := mA f) (by have := hr f; simpa [List.lookup] using this)
  have J : PySem.W.InstAt s1.heap a o C (some od) := ⟨h1, h2, by unfold PySem.W.notCls; rw [h4] <;> rfl, by rw [h3]; exact ho⟩
  exact HandSPX.exc_get I1.kIn J T.hga T.hgt T.hsb (PySem.W.findObj_own T.hdc hno rfl (by rw [hl, hw])) (handed_of rw') ⟨_, H1, I1.tok _, rw', q⟩
theorem d_fldX (i : Nat) {f : Str} (A : XAll K all) (T : XF K all f) (hN : X.N[i]? = some y := by rfl) (hv : Vis X.env.scope y := by first | exact Or.inl rfl | exact Or.inr (Or.inl rfl) | exact Or.inr (Or.inr rfl)) (hd : (y == ("__debug__" : Str)) = false := by decide)
    (hcd : (y == ("__classdict__" : Str)) = false := by decide) (hb : attributeBase (.Name y py) f X.env (eval (.Name y py) X.env) = eval (.Name y py) X.env := by rfl) : VD K mg X W (.Attribute (.Name y py) f pos) (tFldX K f (tVar i)) (gFldX all f i) := fun k1 k2 => by
  subst k1 k2
  refine ⟨pe_fldX (pe_var hN hv hd hcd) hb, fun σ H Γ fp R Q hp => ?_⟩
  unfold gFldX at hp
  cases e : Γ[i]? with
  | none => rw [e] at hp; exact hp.elim
  | some o =>
    cases o with
    | none => rw [e] at hp; exact hp.elim
    | some o =>
      cases o with
      | exc z =>
        rw [e] at hp
        obtain ⟨v, e1, r⟩ := R.rep i _ e
        cases r with
        | exc nc ha hpay hf =>
          rename_i a C d
          simp only [kFldX] at hp
          by_cases hn : z.cls ∈ all
          · rw [if_pos hn] at hp
            cases ep : z.pay with
            | none => rw [ep] at hp; exact hp.elim
            | some q =>
              obtain ⟨g, j⟩ := q
              rw [ep] at hp hpay
              simp only [kFldX2] at hp
              by_cases hg : g = f
              · rw [if_pos hg] at hp
                subst hg
                obtain ⟨dd, rfl, hx⟩ := hpay
                obtain ⟨D, hD, TD⟩ := A z.cls hn
                have hDC := hD.uniq nc
                subst hDC
                exact ⟨_, e1, _, _, dd, j, rfl, ha, hx, TD, T _ hn _ hD, hp _ H fp R (.int j) (Step.refl _ _)⟩
              · rw [if_neg hg] at hp; exact hp.elim
          · rw [if_neg hn] at hp; exact hp.elim
      | _ => rw [e] at hp; exact hp.elim
end
end Gm

/-! Gm20: slots that may hold an exception; count, index, reverse, clear of a list of one's own; sorted. -/
namespace Gm
open PySem PySem.Spec PyProof.Rows L2
/-! ### an exception is handed on; is None -/
@[simp] def kExc (Γ : Env) : Option (Option Ob) → Res Ob Env
  | some (some (.exc x)) => .ok (.exc x) Γ
  | some (some (.d x)) => .ok (.d x) Γ
  | _ => .bad
def gExc (i : Nat) (Γ : Env) : Res Ob Env := kExc Γ Γ[i]?
@[simp] theorem gExc_ap (i : Nat) (Γ : Env) : gExc i Γ = kExc Γ Γ[i]? := rfl
@[simp] def kIsNX (Γ : Env) : Option (Option Ob) → Res D Env
  | some (some (.exc _)) => .ok (.bl false) Γ
  | some (some (.d x)) => ofOpt (oIsN x .non) Γ
  | _ => .bad
def gIsNX (i : Nat) (Γ : Env) : Res D Env := kIsNX Γ Γ[i]?
@[simp] theorem gIsNX_ap (i : Nat) (Γ : Env) : gIsNX i Γ = kIsNX Γ Γ[i]? := rfl
section
variable {K : Frag} {mg : Str → Option Value} {X : Cx} {W : WX} {e : Expr} {y : Str} {p pos py : Pos} {te : TE} {ga : G D} {m : List Bool}
theorem o_exc (i : Nat) (hN : X.N[i]? = some y := by rfl) (hv : Vis X.env.scope y := by first | exact Or.inl rfl | exact Or.inr (Or.inl rfl) | exact Or.inr (Or.inr rfl)) (hd : (y == ("__debug__" : Str)) = false := by decide)
    (hcd : (y == ("__classdict__" : Str)) = false := by decide) : VO K mg X W (.Name y py) (tVar i) (gExc i) := fun k1 k2 => by
  subst k1 k2
  refine ⟨pe_var hN hv hd hcd, fun σ H Γ fp R Q hp => ?_⟩
  unfold gExc at hp
  cases e : Γ[i]? with
  | none => rw [e] at hp; exact hp.elim
  | some o =>
    cases o with
    | none => rw [e] at hp; exact hp.elim
    | some o =>
      obtain ⟨v, e1, r⟩ := R.rep i _ e
      cases o with
      | exc z =>
        rw [e] at hp
        cases r with
        | exc nc ha hpay hf => exact ⟨_, e1, hp _ H fp (fun _ => False) R (.exc nc ha hpay fun _ z => z) (fun _ z => z.elim) ((Step.refl _ _).sub fun b z => z.elim (fun z => z.elim) id)⟩
      | d z =>
        rw [e] at hp
        cases r with
        | d a n => exact ⟨_, e1, hp _ H fp (fun _ => False) R (.d a fun _ z => z) (fun _ z => z.elim) ((Step.refl _ _).sub fun b z => z.elim (fun z => z.elim) id)⟩
      | _ => rw [e] at hp; exact hp.elim
theorem k_isNX (i : Nat) (hb : VD K mg X W e te (gC .non)) (hN : X.N[i]? = some y := by rfl) (hv : Vis X.env.scope y := by first | exact Or.inl rfl | exact Or.inr (Or.inl rfl) | exact Or.inr (Or.inr rfl)) (hd : (y == ("__debug__" : Str)) = false := by decide)
    (hcd : (y == ("__classdict__" : Str)) = false := by decide) : CmpV K mg X W .Is (.Name y py) e (tOp (fun x y H Q => y = .non ∧ Q (.bl (decide (x = .non))) H) (tVar i) te) (gIsNX i) := by
  have ed : ∀ k1 : X.K = K, ∀ k2 : X.mg = mg, ED (jc K mg W) (tOp (fun x y H Q => y = .non ∧ Q (.bl (decide (x = .non))) H) (tVar i) te) (gIsNX i) := fun k1 k2 => by
    have hb := (hb k1 k2).2
    intro σ H Γ fp R Q hp
    unfold gIsNX at hp
    cases e : Γ[i]? with
    | none => rw [e] at hp; exact hp.elim
    | some o =>
      cases o with
      | none => rw [e] at hp; exact hp.elim
      | some o =>
        obtain ⟨v, e1, r⟩ := R.rep i _ e
        cases o with
        | exc z =>
          rw [e] at hp
          cases r with
          | exc nc ha hpay hf =>
            refine ⟨_, e1, hb σ H Γ fp R _ ?_⟩
            intro w H1 fp1 R1 a1 s1
            cases a1
            refine ⟨rfl, ?_⟩
            rw [decide_eq_false (by simp)]
            exact hp (.bl false) H1 fp1 R1 (.bl false) s1
        | d z =>
          rw [e] at hp
          cases r with
          | d a n =>
            refine ⟨_, e1, hb σ H Γ fp R _ ?_⟩
            intro w H1 fp1 R1 a1 s1
            cases a1
            have hp : Post (ofOpt (oIsN z .non) Γ) (OkD (jc K mg W) σ (U fp) H Q) (XxE (jc K mg W) σ (U fp) H) := hp
            obtain ⟨b, eb, hp⟩ := hp.ofOpt
            have q := isN_D K H1 v .non z .non b Q (a.mono s1.im) At.non eb fun u H' ex az => hp u H' fp1 (R1.ext ex) az (s1.trans (Step.ofExt ex))
            exact q
        | _ => rw [e] at hp; exact hp.elim
  exact ⟨fun k1 k2 => ⟨pe_cmpR (by subst k1; exact op_isN) (pe_var hN hv hd hcd) (hb k1 k2).1 (nomark _), ed k1 k2⟩, fun k1 k2 => ⟨pt_cmpR (by subst k1; exact op_isN) (pe_var hN hv hd hcd) (hb k1 k2).1 (nomark _), et_test (ed k1 k2)⟩⟩
end
/-! ### count and index -/
def oCount (y : D) (xs : List D) : Option D := if eqOk y && PyData.canLayAll0 (toPys xs) then some (.int ((toPys xs).countP fun z => PyData.eqv z (toPy y) : Nat)) else none
def oIndex (y : D) (xs : List D) : Option D := if eqOk y && PyData.canLayAll0 (toPys xs) && decide (xs.length ≤ 100000) then ((toPys xs).findIdx? fun z => PyData.eqv z (toPy y)).map fun j => .int (j : Nat) else none
def rCnt (K : Frag) : V → List V → Hp → VK → Prop := fun x vs H Q => ∃ (l : Addr) (xs : List V) (y : V) (ds : List PyData) (d : PyData), x = .ref l ∧ vs = [y] ∧ H l = some (.lst xs) ∧ DpAll K H xs ds ∧ Dp K H y d ∧ PyData.canLayAll0 ds = true ∧ d.canLay0 = true ∧ d.depth ≤ 200 ∧ Q (.int ((ds.countP fun z => PyData.eqv z d : Nat) : Int)) H
def rIdx (K : Frag) : V → List V → Hp → VK → Prop := fun x vs H Q => ∃ (l : Addr) (xs : List V) (y : V) (ds : List PyData) (d : PyData) (j : Nat), x = .ref l ∧ vs = [y] ∧ H l = some (.lst xs) ∧ xs.length ≤ 100000 ∧ DpAll K H xs ds ∧ Dp K H y d ∧ PyData.canLayAll0 ds = true ∧ d.canLay0 = true ∧ d.depth ≤ 200 ∧ ds.findIdx? (fun z => PyData.eqv z d) = some j ∧ Q (.int (j : Int)) H
theorem mt_count {X : Cx} (hu : X.A.units + 201 < cLine) : MtM X "list.count" (rCnt X.K) := by
  intro pins s σ H x vs v us Q I rx rv h
  obtain ⟨l, xs, y, ds, d, rfl, rfl, hH, hds, hd, c1, c2, dp, q⟩ := h
  cases rx
  obtain ⟨u, rfl, ru⟩ := rv.one
  obtain ⟨bs, r1⟩ := Dp.reads I d y u hd ru
  obtain ⟨as, r2⟩ := Dp.reads I (.list ds) (.ref l) (.ref l) (.lst (.inl (.inl hH)) hds) rfl
  obtain ⟨z, its, n, r, hl, e⟩ := I.lstM hH
  have hu' : X.A.units + 1 + min (PyData.depthAll ds) d.depth < cLine := by have := Nat.min_le_right (PyData.depthAll ds) d.depth; omega
  cases r2 with
  | @list a o vs2 n2 xs2 as2 h1 h2 h3 h4 =>
    rw [e] at h1
    cases h1
    cases h3
    refine call_meets F.slot_list_count ⟨_, e, rfl⟩ F.entry_list_count (F.args_list_count_2 _ _) (SeqAt.list_countAt l its.toArray n none #[] u _) ⟨e, SeqAt.items_eqAt h4 r1 c1 c2 hu', ?_⟩
    refine ⟨.int _, H, I.tok _, ?_, q⟩
    have k : List.countP (fun y => PyData.eqv (SeqAt.readOf s.heap y) d) its.toArray.toList = ds.countP fun z => PyData.eqv z d := by
      rw [← SeqAt.readsAll_map ds _ _ c1 h4, List.countP_map]
      rfl
    rw [k]
    exact ⟨_, rfl⟩
theorem mt_index {X : Cx} (hu : X.A.units + 201 < cLine) : MtM X "list.index" (rIdx X.K) := by
  intro pins s σ H x vs v us Q I rx rv h
  obtain ⟨l, xs, y, ds, d, j, rfl, rfl, hH, hsz, hds, hd, c1, c2, dp, hj, q⟩ := h
  cases rx
  obtain ⟨u, rfl, ru⟩ := rv.one
  obtain ⟨bs, r1⟩ := Dp.reads I d y u hd ru
  obtain ⟨as, r2⟩ := Dp.reads I (.list ds) (.ref l) (.ref l) (.lst (.inl (.inl hH)) hds) rfl
  obtain ⟨z, its, n, r, hl, e⟩ := I.lstM hH
  have hu' : X.A.units + 1 + min (PyData.depthAll ds) d.depth < cLine := by have := Nat.min_le_right (PyData.depthAll ds) d.depth; omega
  cases r2 with
  | @list a o vs2 n2 xs2 as2 h1 h2 h3 h4 =>
    rw [e] at h1
    cases h1
    cases h3
    have k : its.map (SeqAt.readOf s.heap) = ds := SeqAt.readsAll_map ds _ _ c1 h4
    obtain ⟨hlt, hit, hno⟩ := List.findIdx?_eq_some_iff_getElem.mp hj
    have hl2 : its.length = ds.length := by rw [← k, List.length_map]
    have at_ : ∀ i (h1 : i < its.length) (h2 : i < ds.length), SeqAt.readOf s.heap its[i] = ds[i] := fun i h1 h2 => by
      have : (its.map (SeqAt.readOf s.heap))[i]? = ds[i]? := by rw [k]
      rw [List.getElem?_map, List.getElem?_eq_getElem h1, List.getElem?_eq_getElem h2] at this
      exact Option.some.inj this
    refine call_meets F.slot_list_index ⟨_, e, rfl⟩ F.entry_list_index (F.args_list_index_2 _ _) (SeqAt.list_indexAt l its.toArray n none #[] u (fun y => PyData.eqv (SeqAt.readOf s.heap y) d) j (by rw [List.size_toArray]; omega) (by omega) ?_ ?_) ⟨e, SeqAt.items_eqAt h4 r1 c1 c2 hu', ⟨.int _, H, I.tok _, ⟨_, rfl⟩, q⟩⟩
    · show PyData.eqv (SeqAt.readOf s.heap its[j]) d = true
      rw [at_ j (by omega) hlt]
      exact hit
    · intro i hi hij
      show PyData.eqv (SeqAt.readOf s.heap its[i]) d = false
      rw [at_ i (by rw [List.size_toArray] at hi; exact hi) (by omega)]
      simpa using hno i hij
/-- xs.f(y), xs in slot i -/
@[simp] def kAsk2 (f : D → List D → Option D) (i : Nat) (y : D) (Γ : Env) : Res D Env := ofOpt ((lstAt Γ i).bind (f y)) Γ
@[simp] def kAsk (f : D → List D → Option D) (i : Nat) (a : G D) (Γ : Env) : Option (List D) → Res D Env
  | some _ => (a Γ).bind (kAsk2 f i)
  | none => .bad
def gAsk (f : D → List D → Option D) (i : Nat) (a : G D) (Γ : Env) : Res D Env := kAsk f i a Γ (lstAt Γ i)
@[simp] theorem gAsk_ap (f : D → List D → Option D) (i : Nat) (a : G D) (Γ : Env) : gAsk f i a Γ = kAsk f i a Γ (lstAt Γ i) := rfl
section
variable {J : Jc} {te : TE} {gd : G D}
theorem ed_ask {f : D → List D → Option D} {r : V → List V → Hp → VK → Prop} {i : Nat} (hf : ∀ (H : Hp) (l : Addr) (vs : List V) (xs : List D) (v : V) (y z : D) (Q : VK), H l = some (.lst vs) → Ats J.K H vs xs → At J.K H v y → f y xs = some z → (∀ u, At J.K H u z → Q u H) → r (.ref l) [v] H Q)
    (ha : ED J te gd) : ED J (tBM J.K "list" r (tVar i) (tCons te tNil)) (gAsk f i gd) := fun σ H Γ fp R Q hp => by
  unfold gAsk at hp
  cases e0 : lstAt Γ i with
  | none => rw [e0] at hp; exact hp.elim
  | some xs0 =>
    rw [e0] at hp
    obtain ⟨l, vs, h1, h2, h3, h4, _⟩ := slot_list R (lstAt_some e0)
    refine ⟨.ref l, h1, .inl ⟨rfl, vs, .inl (.inl h2)⟩, ha σ H Γ fp R _ ((Post.bind hp).imp (fun y Γ1 q v H1 fp1 R1 a1 s1 => ?_) fun _ _ z => z)⟩
    have q : Post (ofOpt ((lstAt Γ1 i).bind (f y)) Γ1) (OkD J σ (U fp) H Q) (XxE J σ (U fp) H) := q
    obtain ⟨w, ew, q⟩ := q.ofOpt
    obtain ⟨xs, e1, ef⟩ := Option.bind_eq_some_iff.mp ew
    obtain ⟨l', ws, k1, k2, k3, k4, _⟩ := slot_list R1 (lstAt_some e1)
    rw [h1] at k1
    cases k1
    exact hf H1 l ws xs v y w Q k2 k3 a1 ef fun u au => q u H1 fp1 R1 au s1
theorem count_of {K : Frag} (H : Hp) (l : Addr) (vs : List V) (xs : List D) (v : V) (y z : D) (Q : VK) (h : H l = some (.lst vs)) (ha : Ats K H vs xs) (hy : At K H v y) (e : oCount y xs = some z) (q : ∀ u, At K H u z → Q u H) : rCnt K (.ref l) [v] H Q := by
  unfold oCount at e
  split at e
  · rename_i c
    cases e
    simp only [Bool.and_eq_true, eqOk, decide_eq_true_eq] at c
    exact ⟨l, vs, v, _, _, rfl, rfl, h, ha.dp c.2, hy.dp c.1.1, c.2, c.1.1, c.1.2, q _ (.int _)⟩
  · cases e
theorem index_of {K : Frag} (H : Hp) (l : Addr) (vs : List V) (xs : List D) (v : V) (y z : D) (Q : VK) (h : H l = some (.lst vs)) (ha : Ats K H vs xs) (hy : At K H v y) (e : oIndex y xs = some z) (q : ∀ u, At K H u z → Q u H) : rIdx K (.ref l) [v] H Q := by
  unfold oIndex at e
  split at e
  · rename_i c
    obtain ⟨j, ej, rfl⟩ := Option.map_eq_some_iff.mp e
    simp only [Bool.and_eq_true, eqOk, decide_eq_true_eq] at c
    exact ⟨l, vs, v, _, _, j, rfl, rfl, h, by rw [ha.length]; exact c.2, ha.dp c.1.2, hy.dp c.1.1.1, c.1.2, c.1.1.1, c.1.1.2, ej, q _ (.int _)⟩
  · cases e
end
section
variable {K : Frag} {mg : Str → Option Value} {X : Cx} {W : WX} {e : Expr} {x : Str} {px apos cpos pos : Pos} {te : TE} {ga : G D} {m : List Bool}
theorem d_count (i : Nat) {n : Nat} (hr : Room (n + 1) X.A) (h : VD K mg X W e te ga) (hN : X.N[i]? = some x := by rfl) (hv : Vis X.env.scope x := by first | exact Or.inl rfl | exact Or.inr (Or.inl rfl) | exact Or.inr (Or.inr rfl)) (hd : (x == ("__debug__" : Str)) = false := by decide)
    (hcd : (x == ("__classdict__" : Str)) = false := by decide) (he : starEach [e] X.env = [(false, eval e X.env)] := by rfl) (hbase : attributeBase (.Name x px) "count" X.env (eval (.Name x px) X.env) = eval (.Name x px) X.env := by rfl)
    (hfew : ((backTo cpos (starEach [e] X.env)).all (fun x => !x.1) && (backToKw cpos (keywordEach [] X.env)).all (fun x => x.1.isSome) && decide (([e] : List Expr).length + ([] : List Keyword).length + (if ([] : List Keyword).isEmpty then 0 else 1) < 30)) = true := by rfl)
    (hline : (apos.endLine == cpos.line) = true := by rfl) (hplain : (backTo cpos (starEach [] X.env)).any (·.1) = false := by rfl) : VD K mg X W (.Call (.Attribute (.Name x px) "count" apos) [e] [] cpos) (tBM K "list" (rCnt K) (tVar i) (tCons te tNil)) (gAsk oCount i ga) := fun k l => by
  have h := h k l
  subst k l
  exact ⟨pe_bm PySem.F.plainAttrs_list PySem.F.slot_list_count PySem.F.type_list_count (mt_count (Room.u201 hr)) (pe_var hN hv hd hcd) (pa_cons h.1 pa_nil he) hbase hfew hline he hplain, ed_ask count_of h.2⟩
theorem d_index (i : Nat) {n : Nat} (hr : Room (n + 1) X.A) (h : VD K mg X W e te ga) (hN : X.N[i]? = some x := by rfl) (hv : Vis X.env.scope x := by first | exact Or.inl rfl | exact Or.inr (Or.inl rfl) | exact Or.inr (Or.inr rfl)) (hd : (x == ("__debug__" : Str)) = false := by decide)
    (hcd : (x == ("__classdict__" : Str)) = false := by decide) (he : starEach [e] X.env = [(false, eval e X.env)] := by rfl) (hbase : attributeBase (.Name x px) "index" X.env (eval (.Name x px) X.env) = eval (.Name x px) X.env := by rfl)
    (hfew : ((backTo cpos (starEach [e] X.env)).all (fun x => !x.1) && (backToKw cpos (keywordEach [] X.env)).all (fun x => x.1.isSome) && decide (([e] : List Expr).length + ([] : List Keyword).length + (if ([] : List Keyword).isEmpty then 0 else 1) < 30)) = true := by rfl)
    (hline : (apos.endLine == cpos.line) = true := by rfl) (hplain : (backTo cpos (starEach [] X.env)).any (·.1) = false := by rfl) : VD K mg X W (.Call (.Attribute (.Name x px) "index" apos) [e] [] cpos) (tBM K "list" (rIdx K) (tVar i) (tCons te tNil)) (gAsk oIndex i ga) := fun k l => by
  have h := h k l
  subst k l
  exact ⟨pe_bm PySem.F.plainAttrs_list PySem.F.slot_list_index PySem.F.type_list_index (mt_index (Room.u201 hr)) (pe_var hN hv hd hcd) (pa_cons h.1 pa_nil he) hbase hfew hline he hplain, ed_ask index_of h.2⟩
/-! ### reverse, clear -/
def rRevL : V → List V → Hp → VK → Prop := fun x vs H Q => ∃ (l : Addr) (xs : List V), x = .ref l ∧ vs = [] ∧ H l = some (.lst xs) ∧ Q .non (upd H l (.lst xs.reverse))
def rClrL : V → List V → Hp → VK → Prop := fun x vs H Q => ∃ (l : Addr) (xs : List V), x = .ref l ∧ vs = [] ∧ H l = some (.lst xs) ∧ Q .non (upd H l (.lst []))
theorem vals_rev : ∀ {xs : List V} {us : List Value}, Vals xs us → Vals xs.reverse us.reverse
  | _, _, .nil => .nil
  | _, _, .cons h t => by
    rw [List.reverse_cons, List.reverse_cons]
    exact Vals.append (vals_rev t) (.cons h .nil)
theorem mt_reverse {X : Cx} : MtR X "list.reverse" rRevL := by
  intro pins s σ H x vs v us Q I rx rv h
  obtain ⟨l, xs, rfl, rfl, hH, q⟩ := h
  cases rx
  cases rv
  obtain ⟨z, its, n, r, hl, e⟩ := I.lstM hH
  refine call_meets F.slot_list_reverse ⟨_, e, rfl⟩ F.entry_list_reverse (F.args_list_reverse_1 _) (AutoSeq1.list_reverse_list_0 l its.toArray n (by rw [List.size_toArray]; omega)) ⟨e, ?_⟩
  exact ⟨.non, _, I.lset (its' := its.reverse) hH e (by simp) (vals_rev r) (by rw [List.length_reverse]; exact z), rfl, q⟩
theorem mt_clear {X : Cx} : MtR X "list.clear" rClrL := by
  intro pins s σ H x vs v us Q I rx rv h
  obtain ⟨l, xs, rfl, rfl, hH, q⟩ := h
  cases rx
  cases rv
  obtain ⟨z, its, n, r, hl, e⟩ := I.lstM hH
  refine call_meets F.slot_list_clear ⟨_, e, rfl⟩ F.entry_list_clear (F.args_list_clear_1 _) (AutoSeq1.list_clear_list_0 l its.toArray n (by rw [List.size_toArray]; omega)) ⟨e, ?_⟩
  exact ⟨.non, _, I.lset (its' := []) hH e rfl .nil (Nat.zero_le _), rfl, q⟩
@[simp] def kTurn (f : List D → List D) (i : Nat) (Γ : Env) : Option (List D) → Res Fl Env
  | some xs => .ok .nx (Γ.set i (some (.lst (f xs))))
  | none => .bad
/-- xs.reverse(), xs.clear() -/
def gTurn (f : List D → List D) (i : Nat) (Γ : Env) : Res Fl Env := kTurn f i Γ (lstAt Γ i)
@[simp] theorem gTurn_ap (f : List D → List D) (i : Nat) (Γ : Env) : gTurn f i Γ = kTurn f i Γ (lstAt Γ i) := rfl
theorem Ats.rev {K : Frag} {H : Hp} : ∀ {vs : List V} {xs : List D}, Ats K H vs xs → Ats K H vs.reverse xs.reverse
  | _, _, .nil => .nil
  | _, _, .cons h t => by
    rw [List.reverse_cons, List.reverse_cons]
    exact (Ats.rev t).append (.cons h .nil)
theorem st_reverse (i : Nat) (hN : X.N[i]? = some x := by rfl) (hv : Vis X.env.scope x := by first | exact Or.inl rfl | exact Or.inr (Or.inl rfl) | exact Or.inr (Or.inr rfl)) (hd : (x == ("__debug__" : Str)) = false := by decide)
    (hcd : (x == ("__classdict__" : Str)) = false := by decide) (hbase : attributeBase (.Name x px) "reverse" X.env (eval (.Name x px) X.env) = eval (.Name x px) X.env := by rfl) (hline : (apos.endLine == cpos.line) = true := by rfl)
    (hs : swapsWith (.Call (.Attribute (.Name x px) "reverse" apos) [] [] cpos) none pos.line X.env = pure false := by rfl) :
    VSt K mg X W m (.Expr (.Call (.Attribute (.Name x px) "reverse" apos) [] [] cpos) pos) (tDrop (tBM0 K "list" rRevL (tVar i))) (gTurn List.reverse i) := fun k l => by
  subst k l
  refine ⟨ps_expr (pe_bm0 PySem.F.plainAttrs_list PySem.F.slot_list_reverse PySem.F.type_list_reverse mt_reverse (pe_var hN hv hd hcd) hbase hline) hs, fun σ H Γ fp R D hp => ?_⟩
  unfold gTurn at hp
  cases e0 : lstAt Γ i with
  | none => rw [e0] at hp; exact hp.elim
  | some xs =>
    rw [e0] at hp
    obtain ⟨l, vs, h1, h2, h3, h4, h5⟩ := slot_list R (lstAt_some e0)
    obtain ⟨R2, s2⟩ := h5 _ _ (Ats.rev h3)
    exact ⟨.ref l, h1, .inl ⟨rfl, vs, .inl (.inl h2)⟩, l, vs, rfl, rfl, h2, hp σ _ fp R2 (Kp.refl _ _) s2⟩
theorem st_clear (i : Nat) (hN : X.N[i]? = some x := by rfl) (hv : Vis X.env.scope x := by first | exact Or.inl rfl | exact Or.inr (Or.inl rfl) | exact Or.inr (Or.inr rfl)) (hd : (x == ("__debug__" : Str)) = false := by decide)
    (hcd : (x == ("__classdict__" : Str)) = false := by decide) (hbase : attributeBase (.Name x px) "clear" X.env (eval (.Name x px) X.env) = eval (.Name x px) X.env := by rfl) (hline : (apos.endLine == cpos.line) = true := by rfl)
    (hs : swapsWith (.Call (.Attribute (.Name x px) "clear" apos) [] [] cpos) none pos.line X.env = pure false := by rfl) :
    VSt K mg X W m (.Expr (.Call (.Attribute (.Name x px) "clear" apos) [] [] cpos) pos) (tDrop (tBM0 K "list" rClrL (tVar i))) (gTurn (fun _ => []) i) := fun k l => by
  subst k l
  refine ⟨ps_expr (pe_bm0 PySem.F.plainAttrs_list PySem.F.slot_list_clear PySem.F.type_list_clear mt_clear (pe_var hN hv hd hcd) hbase hline) hs, fun σ H Γ fp R D hp => ?_⟩
  unfold gTurn at hp
  cases e0 : lstAt Γ i with
  | none => rw [e0] at hp; exact hp.elim
  | some xs =>
    rw [e0] at hp
    obtain ⟨l, vs, h1, h2, h3, h4, h5⟩ := slot_list R (lstAt_some e0)
    obtain ⟨R2, s2⟩ := h5 [] [] .nil
    exact ⟨.ref l, h1, .inl ⟨rfl, vs, .inl (.inl h2)⟩, l, vs, rfl, rfl, h2, hp σ _ fp R2 (Kp.refl _ _) s2⟩
end
end Gm

/-! Gm21: sorted(texts), sorted(numbers). -/
namespace Gm
open PySem PySem.Spec PyProof.Rows L2
def leS (a b : Str) : Bool := !ltCps b.cps.toList a.cps.toList
theorem leS_iff {a b : Str} : leS a b = true ↔ a.cps.toList ≤ b.cps.toList := by
  unfold leS
  rw [PyProof.Rows.ltCps_eq]
  simp
theorem leS_trans (a b c : Str) (h1 : leS a b = true) (h2 : leS b c = true) : leS a c = true := leS_iff.mpr (List.le_trans (leS_iff.mp h1) (leS_iff.mp h2))
theorem leS_total (a b : Str) : (leS a b || leS b a) = true := by
  rw [Bool.or_eq_true, leS_iff, leS_iff]
  exact List.le_total _ _
theorem leS_anti {a b : Str} (h1 : leS a b = true) (h2 : leS b a = true) : a = b := str_ext (List.le_antisymm (leS_iff.mp h1) (leS_iff.mp h2))
theorem rising_pw : ∀ (p : Str) (xs : List Str), risingS p xs = true → (p :: xs).Pairwise (fun a b => leS a b = true)
  | p, [], _ => by simp
  | p, x :: xs, h => by
    unfold risingS at h
    rw [Bool.and_eq_true] at h
    have q := rising_pw x xs h.2
    refine List.Pairwise.cons (fun b hb => ?_) q
    have h1 : leS p x = true := h.1
    rcases List.mem_cons.mp hb with rfl | hb
    · exact h1
    · exact leS_trans _ _ _ h1 (List.rel_of_pairwise_cons q hb)
theorem sorted_pw {xs : List Str} (h : sortedS xs = true) : xs.Pairwise (fun a b => leS a b = true) := by
  cases xs with
  | nil => exact .nil
  | cons x xs => exact rising_pw x xs h
def sortS (xs : List Str) : List Str := xs.mergeSort leS
def sortI (xs : List Int) : List Int := xs.mergeSort fun a b => decide (a ≤ b)
theorem sortS_uniq {xs ys : List Str} (hp : ys.Perm xs) (hs : sortedS ys = true) : ys = sortS xs :=
  List.Perm.eq_of_pairwise (le := fun a b => leS a b = true) (fun a b _ _ h1 h2 => leS_anti h1 h2) (sorted_pw hs) (List.pairwise_mergeSort leS_trans leS_total xs) (hp.trans (List.mergeSort_perm xs leS).symm)
theorem sortI_uniq {xs ys : List Int} (hp : ys.Perm xs) (hs : ys.Pairwise (· ≤ ·)) : ys = sortI xs :=
  List.Perm.eq_of_pairwise (le := fun a b : Int => a ≤ b) (fun a b _ _ h1 h2 => Int.le_antisymm h1 h2) hs ((List.pairwise_mergeSort (le := fun a b : Int => decide (a ≤ b)) (fun a b c h1 h2 => by simp at *; omega) (fun a b => by simp; omega) xs).imp fun h => by simpa using h) (hp.trans (List.mergeSort_perm xs _).symm)
theorem sortS_perm (xs : List Str) : (sortS xs).Perm xs := List.mergeSort_perm xs leS
theorem sortI_perm (xs : List Int) : (sortI xs).Perm xs := List.mergeSort_perm xs _
theorem sortS_len (xs : List Str) : (sortS xs).length = xs.length := (sortS_perm xs).length_eq
theorem sortI_len (xs : List Int) : (sortI xs).length = xs.length := (sortI_perm xs).length_eq
/-- two texts -/
theorem sortS_two (a b : Str) : sortS [a, b] = if leS a b then [a, b] else [b, a] := by
  by_cases h : leS a b = true
  · rw [if_pos h]
    exact List.mergeSort_of_pairwise (by simpa using h)
  · rw [if_neg h]
    have h2 : leS b a = true := by
      have := leS_total a b
      simpa [h] using this
    refine (sortS_uniq ?_ ?_).symm
    · exact List.Perm.swap _ _ _
    · exact PyProof.Rows.sortedS_of_pairwise _ (by
        have : ltCps a.cps.toList b.cps.toList = false := by simpa [leS] using h2
        simpa using this)
/-- what sorted tells: texts, or numbers -/
def sortD (xs : List D) : Option (List D) := match strsD xs with
  | some ys => if ys.length < 64 then some ((sortS ys).map D.str) else none
  | none => (intsD xs).map fun ys => (sortI ys).map D.int
@[simp] def kSorted (s : Src) (Γ : Env) : Res Ob Env := if notTup s then ofOpt (((view Γ s).bind sortD).map .lst) Γ else .bad
def gSorted (a : G Src) (Γ : Env) : Res Ob Env := (a Γ).bind kSorted
@[simp] theorem gSorted_ap (a : G Src) (Γ : Env) : gSorted a Γ = (a Γ).bind kSorted := rfl
def rSo (K : Frag) : List V → Hp → VK → Prop := fun vs H Q => rSortedS K vs H Q ∨ rSortedI K vs H Q
theorem cr_so {X : Cx} : CallR X (.builtin "sorted") (rSo X.K) := fun pins s σ H xs us Q I r h => h.elim (fun z => cr_sortedS pins s σ H xs us Q I r z) fun z => cr_sortedI pins s σ H xs us Q I r z
theorem ats_strs {K : Frag} {H : Hp} : ∀ ys : List Str, Ats K H (ys.map V.str) (ys.map D.str)
  | [] => .nil
  | _ :: ys => .cons (.str _) (ats_strs ys)
theorem ats_ints' {K : Frag} {H : Hp} : ∀ ys : List Int, Ats K H (ys.map V.int) (ys.map D.int)
  | [] => .nil
  | _ :: ys => .cons (.int _) (ats_ints' ys)
theorem ats_isI {K : Frag} {H : Hp} : ∀ {vs : List V} {xs : List D} {ys : List Int}, Ats K H vs xs → Gm.intsD xs = some ys → vs = ys.map V.int
  | _, _, _, .nil, e => by cases e; rfl
  | _, _, _, .cons (x := x) h hs, e => by
    cases h with
    | int z =>
      simp only [Gm.intsD] at e
      rw [Option.map_eq_some_iff] at e
      obtain ⟨zs, e, rfl⟩ := e
      rw [ats_isI hs e]
      rfl
    | _ => simp [Gm.intsD] at e
section
variable {J : Jc} {ts : TE} {gs : G Src}
theorem eo_sorted (ha : ES J ts gs) : EO J (tCB (rSo J.K) (tCons ts tNil)) (gSorted gs) := fun σ H Γ fp R Q hp =>
  ha.go R hp fun s Γ1 v H1 fp1 f hp R1 a1 d1 s1 => by
    have hp : Post (if notTup s then ofOpt (((view Γ1 s).bind sortD).map Ob.lst) Γ1 else .bad) (OkO J σ (U fp) H Q) (XxE J σ (U fp1) H1) := hp
    by_cases c : notTup s = true
    · rw [if_pos c] at hp
      obtain ⟨z, e, q⟩ := hp.ofOpt
      rw [Option.map_eq_some_iff] at e
      obtain ⟨zs, e, rfl⟩ := e
      obtain ⟨xs, e1, e2⟩ := Option.bind_eq_some_iff.mp e
      obtain ⟨p, vs, rfl, h1, a⟩ := SrcR.viewL R1 a1 e1 c
      unfold sortD at e2
      split at e2
      · rename_i ys es
        split at e2
        · rename_i hl
          cases e2
          have ev := Ats.strs a es
          subst ev
          refine .inl ⟨p, ys, rfl, h1, hl, fun zs l hpm hso nl => ?_⟩
          rw [sortS_uniq hpm hso]
          obtain ⟨R4, r4, d4, t4⟩ := new_list R1 nl (ats_strs (sortS ys))
          exact q _ _ fp1 _ R4 r4 d4 ((s1.sub fun _ => .inr).trans t4)
        · cases e2
      · obtain ⟨ys, es, rfl⟩ := Option.map_eq_some_iff.mp e2
        have ev := ats_isI a es
        subst ev
        refine .inr ⟨p, ys, rfl, h1, fun zs l hpm hso nl => ?_⟩
        rw [sortI_uniq hpm hso]
        obtain ⟨R4, r4, d4, t4⟩ := new_list R1 nl (ats_ints' (sortI ys))
        exact q _ _ fp1 _ R4 r4 d4 ((s1.sub fun _ => .inr).trans t4)
    · rw [if_neg c] at hp; exact hp.elim
end
theorem o_sorted {K : Frag} {mg : Str → Option Value} {X : Cx} {W : WX} {a : Expr} {p pos : Pos} {ta : TE} {gs : G Src} (hm : mg "sorted" = none) (ha : VS K mg X W a ta gs) (hg : Gl X "sorted" := by rfl) (he : starEach [a] X.env = [(false, eval a X.env)] := by rfl) :
    VO K mg X W (.Call (.Name "sorted" p) [a] [] pos) (tCB (rSo K) (tCons ta tNil)) (gSorted gs) := fun k m => by
  have h := ha k m
  subst k m
  exact ⟨pe_callB cr_so hg hm boot_sorted (pa_cons h.1 pa_nil he) (by decide) (by decide) he rfl, eo_sorted h.2⟩
end Gm

/-! Gm22: what the text must say of an exception class with an __init__ of its own. -/
namespace Gm
open PySem PySem.Spec PyProof.Rows L2
def oexB (K : Frag) (C : Addr) : Bool := (match K.lookup C with
  | some ⟨.type "type", _, .cls cd, sl⟩ => (match cd.mro, sl.toList with
    | .ref D :: bm, [_, _, _, _, some (.builtin n), _] => D == C && n == "ValueError.__new__" && !cd.hasDel && cd.hasDict && PySem.HandSPX.refsVE bm
    | _, _ => false)
  | _ => false) && (decide (PySem.W.findIn K (.ref C) "__setattr__" = some (some (.builtin "object.__setattr__"))) && (decide (PySem.W.subIn K (.ref C) (.type "BaseException") = some true) && (decide (PySem.W.typeIn K (.ref C) = some (.type "type")) && PySem.W.keepIn K (.ref C))))
theorem oexB_ok {K : Frag} {C : Addr} (h : oexB K C = true) : OexC K C := by
  unfold oexB at h
  simp only [Bool.and_eq_true, decide_eq_true_eq] at h
  obtain ⟨q, h1, h2, h3, h4⟩ := h
  refine ⟨?_, h1, h2, h3, h4⟩
  split at q
  · rename_i dd cd sl ho
    split at q
    · rename_i D bm k0 k1 k2 k3 n k5 hm hs
      simp only [Bool.and_eq_true, beq_iff_eq, Bool.not_eq_true'] at q
      obtain ⟨⟨⟨⟨rfl, rfl⟩, hdel⟩, hdc⟩, ht⟩ := q
      obtain ⟨nm, bs, mro, ns, qn, hd, sn, sub, ab, col, del⟩ := cd
      dsimp only at hm hdel hdc
      subst hm hdel hdc
      obtain ⟨l⟩ := sl
      have hs : l = [k0, k1, k2, k3, some (.builtin "ValueError.__new__"), k5] := hs
      subst hs
      exact ⟨nm, qn, ns, bs, bm, sn, sub, ab, col, dd, k0, k1, k2, k3, k5, ho, ht⟩
    · cases q
  · cases q
/-- where its __init__ lies -/
structure ExcAt (K : Frag) (mg : Str → Option Value) (n f : Str) (fI : Addr) : Prop where
  ex : ∃ C, NmC K n C ∧ mg n = some (.ref C) ∧ OexC K C ∧ PySem.W.findIn K (.ref C) "__init__" = some (some (.ref fI)) ∧ PySem.W.typeIn K (.ref fI) = some (.type "function") ∧ PySem.W.findIn K (.ref C) f = some none
theorem excAt_mk {K : Frag} {mg : Str → Option Value} {n f : Str} {fI C : Addr} (h1 : PySem.W.nsIn K mainGlobals n = some (some (.ref C))) (h2 : mg n = some (.ref C)) (h3 : oexB K C = true) (h4 : PySem.W.findIn K (.ref C) "__init__" = some (some (.ref fI))) (h5 : PySem.W.typeIn K (.ref fI) = some (.type "function"))
    (h6 : PySem.W.findIn K (.ref C) f = some none) : ExcAt K mg n f fI := ⟨C, h1, h2, oexB_ok h3, h4, h5, h6⟩
theorem excN_mk {P : Program} {w : World} {K : Frag} {mg : Str → Option Value} {base : Heap} {qual z n f0 : Str} {st : Stmt} {f : Addr} {fd : FuncData} {a1 a2 : Str} {k : Nat} (F : Fun K "__init__" qual st f fd) (S : FnScope [a1, a2] [a1, a2] (defScope st)) (A : ExcAt K mg n f0 f) (B : Binds K fd [a1, a2] [])
    (hb : ∀ (cdv : Value) (A : Around) (outer : List PySem.Env) (s : Shared) (H : Hp) (E : XK), Room k (A.deeper (envOfC qual (defScope st) s.heap.objs.size f cdv)) →
      ∃ te, PSs (cxOf (L2.CX P w) P w K mg base [a1, a2] qual (defScope st) f cdv A outer s H E) (defBody st) (tSeq (tDrop (tVeI K (tCons (tVar 0) (tCons te tNil)))) (tOst K f0 (tVar 0) (tVar 1))) ∧ ED (jc K mg fun _ _ _ _ => False) te (g2 oAdd (gC (.str z)) (gCal oStrI (gConsA (gVar 1) gNilA)))) :
    ExcN K mg P w base n f0 z (k + 1) := by
  obtain ⟨C, h1, h2, h3, h4, h5, h6⟩ := A.ex
  exact ⟨C, f, fd, [a1, a2], h1, h2, h3, h4, h5, exInit_ok F S h3 h6 hb, B⟩
/-- the body of such an __init__ -/
theorem init_body2 {X : Cx} {W : WX} {r p f0 a1 : Str} {p1 p3 p4 q1 q2 q3 q4 q5 q6 : Pos} {te : TE} {g : G D} (R : ExcR X.K X.mg r) (hN0 : X.N[0]? = some a1) (hN1 : X.N[1]? = some p) (hv0 : Vis X.env.scope a1) (hv1 : Vis X.env.scope p) {e : Expr} (h : VD X.K X.mg X W e te g)
    (hg : Gl X r := by rfl) (hdb : (r == ("__debug__" : Str)) = false := by decide) (hd0 : (a1 == ("__debug__" : Str)) = false := by decide) (hc0 : (a1 == ("__classdict__" : Str)) = false := by decide) (hd1 : (p == ("__debug__" : Str)) = false := by decide) (hc1 : (p == ("__classdict__" : Str)) = false := by decide)
    (s1 : starEach [.Name a1 q1, e] X.env = (false, eval (.Name a1 q1) X.env) :: starEach [e] X.env := by rfl) (s2 : starEach [e] X.env = (false, eval e X.env) :: starEach [] X.env := by rfl) (hpl : (backTo q2 (starEach [e] X.env)).any (·.1) = false := by rfl) {pl : Sem Bool}
    (hc : eval (.Call (.Attribute (.Name r p1) "__init__" p3) [.Name a1 q1, e] [] q2) X.env = (do
      let cv ← eval (.Name r p1) X.env
      standAt p3.atName
      let (g, one) ← holding [cv] (getMethod cv "__init__" pl)
      callWith q2 g one (backTo q2 (starEach [.Name a1 q1, e] X.env)) (backToKw q2 (keywordEach [] X.env))) := by rfl)
    (hs : swapsWith (.Call (.Attribute (.Name r p1) "__init__" p3) [.Name a1 q1, e] [] q2) none q3.line X.env = pure false := by rfl) (hw : swapsWith (.Name p q4) (some (.Attribute (.Name a1 q5) f0 q6)) p4.line X.env = pure false := by rfl) :
    ∃ te, PSs X [.Expr (.Call (.Attribute (.Name r p1) "__init__" p3) [.Name a1 q1, e] [] q2) q3, .Assign [.Attribute (.Name a1 q5) f0 q6] (.Name p q4) p4] (tSeq (tDrop (tVeI X.K (tCons (tVar 0) (tCons te tNil)))) (tOst X.K f0 (tVar 0) (tVar 1))) ∧ ED (jc X.K X.mg W) te g :=
  ⟨te, pss_cons (ps_expr (pe_rinit R (pa_cons (pe_var hN0 hv0 hd0 hc0) (pa_cons (h rfl rfl).1 pa_nil s2) s1) hg hdb hc s1 hpl) hs) (pss_one (ps_ost (pe_var hN0 hv0 hd0 hc0) (pe_var hN1 hv1 hd1 hc1) hw)), (h rfl rfl).2⟩
/-- a class that finds ValueError's __init__ -/
theorem excR_mk {K : Frag} {mg : Str → Option Value} {r : Str} {C : Addr} (h1 : mg r = some (.ref C)) (h2 : PySem.W.readsIn K C (.type "type") = true) (h3 : PySem.W.specialIn K (.ref C) "__getattribute__" = some (some (.builtin "type.__getattribute__")))
    (h4 : PySem.W.findCls K (.ref C) (.type "type") "__init__" = some (.val (.builtin "ValueError.__init__"))) : ExcR K mg r := ⟨C, .type "type", h1, ⟨h2, h3⟩, h4⟩
/-! ### list * n, int(x) -/
@[simp] def oInt1 : List D → Option D
  | [.int i] => some (.int i)
  | [.bl b] => some (.int (if b then 1 else 0))
  | _ => none
@[simp] def kRep2 (s : Src) (y : D) (Γ : Env) : Res Ob Env := match y with
  | .int k => if notTup s then ofOpt ((view Γ s).bind fun xs => if -100000 ≤ k ∧ k ≤ 100000 ∧ xs.length * k.toNat ≤ 100000 then some (.lst (List.replicate k.toNat xs).flatten) else none) Γ else .bad
  | _ => .bad
@[simp] def kRep (b : G D) (s : Src) (Γ : Env) : Res Ob Env := match s with
  | .own xs => (b Γ).bind (kRep2 (.own xs))
  | _ => .bad
/-- a new list, n times -/
def gRep (a : G Src) (b : G D) (Γ : Env) : Res Ob Env := (a Γ).bind (kRep b)
@[simp] theorem gRep_ap (a : G Src) (b : G D) (Γ : Env) : gRep a b Γ = (a Γ).bind (kRep b) := rfl
theorem Ats.rep {K : Frag} {H : Hp} {vs : List V} {xs : List D} (h : Ats K H vs xs) : ∀ n, Ats K H (List.replicate n vs).flatten (List.replicate n xs).flatten
  | 0 => .nil
  | n + 1 => by
    rw [List.replicate_succ, List.replicate_succ, List.flatten_cons, List.flatten_cons]
    exact h.append (Ats.rep h n)
section
variable {J : Jc} {ts te : TE} {gs : G Src} {ga : G D}
theorem eo_rep (ha : ES J ts gs) (hb : ED J te ga) : EO J (tOp rRep ts te) (gRep gs ga) := fun σ H Γ fp R Q hp =>
  ha.go R hp fun s Γ1 v H1 fp1 f hp R1 a1 d1 s1 => by
    cases s with
    | own xs =>
      refine hb.go R1 hp fun y Γ2 w H2 fp2 hp R2 b2 s2 => ?_
      cases b2 with
      | int k =>
        have hp : Post (ofOpt (if -100000 ≤ k ∧ k ≤ 100000 ∧ xs.length * k.toNat ≤ 100000 then some (Ob.lst (List.replicate k.toNat xs).flatten) else none) Γ2) (OkO J σ (U fp) H Q) (XxE J σ (U fp2) H2) := hp
        obtain ⟨z, e, q⟩ := hp.ofOpt
        split at e
        · rename_i c
          cases e
          have a2 : RepO J.K H2 (.lst xs) v f := RepO.frame s2.im a1 fun b u h1 h2 => s2.keep b u h2 fun h3 => d1 b h1 h3
          cases a2 with
          | lst q1 q2 q3 =>
            rename_i l vs
            refine ⟨l, k, vs, rfl, rfl, q1, by omega, by omega, by rw [q2.length]; exact Nat.le_trans c.2.2 (by decide), fun p np => ?_⟩
            obtain ⟨R4, r4, d4, t4⟩ := new_list R2 np (Ats.rep q2 k.toNat)
            have st : Step (U fp) (U fp2) H H2 := by
              have s12 := s1.trans (s2.wide (G := f))
              exact s12.sub fun _ => .inr
            exact q _ _ fp2 _ R4 r4 d4 (st.trans t4)
        · cases e
      | _ => exact hp.elim
    | _ => exact hp.elim
end
section
variable {K : Frag} {mg : Str → Option Value} {X : Cx} {W : WX} {a b : Expr} {p pos : Pos} {ta tb : TE} {sa : G Src} {ga gb : G D}
theorem o_rep (ha : VS K mg X W a ta sa) (hb : VD K mg X W b tb gb) : VO K mg X W (.BinOp a .Mult b pos) (tOp rRep ta tb) (gRep sa gb) := fun k m => ⟨pe_op op_rep (ha k m).1 (hb k m).1, eo_rep (ha k m).2 (hb k m).2⟩
theorem d_int1 (hm : mg "int" = none) (ha : VD K mg X W a ta ga) (hg : Gl X "int" := by rfl) (he : starEach [a] X.env = [(false, eval a X.env)] := by rfl) : VD K mg X W (.Call (.Name "int" p) [a] [] pos) (tCB (fun xs H Q => (∃ i, xs = [.int i] ∧ Q (.int i) H) ∨ ∃ k, xs = [.bl k] ∧ Q (.int (if k then 1 else 0)) H) (tCons ta tNil)) (gCal oInt1 (gConsA ga gNilA)) := fun k m => by
  have h := ha k m
  subst k m
  refine ⟨pe_callTy call_int1 hg hm boot_int (pa_cons h.1 pa_nil he) (by decide) (by decide) he rfl, ed_cal (fun H vs xs z Q hx e q => ?_) (ea_cons h.2 ea_nil)⟩
  cases hx with
  | nil => cases e
  | cons h1 h2 =>
    cases h2 with
    | cons => cases h1 <;> cases e
    | nil =>
      cases h1 with
      | int i => cases e; exact .inl ⟨i, rfl, q _ H (Ext.refl H) (.int i)⟩
      | bl b => cases e; exact .inr ⟨b, rfl, q _ H (Ext.refl H) (.int _)⟩
      | _ => cases e
end
/-! ### a method called without its last argument, None -/
@[simp] def kSnocN (as : List Arg) (Γ : Env) : Res (List Arg) Env := .ok (as ++ [.dat .non]) Γ
def gcSnocN (g : G (List Arg)) (Γ : Env) : Res (List Arg) Env := (g Γ).bind kSnocN
@[simp] theorem gcSnocN_ap (g : G (List Arg)) (Γ : Env) : gcSnocN g Γ = (g Γ).bind kSnocN := rfl
def tSnocN (t : TA) : TA := fun σ H Q => t σ H fun vs H1 => Q (vs ++ [.non]) H1
theorem argsR_snoc {K : Frag} {H : Hp} {σ : St} : ∀ {as : List Arg} {vs : List V} {f : Fp}, ArgsR K H σ as vs f → ArgsR K H σ (as ++ [.dat .non]) (vs ++ [.non]) f
  | _, _, f, .nil n => .cons (f := fun _ => False) (g := fun _ => False) ⟨At.non, fun _ z => z⟩ (.nil fun _ z => z) (fun _ z => z.elim) fun b => ⟨fun z => (n b z).elim, fun z => z.elim (fun z => z.elim) fun z => z.elim⟩
  | _, _, _, .cons h r d e => .cons h (argsR_snoc r) d e
theorem ec_snocN {J : Jc} {t : TA} {g : G (List Arg)} (h : EC J t g) : EC J (tSnocN t) (gcSnocN g) := fun σ H Γ fp R Q hp =>
  h σ H Γ fp R _ ((Post.bind hp).imp (fun as Γ1 q vs H1 fp1 f R1 a1 d1 s1 => q _ H1 fp1 f R1 (argsR_snoc a1) d1 s1) fun _ _ z => z)
section
variable {X : Cx} {CX : CXT} {k : Nat} {f C : Addr} {fd : FuncData} {ps : List Str} {sp : Sp} {E : St → XK} {x m : Str} {p pos apos : Pos} {e o : Expr} {es : List Expr} {ta : TE} {t : TA}
theorem run_fnN {pins : List (Addr × Obj)} {σ : St} {H : Hp} {s : Shared} {Q : VK} {us : List Value} {vs : List V} (F : FnOk X.prog X.w X.K X.mg X.base CX k f fd ps sp) (hr : Room k X.A) (hb : Binds X.K fd ps [.none]) (hx : PassesAt CX X σ (E σ)) (I : Inv X pins σ H s) (r : Vals vs us)
    (h : sp (vs ++ [.non]) H Q (E σ)) : wpAny (model X.prog X.w) X.A (call (.ref f) us) (EP X pins σ Q) X.xe s := by
  have r2 : Vals (vs ++ [V.non]) (us ++ [Value.none]) := Vals.append r (.cons rfl .nil)
  have hl : (us ++ [Value.none]).length = ps.length := by rw [← r2.length]; exact F.len _ _ _ _ h
  refine wpAny_call (codeAny_mono (F.run X.A X.stack s H ⟨us, []⟩ (us ++ [.none]) (vs ++ [.non]) Q (E σ) hr I.env0 (hb s us I.kIn hl) r2 h) fun q s' hq => ?_)
  cases q with
  | error z => exact hx pins H s z s' I hq
  | ok fl =>
    cases fl with
    | ret u => exact I.after hq
    | next => exact hq.elim
    | brk => exact hq.elim
    | cont => exact hq.elim
theorem pe_methN {pl : Sem Bool} (he : PE X o ta) (c : Cls X.K C) (hm : Meth X.K C m f) (F : FnOk X.prog X.w X.K X.mg X.base CX k f fd ps sp) (hr : Room k X.A) (hb : Binds X.K fd ps [.none]) (hx : ∀ σ, PassesAt CX X σ (E σ)) (ha : PA X (e :: es) t)
    (hst : starEach (e :: es) X.env = (false, eval e X.env) :: starEach es X.env := by rfl) (hpl : (backTo pos (starEach es X.env)).any (·.1) = false := by rfl)
    (ht : eval (.Call (.Attribute o m apos) (e :: es) [] pos) X.env = (do
      let ov ← eval o X.env; standAt apos.atName
      let (f, first) ← holding [ov] (getMethod ov m pl); callWith pos f first (backTo pos (starEach (e :: es) X.env)) (backToKw pos (keywordEach [] X.env))) := by rfl) :
    PE X (.Call (.Attribute o m apos) (e :: es) [] pos) (tMethS C m sp E ta (tSnocN t)) := by
  refine ⟨fun pins s σ H Q I h => PySem.W.methodCall_KW (pl := pl) (thn (he.run pins s σ H _ I h) fun u s1 ⟨x, H1, I1, rx, a, dx, fs, ex, ea, l, q⟩ => ?_) ht⟩
  subst ex
  obtain rfl : u = Value.ref a := rx
  refine getmeth_ok I1 ea c hm l (PySem.W.callWith_K (first := [.ref a]) (h₀ := X.base) I.ok.mod.kin hm.kp (thn (ha.run pos pins s1 σ H1 _ I1 q) fun us s2 ⟨vs, H2, I2, r, q2⟩ => ⟨I2.kIn, ?_⟩) hst hpl)
  exact run_fnN (us := .ref a :: us) (vs := .ref a :: vs) F hr hb (hx σ) I2 (.cons rfl r) q2
end
/-- a method whose last argument may be left out -/
structure CalleeN (K : Frag) (mg : Str → Option Value) (P : Program) (w : World) (base : Heap) (C : Addr) (m : Str) (k : Nat) (ps : List Str) (mf : Mf) : Prop where
  ex : ∃ (f : Addr) (fd : FuncData), FnOk P w K mg base (L2.CX P w) k f fd ps (SpM K mg mf) ∧ Meth K C m f ∧ Binds K fd ps [.none]
section
variable {K : Frag} {mg : Str → Option Value} {X : Cx} {W : WX} {a e : Expr} {es : List Expr} {C : Addr} {n x : Str} {px : Pos} {tcs : TA} {gcs : G (List Arg)} {ps : List Str} {mf : Mf} {k j : Nat} {cpos apos : Pos}
theorem o_methN {pl : Sem Bool} (i : Nat) (c : Cls K C) (F : CalleeN K mg X.prog X.w X.base C n j ps mf) (hr : Room k X.A) (hj : j ≤ k) (tk : Takes X W) (h : VC K mg X W (a :: es) tcs gcs) (hN : X.N[i]? = some x := by rfl) (hv : Vis X.env.scope x := by first | exact Or.inl rfl | exact Or.inr (Or.inl rfl) | exact Or.inr (Or.inr rfl)) (hd : (x == ("__debug__" : Str)) = false := by decide)
    (hcd : (x == ("__classdict__" : Str)) = false := by decide) (hst : starEach (a :: es) X.env = (false, eval a X.env) :: starEach es X.env := by rfl) (hpl : (backTo cpos (starEach es X.env)).any (·.1) = false := by rfl)
    (ht : eval (.Call (.Attribute (.Name x px) n apos) (a :: es) [] cpos) X.env = (do
      let ov ← eval (.Name x px) X.env; standAt apos.atName
      let (f, first) ← holding [ov] (getMethod ov n pl); callWith cpos f first (backTo cpos (starEach (a :: es) X.env)) (backToKw cpos (keywordEach [] X.env))) := by rfl) :
    VO K mg X W (.Call (.Attribute (.Name x px) n apos) (a :: es) [] cpos) (tMethS C n (SpM K mg mf) (WE W) (tVar i) (tSnocN tcs)) (gMeth C i n mf (gcSnocN gcs)) := fun q l => by
  have h := h q l
  obtain ⟨f, fd, F, q1, q2⟩ := F.ex
  subst q l
  exact ⟨pe_methN (pl := pl) (pe_var hN hv hd hcd) c q1 F (hr.mono hj) q2 (fun σ => passAt tk σ) h.1 hst hpl ht, eo_meth (ec_cons (ec1_s i) (ec_snocN h.2))⟩
end
theorem binds_last {K : Frag} {x qual : Str} {params : Arguments} {body : List Stmt} {scope : Scope} {f : Addr} {fd : FuncData} {ps : List Str} (F : FunD K x qual params body scope [.non] [] f fd) (n : Nat) (hn : n + 1 = ps.length)
    (h : ∀ (T : Addr) (kV doc pm : Value) (an : Option Addr) (cdv ct : Value) (us its : List Value), us.length = n → its.length = 1 →
      ∃ k, bindArgs (PySem.W.fnOf x qual params body scope (.ref T) kV doc pm an cdv ct) ⟨us, []⟩ = seqItems? (.ref T) >>= k ∧ k (some its.toArray) = pure (ps.zip (us ++ its.drop 0))) : Binds K fd ps [.none] := by
  obtain ⟨ds, hv, hb⟩ := F.binds1 n 0 (by simp) hn h
  cases hv with
  | cons h1 h2 =>
    cases h2
    cases h1
    exact hb
@[simp] def fin3 (x : Ex) : Option (List Ob) → Res Ob (List Ob)
  | some os => .ex x os
  | none => .bad
@[simp] theorem fin_ex (m : List Bool) (os : List Ob) (x : Ex) (Γ : Env) : fin m os (.ex x Γ) = fin3 x (collect m os Γ) := by
  have h : fin m os (.ex x Γ) = match collect m os Γ with
    | some os' => .ex x os'
    | none => .bad := rfl
  rw [h]
  cases collect m os Γ <;> rfl
@[simp] theorem oIsN_bl (a : Bool) : oIsN (.bl a) .non = some (.bl false) := rfl
@[simp] theorem oIsN_fl (xs : List D) : oIsN (.fl xs) .non = some (.bl false) := rfl
@[simp] theorem oIsN_fd : oIsN .fd .non = some (.bl false) := rfl
end Gm

/-! Gm23: lists of objects: one of them as an argument, as a method's owner; new ones, longer ones. -/
namespace Gm
open PySem PySem.Spec PyProof.Rows L2
@[simp] def obsAt (Γ : Env) (i : Nat) : Option (List Ob) := match Γ[i]? with
  | some (some (.obs xs)) => some xs
  | _ => none
theorem obsAt_some {Γ : Env} {i : Nat} {xs : List Ob} (h : obsAt Γ i = some xs) : Γ[i]? = some (some (.obs xs)) := by
  unfold obsAt at h
  split at h
  · cases h; assumption
  · cases h
theorem slot_obs {K : Frag} {H : Hp} {σ : St} {Γ : Env} {fp : Nat → Fp} (R : Rel K H σ Γ fp) {i : Nat} {xs : List Ob} (e : Γ[i]? = some (some (.obs xs))) :
    ∃ p vs g, σ[i]? = some (some (.ref p)) ∧ H p = some (.lst vs) ∧ RepOs K H xs vs g ∧ ¬ g p ∧ ∀ b, fp i b ↔ b = p ∨ g b := by
  obtain ⟨v, h1, h2⟩ := R.rep i _ e
  cases h2 with
  | obs a1 a2 a3 a4 => exact ⟨_, _, _, h1, a1, a2, a3, a4⟩
/-! ### one of them as an argument -/
@[simp] def kcI (i : Nat) (x : D) (Γ : Env) : Res Arg Env := match x, obsAt Γ i with
  | .int n, some xs => match ixN xs.length n with
    | some j => .ok (.itm i j xs) (Γ.set i none)
    | none => .bad
  | _, _ => .bad
def gcI (i : Nat) (a : G D) (Γ : Env) : Res Arg Env := match obsAt Γ i with
  | some _ => (a Γ).bind (kcI i)
  | none => .bad
@[simp] theorem gcI_ap (i : Nat) (a : G D) (Γ : Env) : gcI i a Γ = match obsAt Γ i with
  | some _ => (a Γ).bind (kcI i)
  | none => .bad := rfl
section
variable {J : Jc} {te : TE} {ga : G D} {i : Nat}
theorem ec1_i (ha : ED J te ga) : EC1 J (tOp (rIx J.K) (tVar i) te) (gcI i ga) := fun σ H Γ fp R Q hp => by
  unfold gcI at hp
  cases e : obsAt Γ i with
  | none => rw [e] at hp; exact hp.elim
  | some xs0 =>
    rw [e] at hp
    obtain ⟨p, vs0, g0, h1, _⟩ := slot_obs R (obsAt_some e)
    refine ⟨.ref p, h1, ha σ H Γ fp R _ ((Post.bind hp).imp (fun x Γ1 q v H1 fp1 R1 r s => ?_) fun _ _ z => z)⟩
    unfold kcI at q
    cases e1 : obsAt Γ1 i with
    | none => rw [e1] at q; cases x <;> exact q.elim
    | some xs =>
      rw [e1] at q
      cases r with
      | int n =>
        dsimp only at q
        obtain ⟨p', vs, g, k1, k2, k3, k4, k5⟩ := slot_obs R1 (obsAt_some e1)
        rw [h1] at k1
        cases k1
        cases ej : ixN xs.length n with
        | none => rw [ej] at q; exact q.elim
        | some j =>
          rw [ej] at q
          obtain ⟨v', w1, w2, R2, hd, hu⟩ := R1.take (obsAt_some e1)
          have hj : j < vs.length := by
            rw [k3.length]
            exact (ixN_seq ej).2.1
          have hv : L2.atI vs n = some vs[j] := by
            unfold L2.atI
            rw [k3.length, ej]
            simp [hj]
          refine .inl ⟨_, _, _, _, rfl, rfl, .inl (.inl k2), hv, ?_⟩
          exact q _ H1 _ (fp1 i) R2 ⟨p, vs, g, h1, k2, k3, k4, k5, by simp [hj]⟩ hd (s.sub fun b z => (hu b).mpr z)
      | _ => exact q.elim
end
section
variable {K : Frag} {mg : Str → Option Value} {X : Cx} {W : WX} {a b : Expr} {es : List Expr} {x : Str} {px pos : Pos} {tb : TE} {gb : G D}
theorem c_item (i : Nat) (hb : VD K mg X W b tb gb) (hs : PlainIx b := by exact fun _ _ => rfl) (hN : X.N[i]? = some x := by rfl) (hv : Vis X.env.scope x := by first | exact Or.inl rfl | exact Or.inr (Or.inl rfl) | exact Or.inr (Or.inr rfl)) (hd : (x == ("__debug__" : Str)) = false := by decide)
    (hcd : (x == ("__classdict__" : Str)) = false := by decide) : VC1 K mg X W (.Subscript (.Name x px) b pos) (tOp (rIx K) (tVar i) tb) (gcI i gb) := fun k m =>
  ⟨pe_ix (by subst k; exact ix_seq) (pe_var hN hv hd hcd) (hb k m).1 hs, ec1_i (hb k m).2⟩
end
/-! ### .. as a method's owner -/
@[simp] def insJ (C : Addr) (n : Str) : Arg → Bool
  | .itm _ j xs => match xs[j]? with
    | some (.ins D fs) => D == C && (fs.lookup n).isNone
    | _ => false
  | _ => false
@[simp] def kMethI2 (mf : Mf) (a : Arg) (as : List Arg) (Γ : Env) : Res Ob Env := kCall mf (a :: as) Γ
@[simp] def kMethI (C : Addr) (n : Str) (mf : Mf) (gas : G (List Arg)) (a : Arg) (Γ : Env) : Res Ob Env := if insJ C n a then (gas Γ).bind (kMethI2 mf a) else .bad
def gMethI (C : Addr) (i : Nat) (gj : G D) (n : Str) (mf : Mf) (gas : G (List Arg)) (Γ : Env) : Res Ob Env := (gcI i gj Γ).bind (kMethI C n mf gas)
@[simp] theorem gMethI_ap (C : Addr) (i : Nat) (gj : G D) (n : Str) (mf : Mf) (gas : G (List Arg)) (Γ : Env) : gMethI C i gj n mf gas Γ = (gcI i gj Γ).bind (kMethI C n mf gas) := rfl
section
variable {J : Jc} {te : TE} {ta : TA} {gj : G D} {gas : G (List Arg)} {i : Nat} {C : Addr} {n : Str} {mf : Mf}
theorem eo_methI (hj : EC1 J te (gcI i gj)) (ha : EC J ta gas) : EO J (tMethS C n (SpM J.K J.mg mf) (WE J.W) te ta) (gMethI C i gj n mf gas) := fun σ H Γ fp R Q hp =>
  hj σ H Γ fp R _ ((Post.bind hp).imp (fun a Γ1 q v H1 fp1 f R1 a1 d1 s1 => by
    unfold kMethI at q
    cases c : insJ C n a with
    | false => rw [c] at q; exact q.elim
    | true =>
      rw [c] at q
      cases a with
      | itm i0 j xs =>
        simp only [insJ] at c
        cases ex : xs[j]? with
        | none => rw [ex] at c; cases c
        | some o =>
          rw [ex] at c
          cases o with
          | ins D fs =>
            simp only [Bool.and_eq_true, beq_iff_eq, Option.isNone_iff_eq_none] at c
            obtain ⟨rfl, c2⟩ := c
            have a1' := a1
            obtain ⟨p, vs, g, h1, h2, h3, h4, h5, h6⟩ := a1
            obtain ⟨v', fx, gr, q1, q2, q3, q4, q5⟩ := h3.take ex
            rw [h6] at q1
            cases q1
            cases q2 with
            | ins b1 b2 b3 b4 =>
              refine ⟨_, _, _, rfl, b1, b2.lookNone c2, ?_⟩
              exact ha σ H1 Γ1 fp1 R1 _ ((Post.bind q).imp (fun as Γ2 q vs H2 fp2 g2 R2 a2 d2 s2 => by
                have s2' : Step (U fp1) (U fp2) H1 H2 := s2.sub fun _ => .inr
                refine call_run R2 (as := .itm i0 j xs :: as) (f := fun b => f b ∨ g2 b) (.cons (a1'.frame s2.im fun b u z e => s2.keep b u e fun z2 => d1 b z z2) a2 (fun b z1 z2 => ?_) fun _ => Iff.rfl) (fun b z1 z2 => z1.elim (fun z => dis_step s2' a1'.own d1 b z z2) fun z => d2 b z z2) ((s1.trans s2.wide).sub fun b z => ?_) ?_
                · rcases s2.fresh b (.inl z2) with z | z
                  · exact d1 b z1 z
                  · exact (a1'.own b z1).ne_none z
                · rcases z with (z | z) | z
                  · exact .inl z
                  · exact .inr (.inl z)
                  · exact .inr (.inr z)
                · have q : Post (kCall mf (.itm i0 j xs :: as) Γ2) (OkO J σ (U fp) H Q) (XxE J σ (U fp) H) := q
                  rw [show callA mf (.itm i0 j xs :: as) Γ2 = kCall mf (.itm i0 j xs :: as) Γ2 by
                    unfold callA kCall kCall2
                    cases takeA (.itm i0 j xs :: as) Γ2 with
                    | none => rfl
                    | some pr => dsimp only; cases mf pr.1 <;> rfl]
                  exact q) fun _ _ z => z.from (s1.sub fun _ => .inr))
          | _ => cases c
      | _ => cases c) fun _ _ z => z)
end
section
variable {K : Frag} {mg : Str → Option Value} {X : Cx} {W : WX} {a b e : Expr} {es : List Expr} {C : Addr} {n x : Str} {px ps1 : Pos} {tb : TE} {gb : G D} {tcs : TA} {gcs : G (List Arg)} {ps : List Str} {mf : Mf} {k j : Nat} {cpos apos pos : Pos}
theorem o_methI {pl : Sem Bool} (i : Nat) (c : Cls K C) (F : CalleeM K mg X.prog X.w X.base C n j ps mf) (hr : Room k X.A) (hj : j ≤ k) (tk : Takes X W) (hb : VD K mg X W b tb gb) (h : VC K mg X W (a :: es) tcs gcs) (hs : PlainIx b := by exact fun _ _ => rfl) (hN : X.N[i]? = some x := by rfl) (hv : Vis X.env.scope x := by first | exact Or.inl rfl | exact Or.inr (Or.inl rfl) | exact Or.inr (Or.inr rfl)) (hd : (x == ("__debug__" : Str)) = false := by decide)
    (hcd : (x == ("__classdict__" : Str)) = false := by decide) (hst : starEach (a :: es) X.env = (false, eval a X.env) :: starEach es X.env := by rfl) (hpl : (backTo cpos (starEach es X.env)).any (·.1) = false := by rfl)
    (ht : eval (.Call (.Attribute (.Subscript (.Name x px) b ps1) n apos) (a :: es) [] cpos) X.env = (do
      let ov ← eval (.Subscript (.Name x px) b ps1) X.env; standAt apos.atName
      let (f, first) ← holding [ov] (getMethod ov n pl); callWith cpos f first (backTo cpos (starEach (a :: es) X.env)) (backToKw cpos (keywordEach [] X.env))) := by rfl) :
    VO K mg X W (.Call (.Attribute (.Subscript (.Name x px) b ps1) n apos) (a :: es) [] cpos) (tMethS C n (SpM K mg mf) (WE W) (tOp (rIx K) (tVar i) tb) tcs) (gMethI C i gb n mf gcs) := fun q l => by
  have h := h q l
  have h2 := c_item (pos := ps1) (px := px) i hb hs hN hv hd hcd q l
  obtain ⟨f, fd, F, q1, q2⟩ := F.ex
  subst q l
  exact ⟨pe_methS (pl := pl) h2.1 c q1 F (hr.mono hj) q2 (fun σ => passAt tk σ) h.1 hst hpl ht, eo_methI h2.2 h.2⟩
theorem o_methI0 {pl : Sem Bool} (i : Nat) (c : Cls K C) (F : CalleeM K mg X.prog X.w X.base C n j ps mf) (hr : Room k X.A) (hj : j ≤ k) (tk : Takes X W) (hb : VD K mg X W b tb gb) (hs : PlainIx b := by exact fun _ _ => rfl) (hN : X.N[i]? = some x := by rfl) (hv : Vis X.env.scope x := by first | exact Or.inl rfl | exact Or.inr (Or.inl rfl) | exact Or.inr (Or.inr rfl)) (hd : (x == ("__debug__" : Str)) = false := by decide)
    (hcd : (x == ("__classdict__" : Str)) = false := by decide)
    (ht : eval (.Call (.Attribute (.Subscript (.Name x px) b ps1) n apos) [] [] cpos) X.env = (do
      let ov ← eval (.Subscript (.Name x px) b ps1) X.env; standAt apos.atName
      let (f, first) ← holding [ov] (getMethod ov n pl); callWith cpos f first (backTo cpos (starEach [] X.env)) (backToKw cpos (keywordEach [] X.env))) := by rfl) :
    VO K mg X W (.Call (.Attribute (.Subscript (.Name x px) b ps1) n apos) [] [] cpos) (tMethS C n (SpM K mg mf) (WE W) (tOp (rIx K) (tVar i) tb) tNil) (gMethI C i gb n mf gcNil) := fun q l => by
  have h2 := c_item (pos := ps1) (px := px) i hb hs hN hv hd hcd q l
  obtain ⟨f, fd, F, q1, q2⟩ := F.ex
  subst q l
  exact ⟨pe_methS0 (pl := pl) h2.1 c q1 F (hr.mono hj) q2 (fun σ => passAt tk σ) ht, eo_methI h2.2 ec_nil⟩
end
/-! ### a new list of objects -/
theorem ArgsR.own {K : Frag} {H : Hp} {σ : St} : ∀ {as : List Arg} {vs : List V} {f : Fp}, ArgsR K H σ as vs f → ∀ b, f b → Own1 (H b)
  | _, _, _, .nil n, b, z => (n b z).elim
  | _, _, _, .cons h r d u, b, z => ((u b).mp z).elim (fun z => h.own b z) fun z => r.own b z
@[simp] def obsA : List Arg → Option (List Ob)
  | [] => some []
  | .dat x :: as => (obsA as).map (.d x :: ·)
  | .own o :: as => (obsA as).map (o :: ·)
  | _ :: _ => none
@[simp] def kLstO (as : List Arg) (Γ : Env) : Res Ob Env := if as.length < 1000 then ofOpt ((obsA as).map .obs) Γ else .bad
def gLstO (ga : G (List Arg)) (Γ : Env) : Res Ob Env := (ga Γ).bind kLstO
@[simp] theorem gLstO_ap (ga : G (List Arg)) (Γ : Env) : gLstO ga Γ = (ga Γ).bind kLstO := rfl
theorem obsA_ok {K : Frag} {H : Hp} {σ : St} : ∀ {as : List Arg} {vs : List V} {f : Fp} {os : List Ob}, ArgsR K H σ as vs f → obsA as = some os → RepOs K H os vs f
  | _, _, _, _, .nil n, e => by cases e; exact .nil n
  | _, _, _, _, .cons (a := a) h r d u, e => by
    cases a with
    | dat x =>
      simp only [obsA, Option.map_eq_some_iff] at e
      obtain ⟨os, e, rfl⟩ := e
      exact .cons (.d h.1 h.2) (obsA_ok r e) d u
    | own o =>
      simp only [obsA, Option.map_eq_some_iff] at e
      obtain ⟨os, e, rfl⟩ := e
      exact .cons h (obsA_ok r e) d u
    | _ => cases e
section
variable {J : Jc} {ta : TA} {ga : G (List Arg)}
theorem eo_lstO (ha : EC J ta ga) : EO J (tLst ta) (gLstO ga) := fun σ H Γ fp R Q hp =>
  ha σ H Γ fp R _ ((Post.bind hp).imp (fun as Γ1 q vs H1 fp1 f R1 a1 d1 s1 => by
    unfold kLstO at q
    by_cases c : as.length < 1000
    · rw [if_pos c] at q
      obtain ⟨o, e, q⟩ := q.ofOpt
      rw [Option.map_eq_some_iff] at e
      obtain ⟨os, e, rfl⟩ := e
      refine ⟨by rw [← a1.length]; exact Nat.le_trans (Nat.le_of_lt c) (by decide), fun p np => ?_⟩
      have ex := Ext.new (o := HO.lst vs) np
      have hp : ¬ f p := fun z => (a1.own p z).ne_none np
      have hp2 : ¬ U fp1 p := fun z => (R1.own p z).ne_none np
      refine q (.ref p) _ fp1 (fun b => b = p ∨ f b) (R1.ext ex) (.obs upd_same ((obsA_ok a1 e).frame ex.im fun b u _ h => ex b u h) hp fun _ => Iff.rfl) (fun b z1 z2 => ?_) ((s1.trans ⟨ex.im, fun b u h _ => ex b u h, fun b z => ?_⟩))
      · rcases z1 with z | z
        · exact hp2 (z ▸ z2)
        · exact d1 b z z2
      · rcases z with (z | z) | z
        · exact .inr (z ▸ np)
        · exact .inl (.inl z)
        · exact .inl (.inr z)
    · rw [if_neg c] at q; exact q.elim) fun _ _ z => z)
end
/-! ### xs.append(o), len(xs) -/
@[simp] def kAppO2 (i : Nat) (o : Ob) (Γ : Env) : Option (List Ob) → Res Fl Env
  | some xs => if xs.length < 100000 then .ok .nx (Γ.set i (some (.obs (xs ++ [o])))) else .bad
  | none => .bad
@[simp] def kAppO (i : Nat) (o : Ob) (Γ : Env) : Res Fl Env := kAppO2 i o Γ (obsAt Γ i)
def gAppO (i : Nat) (a : G Ob) (Γ : Env) : Res Fl Env := match obsAt Γ i with
  | some _ => (a Γ).bind (kAppO i)
  | none => .bad
@[simp] theorem gAppO_ap (i : Nat) (a : G Ob) (Γ : Env) : gAppO i a Γ = match obsAt Γ i with
  | some _ => (a Γ).bind (kAppO i)
  | none => .bad := rfl
section
variable {J : Jc} {te : TE} {go : G Ob} {m : List Bool}
theorem ss_appO {i : Nat} (ha : EO J te go) : SS J m (tDrop (tBM J.K "list" rAppend (tVar i) (tCons te tNil))) (gAppO i go) := fun σ H Γ fp R D hp => by
  unfold gAppO at hp
  cases e0 : obsAt Γ i with
  | none => rw [e0] at hp; exact hp.elim
  | some xs0 =>
    rw [e0] at hp
    obtain ⟨p, vs0, g0, h1, h2, h3, h4, h5⟩ := slot_obs R (obsAt_some e0)
    refine ⟨.ref p, h1, .inl ⟨rfl, vs0, .inl (.inl h2)⟩, ha σ H Γ fp R _ ((Post.bind hp).imp (fun o Γ1 q v H' fp' f R' r d s => ?_) fun _ _ z => z.e)⟩
    unfold kAppO at q
    cases e1 : obsAt Γ1 i with
    | none => rw [e1] at q; exact q.elim
    | some xs =>
      rw [e1] at q
      obtain ⟨p', ws, g, k1, k2, k3, k4, k5⟩ := slot_obs R' (obsAt_some e1)
      rw [h1] at k1
      cases k1
      unfold kAppO2 at q
      dsimp only at q
      by_cases c : xs.length < 100000
      · rw [if_pos c] at q
        obtain ⟨v', w1, w2, R2, hd, hu⟩ := R'.take (obsAt_some e1)
        have im : Im H' (upd H' p (.lst (ws ++ [v]))) := ⟨fun b xs e => by rw [upd_ne fun z => by rw [z, k2] at e; cases e]; exact e, fun b x y e => by rw [upd_ne fun z => by rw [z, k2] at e; cases e]; exact e, fun b y e => by rw [upd_ne fun z => by rw [z, k2] at e; cases e]; exact e, fun b y e => by rw [upd_ne fun z => by rw [z, k2] at e; cases e]; exact e⟩
        have pin : fp' i p := (k5 p).mpr (.inl rfl)
        have nf : ¬ f p := fun z => d p z ⟨i, pin⟩
        have fg : ∀ b, f b → g b → False := fun b z1 z2 => d b z1 ⟨i, (k5 b).mpr (.inr z2)⟩
        have R3 := R2.frame im fun b u z e => by rw [upd_ne (show b ≠ p from fun y => hd p pin (y ▸ z))]; exact e
        have r3 := r.frame im fun b u z e => by rw [upd_ne (show b ≠ p from fun y => nf (y ▸ z))]; exact e
        have k3' := k3.frame im fun b u z e => by rw [upd_ne (show b ≠ p from fun y => k4 (y ▸ z))]; exact e
        obtain ⟨g', s1, s2⟩ := k3'.snoc r3 fg
        have sp : RepO J.K (upd H' p (.lst (ws ++ [v]))) (.obs (xs ++ [o])) (.ref p) (fun b => b = p ∨ g' b) := .obs upd_same s1 (fun z => ((s2 p).mp z).elim nf k4) fun _ => Iff.rfl
        obtain ⟨R4, u4⟩ := R3.put (σ' := σ) (i := i) rfl h1 (fun _ _ => rfl) sp fun b z1 z2 => by
          rcases z1 with z | z
          · exact hd p pin (z ▸ z2)
          · rcases (s2 b).mp z with y | y
            · exact d b y ((hu b).mpr (.inr z2))
            · exact hd b ((k5 b).mpr (.inr y)) z2
        rw [List.set_set] at R4
        refine ⟨p, ws, v, rfl, rfl, k2, by rw [k3.length]; exact Nat.lt_of_lt_of_le c (by decide), q σ _ _ R4 (Kp.refl _ _) (s.trans ⟨im, fun b u h n => ?_, fun b z => ?_⟩)⟩
        · rw [upd_ne (show b ≠ p from fun y => n (.inr ⟨i, y ▸ pin⟩))]
          exact h
        · rcases u4 b z with y | y
          · rcases y with y | y
            · exact .inl (.inr ⟨i, y ▸ pin⟩)
            · rcases (s2 b).mp y with y | y
              · exact .inl (.inl y)
              · exact .inl (.inr ⟨i, (k5 b).mpr (.inr y)⟩)
          · exact .inl (.inr ((hu b).mpr (.inr y)))
      · rw [if_neg c] at q; exact q.elim
end
@[simp] def gLenB (i : Nat) (Γ : Env) : Res D Env := match obsAt Γ i with
  | some xs => if xs.length < 1000000 then .ok (.int xs.length) Γ else .bad
  | none => .bad
theorem ed_lenB {J : Jc} (i : Nat) : ED J (tCB (fun xs H Q => ∃ x n, xs = [x] ∧ LenV J.K x H n ∧ Q (.int n) H) (tCons (tVar i) tNil)) (gLenB i) := fun σ H Γ fp R Q hp => by
  unfold gLenB at hp
  cases e0 : obsAt Γ i with
  | none => rw [e0] at hp; exact hp.elim
  | some xs =>
    rw [e0] at hp
    dsimp only at hp
    obtain ⟨p, vs, g, h1, h2, h3, h4, h5⟩ := slot_obs R (obsAt_some e0)
    by_cases c : xs.length < 1000000
    · rw [if_pos c] at hp
      refine ⟨.ref p, h1, _, _, rfl, .inl ⟨vs, .inl (.inl h2), rfl⟩, ?_⟩
      rw [h3.length]
      exact hp _ H fp R (.int _) (Step.refl _ _)
    · rw [if_neg c] at hp; exact hp.elim
/-! ### xs[i][j] where xs holds lists -/
@[simp] def lstO : Option Ob → Option (List D)
  | some (.lst xs) => some xs
  | _ => none
@[simp] def kIxI2 (i : Nat) (n : Int) (y : D) (Γ : Env) : Res D Env := match y, obsAt Γ i with
  | .int k, some xs => ofOpt ((lstO (L2.atI xs n)).bind fun ys => L2.atI ys k) Γ
  | _, _ => .bad
@[simp] def pureD (b : G D) : Prop := ∀ Γ, (∃ x, b Γ = .ok x Γ) ∨ b Γ = .bad
@[simp] def kIxI (i : Nat) (c : D) (x : D) (Γ : Env) : Res D Env := match x with
  | .int n => kIxI2 i n c Γ
  | _ => .bad
/-- the inner index is written -/
def gIxI (i : Nat) (a : G D) (c : D) (Γ : Env) : Res D Env := match obsAt Γ i with
  | some _ => (a Γ).bind (kIxI i c)
  | none => .bad
@[simp] theorem gIxI_ap (i : Nat) (a : G D) (c : D) (Γ : Env) : gIxI i a c Γ = match obsAt Γ i with
  | some _ => (a Γ).bind (kIxI i c)
  | none => .bad := rfl
theorem RepOs.get {K : Frag} {H : Hp} {os : List Ob} {vs : List V} {g : Fp} {n : Int} {o : Ob} (h : RepOs K H os vs g) (e : L2.atI os n = some o) : ∃ v f, L2.atI vs n = some v ∧ RepO K H o v f := by
  unfold L2.atI at e ⊢
  rw [h.length]
  cases ej : ixN os.length n with
  | none => rw [ej] at e; cases e
  | some j =>
    rw [ej] at e
    obtain ⟨v, f, gr, q1, q2, _⟩ := h.take (j := j) e
    exact ⟨v, f, q1, q2⟩
theorem ed_ixI {J : Jc} {i : Nat} {te : TE} {ga : G D} {k : Int} (ha : ED J te ga) : ED J (tOp (rIx J.K) (tOp (rIx J.K) (tVar i) te) (tC (.int k))) (gIxI i ga (.int k)) := fun σ H Γ fp R Q hp => by
  unfold gIxI at hp
  cases e : obsAt Γ i with
  | none => rw [e] at hp; exact hp.elim
  | some xs0 =>
    rw [e] at hp
    obtain ⟨p, vs0, g0, h1, _⟩ := slot_obs R (obsAt_some e)
    refine ⟨.ref p, h1, ha σ H Γ fp R _ ((Post.bind hp).imp (fun x Γ1 q v H1 fp1 R1 r s => ?_) fun _ _ z => z)⟩
    unfold kIxI at q
    cases r with
    | int n =>
      unfold kIxI2 at q
      cases e1 : obsAt Γ1 i with
      | none => rw [e1] at q; exact q.elim
      | some xs =>
        rw [e1] at q
        obtain ⟨z, ez, q⟩ := q.ofOpt
        obtain ⟨p', vs, g, k1, k2, k3, k4, k5⟩ := slot_obs R1 (obsAt_some e1)
        rw [h1] at k1
        cases k1
        cases eo : L2.atI xs n with
        | none => rw [eo] at ez; cases ez
        | some o =>
          rw [eo] at ez
          cases o with
          | lst ys =>
            obtain ⟨w, f, w1, w2⟩ := k3.get eo
            cases w2 with
            | lst b1 b2 b3 =>
              obtain ⟨u, u1, u2⟩ := b2.atI ez
              exact .inl ⟨_, _, _, _, rfl, rfl, .inl (.inl k2), w1, .inl ⟨_, _, _, u, rfl, rfl, .inl (.inl b1), u1, q u H1 fp1 R1 u2 s⟩⟩
          | _ => cases ez
    | _ => exact q.elim
/-! ### a, b = x, y of objects -/
@[simp] def kParO (i j : Nat) (as : List Arg) (Γ : Env) : Res Fl Env := match obsA as with
  | some [x, y] => if i < Γ.length ∧ j < Γ.length then .ok .nx ((Γ.set i (some x)).set j (some y)) else .bad
  | _ => .bad
def gParO (i j : Nat) (a : G (List Arg)) (Γ : Env) : Res Fl Env := (a Γ).bind (kParO i j)
@[simp] theorem gParO_ap (i j : Nat) (a : G (List Arg)) (Γ : Env) : gParO i j a Γ = (a Γ).bind (kParO i j) := rfl
theorem ss_parO {J : Jc} {m : List Bool} {i j : Nat} {tl : TA} {gl : G (List Arg)} (hi : m[i]? ≠ some true) (hj : m[j]? ≠ some true) (hl : EC J tl gl) : SS J m (tPar i j tl) (gParO i j gl) := fun σ H Γ fp R D hp =>
  hl σ H Γ fp R _ ((Post.bind hp).imp (fun as Γ1 q vs H' fp' f R' a d s => by
    unfold kParO at q
    cases e : obsA as with
    | none => rw [e] at q; exact q.elim
    | some os =>
      rw [e] at q
      have r := obsA_ok a e
      match os, vs, r, q with
      | [x, y], _, .cons a1 (.cons a2 (.nil n0) n1 n2) n3 n4, q =>
        rename_i v1 v2 f1 g1 f2 g2
        have q : Post (if i < Γ1.length ∧ j < Γ1.length then Res.ok Fl.nx ((Γ1.set i (some x)).set j (some y)) else Res.bad) (FlP J m σ (U fp) H D) (XxP J m σ (U fp) H) := q
        have e1 : ∀ b, f2 b → f b := fun b z => (n4 b).mpr (.inr ((n2 b).mpr (.inl z)))
        have e0 : ∀ b, f1 b → f b := fun b z => (n4 b).mpr (.inl z)
        by_cases c : i < Γ1.length ∧ j < Γ1.length
        · rw [if_pos c] at q
          obtain ⟨fp2, R2, u2⟩ := put_slot R' c.1 a1 fun b z1 z2 => d b (e0 b z1) z2
          obtain ⟨fp3, R3, u3⟩ := put_slot (i := j) R2 (by rw [List.length_set]; exact c.2) a2 fun b z1 z2 => by
            rcases u2 b z2 with z | z
            · exact n3 b z ((n2 b).mpr (.inl z1))
            · exact d b (e1 b z1) z
          exact ⟨_, _, rfl, q _ H' fp3 R3 ((kp_set hi).trans (kp_set hj)) (s.sub fun b z => (u3 b z).elim (fun z => .inl (e1 b z)) fun z => (u2 b z).elim (fun z => .inl (e0 b z)) .inr)⟩
        · rw [if_neg c] at q; exact q.elim
      | [], _, _, q => exact q.elim
      | [_], _, _, q => exact q.elim
      | _ :: _ :: _ :: _, _, _, q => exact q.elim) fun _ _ z => z.e)
section
variable {K : Frag} {mg : Str → Option Value} {X : Cx} {W : WX} {a b e : Expr} {es : List Expr} {x y : Str} {px pos : Pos} {ta tb te : TE} {ga gb : G D} {go : G Ob} {tcs : TA} {gcs : G (List Arg)} {m : List Bool} {g1 g2 : G Arg}
theorem o_lstO (h : VC K mg X W es tcs gcs) : VO K mg X W (.List es pos) (tLst tcs) (gLstO gcs) := fun k l => ⟨pe_lst (h k l).1, eo_lstO (h k l).2⟩
theorem st_appO (i : Nat) {x : Str} {px apos cpos : Pos} (h : VO K mg X W e te go) (hN : X.N[i]? = some x := by rfl) (hv : Vis X.env.scope x := by first | exact Or.inl rfl | exact Or.inr (Or.inl rfl) | exact Or.inr (Or.inr rfl)) (hd : (x == ("__debug__" : Str)) = false := by decide)
    (hcd : (x == ("__classdict__" : Str)) = false := by decide) (he : starEach [e] X.env = [(false, eval e X.env)] := by rfl) (hbase : attributeBase (.Name x px) "append" X.env (eval (.Name x px) X.env) = eval (.Name x px) X.env := by rfl)
    (hfew : ((backTo cpos (starEach [e] X.env)).all (fun x => !x.1) && (backToKw cpos (keywordEach [] X.env)).all (fun x => x.1.isSome) && decide (([e] : List Expr).length + ([] : List Keyword).length + (if ([] : List Keyword).isEmpty then 0 else 1) < 30)) = true := by rfl)
    (hline : (apos.endLine == cpos.line) = true := by rfl) (hplain : (backTo cpos (starEach [] X.env)).any (·.1) = false := by rfl) (hs : swapsWith (.Call (.Attribute (.Name x px) "append" apos) [e] [] cpos) none pos.line X.env = pure false := by rfl) :
    VSt K mg X W m (.Expr (.Call (.Attribute (.Name x px) "append" apos) [e] [] cpos) pos) (tDrop (tBM K "list" rAppend (tVar i) (tCons te tNil))) (gAppO i go) := fun k n => by
  have h := h k n
  subst k
  exact ⟨ps_expr (pe_bm PySem.F.plainAttrs_list PySem.F.slot_list_append PySem.F.type_list_append mt_append (pe_var hN hv hd hcd) (pa_cons h.1 pa_nil he) hbase hfew hline he hplain) hs, ss_appO h.2⟩
theorem d_lenB (i : Nat) {p : Pos} (hm : mg "len" = none) (hg : Gl X "len" := by rfl) (hN : X.N[i]? = some x := by rfl) (hv : Vis X.env.scope x := by first | exact Or.inl rfl | exact Or.inr (Or.inl rfl) | exact Or.inr (Or.inr rfl)) (hd : (x == ("__debug__" : Str)) = false := by decide)
    (hcd : (x == ("__classdict__" : Str)) = false := by decide) (he : starEach [.Name x px] X.env = [(false, eval (.Name x px) X.env)] := by rfl) : VD K mg X W (.Call (.Name "len" p) [.Name x px] [] pos) (tCB (fun xs H Q => ∃ x n, xs = [x] ∧ LenV K x H n ∧ Q (.int n) H) (tCons (tVar i) tNil)) (gLenB i) := fun k m => by
  subst k m
  exact ⟨pe_callB call_len hg hm boot_len (pa_cons (pe_var hN hv hd hcd) pa_nil he) (by decide) (by decide) he rfl, ed_lenB i⟩
theorem d_ixI (i : Nat) {c : Int} {cn : Nat} {p1 p2 : Pos} (hb : VD K mg X W b tb gb) (hs : PlainIx b := by exact fun _ _ => rfl) (hs2 : PlainIx (.Constant (.int c) cn p1) := by exact fun _ _ => rfl) (hN : X.N[i]? = some x := by rfl) (hv : Vis X.env.scope x := by first | exact Or.inl rfl | exact Or.inr (Or.inl rfl) | exact Or.inr (Or.inr rfl)) (hd : (x == ("__debug__" : Str)) = false := by decide)
    (hcd : (x == ("__classdict__" : Str)) = false := by decide) : VD K mg X W (.Subscript (.Subscript (.Name x px) b p2) (.Constant (.int c) cn p1) pos) (tOp (rIx K) (tOp (rIx K) (tVar i) tb) (tC (.int c))) (gIxI i gb (.int c)) := fun k m =>
  ⟨pe_ix (by subst k; exact ix_seq) (pe_ix (by subst k; exact ix_seq) (pe_var hN hv hd hcd) (hb k m).1 hs) pe_int hs2, ed_ixI (hb k m).2⟩
theorem st_parO (i j : Nat) {x y : Str} {px py pt : Pos} {kt k2 : Nat} {pt2 : Pos} (hc : X.calm = true) (hN : X.N.Nodup) (h1 : VC1 K mg X W a ta g1) (h2 : VC1 K mg X W b tb g2) (hij : i ≠ j := by decide) (hmi : m[i]? ≠ some true := by decide) (hmj : m[j]? ≠ some true := by decide) (hi : X.N[i]? = some x := by rfl) (hj : X.N[j]? = some y := by rfl)
    (hx : X.env.scope.names.lookup x = some .local := by rfl) (hy : X.env.scope.names.lookup y = some .local := by rfl) (hs1 : starEach [a, b] X.env = (false, eval a X.env) :: starEach [b] X.env := by rfl) (hs2 : starEach [b] X.env = [(false, eval b X.env)] := by rfl)
    (hw : swappedStores [.Tuple [.Name x px, .Name y py] kt pt] (.Tuple [a, b] k2 pt2) X.env = pure (some [x, y]) := by rfl)
    (hs : swapsWithSole [.Tuple [.Name x px, .Name y py] kt pt] (.Tuple [a, b] k2 pt2) pos.line X.env = pure false := by rfl) :
    VSt K mg X W m (.Assign [.Tuple [.Name x px, .Name y py] kt pt] (.Tuple [a, b] k2 pt2) pos) (tPar i j (tCons ta (tCons tb tNil))) (gParO i j (gcCons g1 (gcCons g2 gcNil))) := fun k l =>
  ⟨ps_par hc hN hi hj hij hx hy (pa_cons (h1 k l).1 (pa_cons (h2 k l).1 pa_nil hs2) hs1) hw hs, ss_parO hmi hmj (ec_cons (h1 k l).2 (ec_cons (h2 k l).2 ec_nil))⟩
end
/-! ### -x -/
@[simp] def oNeg : D → Option D
  | .int i => some (.int (-i))
  | _ => none
theorem ed_neg {J : Jc} {ta : TE} {ga : G D} (h : ED J ta ga) : ED J (tUn (rU fun i => .int (-i)) ta) (g1 oNeg ga) := fun σ H Γ fp R Q hp =>
  h.go R hp fun x Γ1 v H1 fp1 hp R1 a1 s1 => by
    obtain ⟨z, e, q⟩ := hp.ofOpt
    cases a1 with
    | int i => cases e; exact ⟨i, rfl, q _ H1 fp1 R1 (.int _) s1⟩
    | _ => cases e
theorem d_neg {K : Frag} {mg : Str → Option Value} {X : Cx} {W : WX} {a : Expr} {pos : Pos} {ta : TE} {ga : G D} (h : VD K mg X W a ta ga) : VD K mg X W (.UnaryOp .USub a pos) (tUn (rU fun i => .int (-i)) ta) (g1 oNeg ga) :=
  fun k m => ⟨pe_un un_neg (h k m).1, ed_neg (h k m).2⟩
@[simp] theorem takeA_itm (i j : Nat) (xs : List Ob) (as : List Arg) (Γ : Env) : takeA (.itm i j xs :: as) Γ = match Γ[i]?, xs[j]? with
    | some none, some x => match takeA as (Γ.set i (some (.obs (xs.set j .hol)))) with
      | some p => match p.2[i]? with
        | some (some (.obs _)) => some (x :: p.1, p.2)
        | _ => none
      | none => none
    | _, _ => none := rfl
@[simp] theorem putA_itm (i j : Nat) (xs : List Ob) (as : List Arg) (o : Ob) (os : List Ob) (Γ : Env) : putA (.itm i j xs :: as) (o :: os) Γ = match (putA as os Γ)[i]? with
    | some (some (.obs ys)) => (putA as os Γ).set i (some (.obs (ys.set j o)))
    | _ => putA as os Γ := rfl
/-! ### a, b = x, y of objects, by a tuple -/
theorem ss_tupO {J : Jc} {m : List Bool} {i j : Nat} {tl : TA} {gl : G (List Arg)} (hi : m[i]? ≠ some true) (hj : m[j]? ≠ some true) (hl : EC J tl gl) : SS J m (tAsg (tTup tl) (L2.gTup J.K 2 (gCons (gName i) (gCons (gName j) gNil)))) (gParO i j gl) := fun σ H Γ fp R D hp =>
  hl σ H Γ fp R _ ((Post.bind hp).imp (fun as Γ1 q vs H' fp' f R' a d s => by
    unfold kParO at q
    cases e : obsA as with
    | none => rw [e] at q; exact q.elim
    | some os =>
      rw [e] at q
      have r := obsA_ok a e
      match os, vs, r, q with
      | [x, y], _, .cons a1 (.cons a2 (.nil n0) n1 n2) n3 n4, q =>
        rename_i v1 v2 f1 g1 f2 g2
        refine ⟨(by show 2 ≤ sizeLine; decide), fun p np => ?_⟩
        have ex := Ext.new (o := HO.tup [v1, v2]) np
        have q : Post (if i < Γ1.length ∧ j < Γ1.length then Res.ok Fl.nx ((Γ1.set i (some x)).set j (some y)) else Res.bad) (FlP J m σ (U fp) H D) (XxP J m σ (U fp) H) := q
        have e1 : ∀ b, f2 b → f b := fun b z => (n4 b).mpr (.inr ((n2 b).mpr (.inl z)))
        have e0 : ∀ b, f1 b → f b := fun b z => (n4 b).mpr (.inl z)
        by_cases c : i < Γ1.length ∧ j < Γ1.length
        · rw [if_pos c] at q
          obtain ⟨fp2, R2, u2⟩ := put_slot (R'.ext ex) c.1 (a1.frame ex.im fun b u _ z => ex b u z) fun b z1 z2 => d b (e0 b z1) z2
          obtain ⟨fp3, R3, u3⟩ := put_slot (i := j) R2 (by rw [List.length_set]; exact c.2) (a2.frame ex.im fun b u _ z => ex b u z) fun b z1 z2 => by
            rcases u2 b z2 with z | z
            · exact n3 b z ((n2 b).mpr (.inl z1))
            · exact d b (e1 b z1) z
          refine ⟨p, [v1, v2], rfl, .inl (.inl upd_same), rfl, v1, [v2], rfl, v2, [], rfl, rfl, ?_⟩
          exact q _ _ fp3 R3 ((kp_set hi).trans (kp_set hj)) ((s.trans (Step.ofExt ex)).sub fun b z => (u3 b z).elim (fun z => .inl (e1 b z)) fun z => (u2 b z).elim (fun z => .inl (e0 b z)) .inr)
        · rw [if_neg c] at q; exact q.elim
      | [], _, _, q => exact q.elim
      | [_], _, _, q => exact q.elim
      | _ :: _ :: _ :: _, _, _, q => exact q.elim) fun _ _ z => z.e)
theorem st_tupO (i j : Nat) {K : Frag} {mg : Str → Option Value} {X : Cx} {W : WX} {a b : Expr} {ta tb : TE} {m : List Bool} {g1 g2 : G Arg} {x y : Str} {px py pt pos : Pos} {kt k2 : Nat} {pt2 : Pos} (hc : X.calm = true) (hN : X.N.Nodup) (h1 : VC1 K mg X W a ta g1) (h2 : VC1 K mg X W b tb g2) (hmi : m[i]? ≠ some true := by decide) (hmj : m[j]? ≠ some true := by decide) (hi : X.N[i]? = some x := by rfl) (hj : X.N[j]? = some y := by rfl)
    (hx : Loc X.env.scope x := by first | exact Or.inl rfl | exact Or.inr rfl) (hfx : X.fn x = true ∨ X.env.scope.names.lookup x = some .local := by first | exact .inl rfl | exact .inr rfl) (hy : Loc X.env.scope y := by first | exact Or.inl rfl | exact Or.inr rfl) (hfy : X.fn y = true ∨ X.env.scope.names.lookup y = some .local := by first | exact .inl rfl | exact .inr rfl)
    (hs1 : starEach [a, b] X.env = (false, eval a X.env) :: starEach [b] X.env := by rfl) (hs2 : starEach [b] X.env = [(false, eval b X.env)] := by rfl)
    (hn : (assignEach [.Name x px, .Name y py] X.env).length = 2 := by rfl) (hst : (assignEach [.Name x px, .Name y py] X.env).findIdx? (·.1) = none := by rfl)
    (ha1 : (assignEach [.Name x px, .Name y py] X.env).map (·.2) = assign (.Name x px) X.env :: (assignEach [.Name y py] X.env).map (·.2) := by rfl) (ha2 : (assignEach [.Name y py] X.env).map (·.2) = assign (.Name y py) X.env :: (assignEach [] X.env).map (·.2) := by rfl)
    (hs : swapsWithSole [.Tuple [.Name x px, .Name y py] kt pt] (.Tuple [a, b] k2 pt2) pos.line X.env = pure false := by rfl) (hw : swappedStores [.Tuple [.Name x px, .Name y py] kt pt] (.Tuple [a, b] k2 pt2) X.env = pure none := by rfl)
    (h3 : (assignEach [.Tuple [.Name x px, .Name y py] kt pt] X.env).map (·.2) = [assign (.Tuple [.Name x px, .Name y py] kt pt) X.env] := by rfl) :
    VSt K mg X W m (.Assign [.Tuple [.Name x px, .Name y py] kt pt] (.Tuple [a, b] k2 pt2) pos) (tAsg (tTup (tCons ta (tCons tb tNil))) (L2.gTup K 2 (gCons (gName i) (gCons (gName j) gNil)))) (gParO i j (gcCons g1 (gcCons g2 gcNil))) := fun k l => by
  have h1 := h1 k l
  have h2 := h2 k l
  subst k
  exact ⟨ps_asg (pe_tup (pa_cons h1.1 (pa_cons h2.1 pa_nil hs2) hs1)) (pg_tup hc (pgs_cons (pg_name hN hi hx hfx) (pgs_cons (pg_name hN hj hy hfy) pgs_nil ha2) ha1) hn hst) hs hw h3, ss_tupO hmi hmj (ec_cons h1.2 (ec_cons h2.2 ec_nil))⟩
end Gm

/-! Gm24: a loop over a list of objects, each lent to its turn; isinstance of one of them. -/
namespace Gm
open PySem PySem.Spec PyProof.Rows L2
/-- the object comes back to its place -/
@[simp] def backO (i b j : Nat) (xs : List Ob) (Γ : Env) : Option Env := match Γ[b]? with
  | some (some o) => some ((Γ.set b none).set i (some (.obs (xs.set j o))))
  | _ => none
def endO : Res Fl Env → (Env → Option Env) → (Env → Res Fl Env) → Res Fl Env
  | .ok fl Γ, bk, go => match bk Γ with
    | some Γ' => match fl with
      | .nx => go Γ'
      | .ct => go Γ'
      | .bk => .ok .nx Γ'
      | .rt o => .ok (.rt o) Γ'
    | none => .bad
  | .ex x Γ, bk, _ => match bk Γ with
    | some Γ' => .ex x Γ'
    | none => .bad
  | .bad, _, _ => .bad
/-- k turns from j on: slot n the number, slot b the object, slot i the list (lent as a whole) -/
def forI (g : G Fl) (i n b : Nat) : Nat → Nat → Env → Res Fl Env
  | 0, _, Γ => .ok .nx Γ
  | k + 1, j, Γ => match obsAt Γ i with
    | some xs => match xs[j]? with
      | some x => if xs.length = j + 1 + k ∧ n < Γ.length ∧ b < Γ.length then
          endO (g (((Γ.set i none).set n (some (.d (.int j)))).set b (some x))) (backO i b j xs) (forI g i n b k (j + 1))
        else .bad
      | none => .bad
    | none => .bad
def gForI (i n b : Nat) (g : G Fl) (Γ : Env) : Res Fl Env := match obsAt Γ i with
  | some xs => forI g i n b xs.length 0 Γ
  | none => .bad
theorem Kp.mono {m m' : List Bool} (h : ∀ i : Nat, m[i]? = some true → m'[i]? = some true) {σ σ' : St} (k : Kp m' σ σ') : Kp m σ σ' := fun i hi => k i (h i hi)
section
variable {J : Jc} {m m' : List Bool}
theorem ss_forI {i n b : Nat} (hmm : ∀ i : Nat, m[i]? = some true → m'[i]? = some true) (hi : m'[i]? = some true) (hb' : m'[b]? = some true) (hn : m'[n]? ≠ some true) (hbm : m[b]? ≠ some true) (hnb : n ≠ b) (hib : i ≠ b) (hin : i ≠ n) {tb : TS} {gb : G Fl} (hb : SS J m' tb gb) :
    SS J m (tFor (iEnum J.K (tCons (tVar i) tNil)) (L2.gTup J.K 2 (gCons (gName n) (gCons (gName b) gNil))) tb) (gForI i n b gb) := fun σ H Γ fp R D hp => by
  unfold gForI at hp
  cases e0 : obsAt Γ i with
  | none => rw [e0] at hp; exact hp.elim
  | some xs0 =>
    rw [e0] at hp
    dsimp only at hp
    obtain ⟨p, vs0, g0, h1, h2, h3, h4, h5⟩ := slot_obs R (obsAt_some e0)
    have hnm : m[n]? ≠ some true := fun z => hn (hmm n z)
    refine ⟨.ref p, h1, p, vs0, rfl, .inl (.inl h2), ?_⟩
    refine ⟨fun j k σ' H' => ∃ xs Γ' fp', k = xs.length - j ∧ j ≤ xs.length ∧ Rel J.K H' σ' Γ' fp' ∧ obsAt Γ' i = some xs ∧ σ'[i]? = some (some (.ref p)) ∧ Kp m σ σ' ∧ Step (U fp) (U fp') H H' ∧ Post (forI gb i n b k j Γ') (FlP J m σ (U fp) H D) (XxP J m σ (U fp) H),
      ⟨xs0.length, xs0, Γ, fp, by omega, Nat.zero_le _, R, e0, h1, Kp.refl _ _, Step.refl _ _, hp⟩, ?_⟩
    rintro j k σ2 H2 ⟨xs, Γ2, fp2, rfl, hj, R2, e2, hs2, k2, s2, q⟩
    obtain ⟨p', vs, g, w1, w2, w3, w4, w5⟩ := slot_obs R2 (obsAt_some e2)
    rw [hs2] at w1
    cases w1
    have hvl := w3.length
    by_cases hlt : j < xs.length
    · obtain ⟨k', hk'⟩ : ∃ k', xs.length - j = k' + 1 := ⟨xs.length - j - 1, by omega⟩
      rw [hk'] at q ⊢
      simp only [forI, e2, List.getElem?_eq_getElem hlt] at q
      by_cases c : xs.length = j + 1 + k' ∧ n < Γ2.length ∧ b < Γ2.length
      · rw [if_pos c] at q
        have hvj : vs[j]? = some (vs[j]'(by omega)) := List.getElem?_eq_getElem (by omega)
        refine .inr ⟨⟨vs, _, .inl (.inl w2), hvj⟩, fun σ' H' => ∃ xs Γ' fp', k' = xs.length - (j + 1) ∧ j + 1 ≤ xs.length ∧ Rel J.K H' σ' Γ' fp' ∧ obsAt Γ' i = some xs ∧ σ'[i]? = some (some (.ref p)) ∧ Kp m σ σ' ∧ Step (U fp) (U fp') H H' ∧ Post (forI gb i n b k' (j + 1) Γ') (FlP J m σ (U fp) H D) (XxP J m σ (U fp) H), fun σ' H' N => ⟨k', by omega, N⟩, fun v H3 y => ?_⟩
        obtain ⟨T, z, rfl, nT, rfl, y⟩ := y
        have ez := y vs (.inl (.inl w2))
        have ex := Ext.new (o := HO.tup [.int (j : Nat), z]) nT
        refine ⟨T, [.int (j : Nat), z], rfl, .inl (.inl upd_same), rfl, .int (j : Nat), [z], rfl, z, [], rfl, rfl, ?_⟩
        obtain ⟨v1, fx, gr, q1, q2, q3, q4, q5⟩ := w3.take (List.getElem?_eq_getElem hlt)
        rw [ez] at q1
        cases q1
        obtain ⟨v2, t1, t2, R3, hd, hu⟩ := R2.take (obsAt_some e2)
        have R3x := R3.ext ex
        obtain ⟨fp4, R4, u4⟩ := put_slot (i := n) R3x (by rw [List.length_set]; exact c.2.1) (RepO.d (.int (j : Nat)) (f := fun _ => False) fun _ z => z) fun _ z => z.elim
        have u4' : ∀ a, U fp4 a → U (fun j b => j ≠ i ∧ fp2 j b) a := fun a z => (u4 a z).elim (fun z => z.elim) id
        have xin : ∀ a, fx a → fp2 i a := fun a z => (w5 a).mpr (.inr ((q5 a).mpr (.inl z)))
        have gin : ∀ a, (a = p ∨ gr a) → fp2 i a := fun a z => (w5 a).mpr (z.imp id fun z => (q5 a).mpr (.inr z))
        obtain ⟨fp5, R5, u5⟩ := put_slot (i := b) R4 (by rw [List.length_set, List.length_set]; exact c.2.2) (q2.frame ex.im fun a u _ h => ex a u h) fun a z1 z2 => hd a (xin a z1) (u4' a z2)
        -- what is lent beside: the list and the others
        have off : ∀ a, (a = p ∨ gr a) → U fp5 a → False := fun a z1 z2 => by
          rcases u5 a z2 with z | z
          · rcases z1 with y | y
            · subst y; exact w4 ((q5 _).mpr (.inl z))
            · exact q4 a z y
          · exact hd a (gin a z1) (u4' a z)
        have spine : RepO J.K H2 (.obs (xs.set j .hol)) (.ref p) (fun a => a = p ∨ gr a) := .obs w2 q3 (fun z => w4 ((q5 p).mpr (.inr z))) fun _ => Iff.rfl
        have spx := spine.frame ex.im fun a u _ h => ex a u h
        have up : ∀ a, U fp5 a → U fp2 a := fun a z => by
          rcases u5 a z with z | z
          · exact ⟨i, xin a z⟩
          · exact (hu a).mpr (.inr (u4' a z))
        have pall : ∀ a, (a = p ∨ gr a) → U fp2 a := fun a z => ⟨i, gin a z⟩
        have s3 : Step (U fp) (fun a => (a = p ∨ gr a) ∨ U fp5 a) H (upd H2 T (.tup [.int (j : Nat), z])) := (s2.trans (Step.ofExt ex)).sub fun a z => z.elim (pall a) (up a)
        have hsi : ((σ2.set n (some (.int (j : Nat)))).set b (some z))[i]? = some (some (.ref p)) := by
          rw [List.getElem?_set_ne (Ne.symm hib), List.getElem?_set_ne (Ne.symm hin)]
          exact hs2
        have hsb : ((σ2.set n (some (.int (j : Nat)))).set b (some z))[b]? = some (some z) := List.getElem?_set_self (by rw [List.length_set, R2.len]; exact c.2.2)
        have k4 : Kp m σ ((σ2.set n (some (.int (j : Nat)))).set b (some z)) := k2.trans ((kp_set hnm).trans (kp_set hbm))
        have hsp : ∀ a, (a = p ∨ gr a) → Own1 (upd H2 T (.tup [.int (j : Nat), z]) a) := spx.own
        -- behind a turn
        have back : ∀ {Γ6 Γ7 : Env} {σ6 : St} {H6 : Hp} {fp6 : Nat → Fp}, Rel J.K H6 σ6 Γ6 fp6 → Kp m' ((σ2.set n (some (.int (j : Nat)))).set b (some z)) σ6 → ∀ {F : Fp}, (∀ a, F a → U fp5 a ∨ upd H2 T (.tup [.int (j : Nat), z]) a = none) → Im (upd H2 T (.tup [.int (j : Nat), z])) H6 → (∀ a o, upd H2 T (.tup [.int (j : Nat), z]) a = some o → ¬ U fp5 a → H6 a = some o) → (∀ a, U fp6 a → F a) →
            backO i b j xs Γ6 = some Γ7 → ∃ fp7 o, Γ6[b]? = some (some o) ∧ Rel J.K H6 σ6 Γ7 fp7 ∧ (∃ ys, obsAt Γ7 i = some ys ∧ ys.length = xs.length) ∧ σ6[i]? = some (some (.ref p)) ∧ ∀ a, U fp7 a → (a = p ∨ gr a) ∨ U fp6 a := by
          intro Γ6 Γ7 σ6 H6 fp6 R6 k6 F hF im6 keep6 hF6 eb
          unfold backO at eb
          split at eb
          · rename_i o eo
            cases eb
            obtain ⟨v3, t3, t4, R7, hd7, hu7⟩ := R6.take eo
            rw [k6 b hb', hsb] at t3
            cases t3
            have off6 : ∀ a, (a = p ∨ gr a) → U fp6 a → False := fun a z1 z2 => by
              rcases hF a (hF6 a z2) with z | z
              · exact off a z1 z
              · exact (hsp a z1).ne_none z
            have sp6 := spx.frame im6 fun a u h e => keep6 a u e (off a h)
            cases sp6 with
            | obs a1 a2 a3 a4 =>
              rename_i vs6 g6
              have ev : vs6 = vs := by
                have := keep6 p _ (ex p _ w2) (off p (.inl rfl))
                rw [this] at a1
                cases a1
                rfl
              subst ev
              have g6gr : ∀ a, g6 a → a = p ∨ gr a := fun a z => (a4 a).mpr (.inr z)
              obtain ⟨g7, b1, b2⟩ := a2.put ez t4 fun a z1 z2 => off6 a (g6gr a z2) ⟨b, z1⟩
              rw [List.set_set] at b1
              have np7 : ¬ g7 p := fun z => by
                rcases b2 p z with y | y
                · exact off6 p (.inl rfl) ⟨b, y⟩
                · exact a3 y
              have hs6 : σ6[i]? = some (some (.ref p)) := (k6 i hi).trans hsi
              obtain ⟨R8, u8⟩ := R7.put (σ' := σ6) (i := i) rfl hs6 (fun _ _ => rfl) (.obs a1 b1 np7 (f := fun a => a = p ∨ g7 a) fun _ => Iff.rfl) fun a z1 z2 => by
                rcases z1 with z | z
                · exact off6 a (.inl z) ((hu7 a).mpr (.inr z2))
                · rcases b2 a z with y | y
                  · exact hd7 a y z2
                  · exact off6 a (g6gr a y) ((hu7 a).mpr (.inr z2))
              have hil : i < (Γ6.set b none).length := by
                have := (List.getElem?_eq_some_iff.mp hs6).1
                rw [R6.len] at this
                rw [List.length_set]
                exact this
              refine ⟨_, o, eo, R8, ⟨xs.set j o, by unfold obsAt; rw [List.getElem?_set_self hil], by rw [List.length_set]⟩, hs6, fun a z => ?_⟩
              rcases u8 a z with y | y
              · rcases y with y | y
                · exact .inl (.inl y)
                · rcases b2 a y with x | x
                  · exact .inr ⟨b, x⟩
                  · exact .inl (g6gr a x)
              · exact .inr ((hu7 a).mpr (.inr y))
          · cases eb
        refine hb _ _ _ fp5 R5 _ ?_
        cases er : gb (((Γ2.set i none).set n (some (.d (.int (j : Nat))))).set b (some xs[j])) with
        | bad => rw [er] at q; exact q.elim
        | ex x Γ6 =>
          rw [er] at q
          simp only [endO] at q
          intro cls d σ6 H6 fp6 R6 k6 e6 s6
          cases eb : backO i b j xs Γ6 with
          | none => rw [eb] at q; exact q.elim
          | some Γ7 =>
            rw [eb] at q
            obtain ⟨fp7, o, eo, R7, _, _, u7⟩ := back R6 k6 (F := U fp6) (fun a z => s6.fresh a z) s6.im s6.keep (fun _ z => z) eb
            exact q cls d σ6 H6 fp7 R7 (k4.trans (k6.mono hmm)) e6 ((s3.trans s6.wide).sub u7)
        | ok fl Γ6 =>
          rw [er] at q
          simp only [endO] at q
          cases eb : backO i b j xs Γ6 with
          | none => rw [eb] at q; exact q.elim
          | some Γ7 =>
            rw [eb] at q
            intro σ6 H6 fp6 R6 k6
            have again : Step (U fp5) (U fp6) (upd H2 T (.tup [.int (j : Nat), z])) H6 → Post (forI gb i n b k' (j + 1) Γ7) (FlP J m σ (U fp) H D) (XxP J m σ (U fp) H) → ∃ xs Γ' fp', k' = xs.length - (j + 1) ∧ j + 1 ≤ xs.length ∧ Rel J.K H6 σ6 Γ' fp' ∧ obsAt Γ' i = some xs ∧ σ6[i]? = some (some (.ref p)) ∧ Kp m σ σ6 ∧ Step (U fp) (U fp') H H6 ∧ Post (forI gb i n b k' (j + 1) Γ') (FlP J m σ (U fp) H D) (XxP J m σ (U fp) H) := fun s6 q => by
              obtain ⟨fp7, o, eo, R7, ⟨ys, y1, y2⟩, hs6, u7⟩ := back R6 k6 (F := U fp6) (fun a z => s6.fresh a z) s6.im s6.keep (fun _ z => z) eb
              exact ⟨ys, Γ7, fp7, by omega, by omega, R7, y1, hs6, k4.trans (k6.mono hmm), (s3.trans s6.wide).sub u7, q⟩
            cases fl with
            | nx => exact fun s6 => again s6 q
            | ct => exact fun s6 => again s6 q
            | bk =>
              intro s6
              obtain ⟨fp7, o, eo, R7, _, hs6, u7⟩ := back R6 k6 (F := U fp6) (fun a z => s6.fresh a z) s6.im s6.keep (fun _ z => z) eb
              exact q σ6 H6 fp7 R7 (k4.trans (k6.mono hmm)) ((s3.trans s6.wide).sub u7)
            | rt o =>
              intro v f r d s6
              obtain ⟨fp7, o2, eo, R7, _, hs6, u7⟩ := back R6 k6 (F := fun a => f a ∨ U fp6 a) (fun a z => s6.fresh a z) s6.im s6.keep (fun _ z => .inr z) eb
              refine q σ6 H6 fp7 R7 (k4.trans (k6.mono hmm)) v f r (fun a z1 z2 => ?_) ((s3.trans s6.wide).sub fun a z => ?_)
              · rcases u7 a z2 with y | y
                · rcases s6.fresh a (.inl z1) with x | x
                  · exact off a y x
                  · exact (hsp a y).ne_none x
                · exact d a z1 y
              · rcases z with z | z
                · exact .inr (.inl z)
                · rcases u7 a z with y | y
                  · exact .inl y
                  · exact .inr (.inr y)
      · rw [if_neg c] at q; exact q.elim
    · have ej : j = xs.length := by omega
      subst ej
      refine .inl ⟨⟨vs, .inl (.inl w2), by omega⟩, ?_⟩
      rw [Nat.sub_self] at q
      simp only [forI] at q
      exact q σ2 H2 fp2 R2 k2 s2
end
section
variable {K : Frag} {mg : Str → Option Value} {X : Cx} {W : WX} {m : List Bool} {body : List Stmt} {tb : TS} {gf : G Fl}
theorem st_forI (i n b : Nat) (m' : List Bool) {x y z : Str} {p npos pos tpos py pz cpos : Pos} {kk : Nat} (hp : PassesOwn (model X.prog X.w) X.A X.env X.xe) (hc : X.calm = true) (hn : mg "enumerate" = none) (hNd : X.N.Nodup) (hb : VB K mg X W m' body tb gf) (hmm : ∀ i : Nat, m[i]? = some true → m'[i]? = some true)
    (hi : m'[i]? = some true := by decide) (hb' : m'[b]? = some true := by decide) (hn' : m'[n]? ≠ some true := by decide) (hbm : m[b]? ≠ some true := by decide) (hnb : n ≠ b := by decide) (hib : i ≠ b := by decide) (hin : i ≠ n := by decide)
    (hN : X.N[i]? = some x := by rfl) (hNn : X.N[n]? = some y := by rfl) (hNb : X.N[b]? = some z := by rfl) (hv : Vis X.env.scope x := by first | exact Or.inl rfl | exact Or.inr (Or.inl rfl) | exact Or.inr (Or.inr rfl)) (hd : (x == ("__debug__" : Str)) = false := by decide)
    (hcd : (x == ("__classdict__" : Str)) = false := by decide) (hy : Loc X.env.scope y := by first | exact Or.inl rfl | exact Or.inr rfl) (hfy : X.fn y = true ∨ X.env.scope.names.lookup y = some .local := by first | exact .inl rfl | exact .inr rfl) (hz : Loc X.env.scope z := by first | exact Or.inl rfl | exact Or.inr rfl) (hfz : X.fn z = true ∨ X.env.scope.names.lookup z = some .local := by first | exact .inl rfl | exact .inr rfl)
    (hg : Gl X "enumerate" := by rfl) (he : starEach [.Name x npos] X.env = [(false, eval (.Name x npos) X.env)] := by rfl)
    (hl : (assignEach [.Name y py, .Name z pz] X.env).length = 2 := by rfl) (hst : (assignEach [.Name y py, .Name z pz] X.env).findIdx? (·.1) = none := by rfl)
    (ha1 : (assignEach [.Name y py, .Name z pz] X.env).map (·.2) = assign (.Name y py) X.env :: (assignEach [.Name z pz] X.env).map (·.2) := by rfl) (ha2 : (assignEach [.Name z pz] X.env).map (·.2) = assign (.Name z pz) X.env :: (assignEach [] X.env).map (·.2) := by rfl)
    (hs : ∀ v, foldedSetIterable (.Call (.Name "enumerate" p) [.Name x npos] [] cpos) X.env v = pure v := by intro _; rfl) :
    VSt K mg X W m (.For (.Tuple [.Name y py, .Name z pz] kk tpos) (.Call (.Name "enumerate" p) [.Name x npos] [] cpos) body [] pos) (tFor (iEnum K (tCons (tVar i) tNil)) (L2.gTup K 2 (gCons (gName n) (gCons (gName b) gNil))) tb) (gForI i n b gf) := fun k l => by
  have h := hb k l
  subst k l
  exact ⟨ps_for hp hc (pi_enum hg hn (pa_cons (pe_var hN hv hd hcd) pa_nil he) he) (pg_tup hc (pgs_cons (pg_name hNd hNn hy hfy) (pgs_cons (pg_name hNd hNb hz hfz) pgs_nil ha2) ha1) hl hst) h.1 hs, ss_forI hmm hi hb' hn' hbm hnb hib hin h.2⟩
end
/-! ### isinstance(xs[i], C) -/
structure InsK (K : Frag) (C : Addr) : Prop where
  ha : PySem.W.findIn K (.ref C) "__class__" = some (some (.builtin "object.__class__"))
  hn : PySem.W.specialIn K (.builtin "object.__class__") "__get__" = some (some (.builtin "getset_descriptor.__get__"))
  ht : PySem.W.takesIn K (.builtin "object.__class__") = some true
  hm : PySem.W.mroIn K C (.type "object") = some true
@[simp] def isC (C : Addr) : Option Ob → Bool
  | some (.ins D _) => D == C
  | _ => false
@[simp] def kIsiO (C : Addr) (i : Nat) (x : D) (Γ : Env) : Res D Env := match x, obsAt Γ i with
  | .int n, some xs => if isC C (L2.atI xs n) then .ok (.bl true) Γ else .bad
  | _, _ => .bad
def gIsiO (C : Addr) (i : Nat) (a : G D) (Γ : Env) : Res D Env := match obsAt Γ i with
  | some _ => (a Γ).bind (kIsiO C i)
  | none => .bad
@[simp] theorem gIsiO_ap (C : Addr) (i : Nat) (a : G D) (Γ : Env) : gIsiO C i a Γ = match obsAt Γ i with
  | some _ => (a Γ).bind (kIsiO C i)
  | none => .bad := rfl
theorem ed_isiO {J : Jc} {C : Addr} {i : Nat} {te : TE} {ga : G D} (c : Cls J.K C) (k : InsK J.K C) (ha : ED J te ga) : ED J (tCB (rIsi J.K) (tCons (tOp (rIx J.K) (tVar i) te) (tCons (tC (.ref C)) tNil))) (gIsiO C i ga) := fun σ H Γ fp R Q hp => by
  unfold gIsiO at hp
  cases e : obsAt Γ i with
  | none => rw [e] at hp; exact hp.elim
  | some xs0 =>
    rw [e] at hp
    obtain ⟨p, vs0, g0, h1, _⟩ := slot_obs R (obsAt_some e)
    refine ⟨.ref p, h1, ha σ H Γ fp R _ ((Post.bind hp).imp (fun x Γ1 q v H1 fp1 R1 r s => ?_) fun _ _ z => z)⟩
    unfold kIsiO at q
    cases r with
    | int n =>
      cases e1 : obsAt Γ1 i with
      | none => rw [e1] at q; exact q.elim
      | some xs =>
        rw [e1] at q
        dsimp only at q
        obtain ⟨p', vs, g, k1, k2, k3, k4, k5⟩ := slot_obs R1 (obsAt_some e1)
        rw [h1] at k1
        cases k1
        cases ei : isC C (L2.atI xs n) with
        | false => rw [ei] at q; exact q.elim
        | true =>
          rw [ei] at q
          cases eo : L2.atI xs n with
          | none => rw [eo] at ei; cases ei
          | some o =>
            rw [eo] at ei
            cases o with
            | ins D fs =>
              simp only [isC, beq_iff_eq] at ei
              subst ei
              obtain ⟨w, f, w1, w2⟩ := k3.get eo
              cases w2 with
              | ins b1 b2 b3 b4 =>
                refine .inl ⟨_, _, _, _, rfl, rfl, .inl (.inl k2), w1, ?_⟩
                refine ⟨_, _, _, _, true, rfl, .own D, .base (.ins b1 c k.ha k.hn k.ht k.hm), ?_, q _ H1 fp1 R1 (.bl true) s⟩
                unfold PySem.W.kitOne
                rw [if_pos (by simp)]
            | _ => cases ei
    | _ => exact q.elim
section
variable {K : Frag} {mg : Str → Option Value} {X : Cx} {W : WX} {b : Expr} {tb : TE} {gb : G D} {C : Addr}
theorem d_isB (i : Nat) {x tn : Str} {p pos px pi pt : Pos} (c : ClsK K mg tn C) (kc : InsK K C) (hm : mg "isinstance" = none) (hb : VD K mg X W b tb gb) (hs : PlainIx b := by exact fun _ _ => rfl) (hN : X.N[i]? = some x := by rfl) (hv : Vis X.env.scope x := by first | exact Or.inl rfl | exact Or.inr (Or.inl rfl) | exact Or.inr (Or.inr rfl)) (hd : (x == ("__debug__" : Str)) = false := by decide)
    (hcd : (x == ("__classdict__" : Str)) = false := by decide) (hdt : (tn == ("__debug__" : Str)) = false := by decide) (hg : Gl X "isinstance" := by rfl) (hg2 : Gl X tn := by rfl) (he : starEach [.Subscript (.Name x px) b pi, .Name tn pt] X.env = (false, eval (.Subscript (.Name x px) b pi) X.env) :: starEach [.Name tn pt] X.env := by rfl) (he2 : starEach [.Name tn pt] X.env = [(false, eval (.Name tn pt) X.env)] := by rfl)
    (hpl : (backTo pos (starEach [.Name tn pt] X.env)).any (·.1) = false := by rfl) : VD K mg X W (.Call (.Name "isinstance" p) [.Subscript (.Name x px) b pi, .Name tn pt] [] pos) (tCB (rIsi K) (tCons (tOp (rIx K) (tVar i) tb) (tCons (tC (.ref C)) tNil))) (gIsiO C i gb) := fun k m => by
  have h := hb k m
  subst k m
  exact ⟨pe_callB call_isi hg hm boot_isinstance (pa_cons (pe_ix ix_seq (pe_var hN hv hd hcd) h.1 hs) (pa_cons (pe_glob hg2 c.mgC rfl hdt) pa_nil he2) he) (by decide) (by decide) he hpl, ed_isiO c.cl kc h.2⟩
end
end Gm

/-! Gm25: comparisons within an except suite; isinstance of three exceptions; int(text); text[::-1]. -/
namespace Gm
open PySem PySem.Spec PyProof.Rows L2
theorem boot_ValueError : bootBuiltins "ValueError" = some (.type "ValueError") := by decide +kernel
section
variable {K : Frag} {mg : Str → Option Value} {X : Cx} {W : WX} {a b e : Expr} {pos p : Pos} {ta tb te : TE} {ga gb : G D}
theorem k_eqU (hu : X.A.units + 200 < cLine) (ha : VD K mg X W a ta ga) (hb : VD K mg X W b tb gb) : CmpV K mg X W .Eq a b (tOp (rEqA K) ta tb) (g2 oEq ga gb) := cmp_of (fun k => by subst k; exact op_eqA hu) (eqA_D K) ha hb (nomark _)
theorem k_neU (hu : X.A.units + 200 < cLine) (ha : VD K mg X W a ta ga) (hb : VD K mg X W b tb gb) : CmpV K mg X W .NotEq a b (tOp (rNeA K) ta tb) (g2 oNe ga gb) := cmp_of (fun k => by subst k; exact op_neA hu) (neA_D K) ha hb (nomark _)
/-! ### int(text) -/
@[simp] def oIntS : List D → Option D
  | [.str z] => if z.length ≤ 640 then (PySem.intText? z).map .int else none
  | _ => none
theorem d_intS (hm : mg "int" = none) (ha : VD K mg X W a ta ga) (hg : Gl X "int" := by rfl) (he : starEach [a] X.env = [(false, eval a X.env)] := by rfl) : VD K mg X W (.Call (.Name "int" p) [a] [] pos) (tCB (fun xs H Q => ∃ a n, xs = [.str a] ∧ PySem.intText? a = some n ∧ a.length ≤ 640 ∧ Q (.int n) H) (tCons ta tNil)) (gCal oIntS (gConsA ga gNilA)) := fun k m => by
  have h := ha k m
  subst k m
  refine ⟨pe_callTy call_int_str hg hm boot_int (pa_cons h.1 pa_nil he) (by decide) (by decide) he rfl, ed_cal (fun H vs xs z Q hx e q => ?_) (ea_cons h.2 ea_nil)⟩
  cases hx with
  | nil => cases e
  | cons h1 h2 =>
    cases h2 with
    | cons => cases h1 <;> cases e
    | nil =>
      cases h1 with
      | str w =>
        simp only [oIntS] at e
        split at e
        · rename_i hl
          rw [Option.map_eq_some_iff] at e
          obtain ⟨n, hn, rfl⟩ := e
          exact ⟨w, n, rfl, hn, hl, q _ H (Ext.refl H) (.int n)⟩
        · cases e
      | _ => cases e
end
/-! ### text[::-1] -/
def revS (z : Str) : Str := ⟨((PySem.Builtin.Str.strSliceIndices none none (-1) z.length).filterMap (z.cps[·]?)).toArray⟩
@[simp] def oRevS : D → Option D
  | .str z => if (revS z).length ≤ sizeLine then some (.str (revS z)) else none
  | _ => none
def tRevS (te : TE) : TE := fun σ H Q => te σ H fun x H1 => ∃ z, x = .str z ∧ (revS z).length ≤ sizeLine ∧ Q (.str (revS z)) H1
theorem pe_revS {X : Cx} {e : Expr} {te : TE} {k : Nat} {p1 p2 p3 pos : Pos} (he : PE X e te) : PE X (.Subscript e (.Slice none none (some (.UnaryOp .USub (.Constant (.int 1) k p1) p2)) p3) pos) (tRevS te) := by
  refine ⟨fun pins s σ H Q I h => Subscript_ (thn (he.run pins s σ H _ I h) fun v s1 ⟨x, H1, I1, r1, q1⟩ => ?_)⟩
  obtain ⟨z, ex, hz, q⟩ := q1
  subst ex
  obtain ⟨t0, rfl⟩ := r1
  have minus : PO X (some (.UnaryOp .USub (.Constant (.int 1) k p1) p2)) (tPart (tUn (rU fun i => .int (-i)) (tC (.int 1)))) := po_some (pe_un un_neg pe_int)
  refine wpAny_Slice (thn (po_none.run pins s1 σ H1 (fun o H2 => o = none ∧ H2 = H1) I1 ⟨rfl, rfl⟩) fun vl s2 ⟨l, H2, I2, pl, el, e2⟩ => ?_)
  subst el e2
  refine thn (po_none.run pins s2 σ H2 (fun o H3 => o = none ∧ H3 = H2) I2 ⟨rfl, rfl⟩) fun vu s3 ⟨u, H3, I3, pu, eu, e3⟩ => ?_
  subst eu e3
  refine thn (minus.run pins s3 σ H3 (fun o H4 => o = some (-1) ∧ H4 = H3) I3 ⟨1, rfl, -1, rfl, rfl, rfl⟩) fun vs s4 ⟨o, H4, I4, ps, eo, e4⟩ => ?_
  subst eo e4
  have hv : vl = .none ∧ vu = .none := by cases pl; cases pu; exact ⟨rfl, rfl⟩
  obtain ⟨rfl, rfl⟩ := hv
  obtain ⟨tk, rfl⟩ : ∃ tk, vs = .int (-1) tk := by cases ps; exact ⟨_, rfl⟩
  have I5 : Inv X pins σ H4 { s4 with heap := s4.heap.push { cls := .type "slice", data := .fields #[.none, .none, .int (-1) tk] } } := I4.kept (t' := s4.toks) fun b ob q => Heap.get?_push_of_some _ q
  show wpAny (model X.prog X.w) X.A (subscriptTail e _ (.str z t0) (.ref s4.heap.objs.size)) (EP X pins σ Q) X.xe _
  refine tail_any (ops := [.str z t0, .ref s4.heap.objs.size]) (typeIs_str _ z t0) slot_str_getitem.lookup ?_ (by with_unfolding_all rfl)
  refine getItem_meets (typeIs_str _ z t0) (by decide) PySem.F.slot_str_getitem PySem.F.entry_str_getitem (PySem.F.args_str_getitem_2 _ _) (meets_str_getitem_slice z t0 _ none none (some (-1, tk)) rfl) ⟨⟨_, Heap.get?_push_size _ rfl, rfl, rfl⟩, ?_⟩
  have hm : PySem.sliceMade z t0 none none (some (-1, tk)) = .str (revS z) := rfl
  rw [hm]
  exact ⟨hz, .str (revS z), H4, I5.tok _, ⟨_, rfl⟩, q⟩
theorem d_revS {K : Frag} {mg : Str → Option Value} {X : Cx} {W : WX} {a : Expr} {pos p1 p2 p3 : Pos} {k : Nat} {ta : TE} {ga : G D} (ha : VD K mg X W a ta ga) :
    VD K mg X W (.Subscript a (.Slice none none (some (.UnaryOp .USub (.Constant (.int 1) k p1) p2)) p3) pos) (tRevS ta) (g1 oRevS ga) := fun k m => by
  have h := ha k m
  refine ⟨pe_revS h.1, fun σ H Γ fp R Q hp => h.2.go R hp fun x Γ1 v H1 fp1 hp R1 a1 s1 => ?_⟩
  obtain ⟨y, e, q⟩ := hp.ofOpt
  cases a1 with
  | str z =>
    simp only [oRevS] at e
    split at e
    · rename_i hz
      cases e
      exact ⟨z, rfl, hz, q _ H1 fp1 R1 (.str _) s1⟩
    · cases e
  | _ => cases e
/-! ### isinstance(e, (A, B, C)) -/
def rIsXT (K : Frag) : List V → Hp → VK → Prop := fun xs H Q => ∃ (a C : Addr) (d : Option Addr) (pay : Option (Str × Int)) (tp : Addr) (cs : List V) (us : List Value) (b : Bool), xs = [.ref a, .ref tp] ∧ H a = some (exa a C d) ∧ PayR H pay d ∧ ExcI K C ∧ H tp = some (.tup cs) ∧ (∀ ws, Vals cs ws → ws = us) ∧ PySem.W.kitAny K (.ref C) us = some b ∧ Q (.bl b) H
theorem call_isXT {X : Cx} : CallR X (.builtin "isinstance") (rIsXT X.K) := by
  intro pins s σ H xs us Q I r h
  obtain ⟨a, C, d, pay, tp, cs, ws, b, rfl, ha, hp, T, hT, hcv, e, q⟩ := h
  cases r with
  | cons rx rr =>
    cases rr with
    | cons rt rr =>
      cases rr
      cases rx
      cases rt
      obtain ⟨oe, od, J⟩ := exa_inst I ha hp
      obtain ⟨_, its, rv, o, h1, h2, n, h3⟩ := (show ObjOk X.prog X.w H s.heap tp (.tup cs) from I.hok tp _ hT)
      have e3 := hcv _ rv
      subst e3
      obtain ⟨oc, od2, dt, sl⟩ := o
      simp only at h2 h3
      subst h2 h3
      exact PySem.W.kia_tup (PySem.W.kitx_exc T.hcl T.hga T.hgt T.hsb T.hca T.hsn T.htk T.hmr) I.kIn J h1 e (fun z => nomatch z) fun tk => ⟨.bl b, H, I.kept (t' := tk) fun _ _ z => z, rfl, q⟩
@[simp] def or3 : Option Bool → Option Bool → Option Bool → Option Bool
  | some a, some b, some c => some (a || (b || c))
  | _, _, _ => none
@[simp] def kIsX3 (all y1 y2 y3 : List Str) (Γ : Env) : Option (Option Ob) → Res D Env
  | some (some (.exc x)) => ofOpt ((or3 (subX all y1 x.cls) (subX all y2 x.cls) (subX all y3 x.cls)).map .bl) Γ
  | _ => .bad
def gIsX3 (all y1 y2 y3 : List Str) (i : Nat) (Γ : Env) : Res D Env := kIsX3 all y1 y2 y3 Γ Γ[i]?
@[simp] theorem gIsX3_ap (all y1 y2 y3 : List Str) (i : Nat) (Γ : Env) : gIsX3 all y1 y2 y3 i Γ = kIsX3 all y1 y2 y3 Γ Γ[i]? := rfl
def tIsX3 (K : Frag) (mg : Str → Option Value) (x1 x2 x3 : Str) (i : Nat) : TE := fun σ H Q => ∀ (c1 c2 c3 : Value) (v1 v2 v3 : V), ClsV mg x1 c1 → ClsV mg x2 c2 → ClsV mg x3 c3 → (∀ u, RelV v1 u → u = c1) → (∀ u, RelV v2 u → u = c2) → (∀ u, RelV v3 u → u = c3) →
  tCB (rIsXT K) (tCons (tVar i) (tCons (tTup (tCons (tC v1) (tCons (tC v2) (tCons (tC v3) tNil)))) tNil)) σ H Q
section
variable {K : Frag} {mg : Str → Option Value} {X : Cx} {W : WX} {all y1 y2 y3 : List Str} {x1 x2 x3 y : Str} {p pos p1 p2 p3 pt py : Pos} {kk : Nat}
theorem pe_cls {x : Str} {px : Pos} {cv : Value} {vv : V} (q1 : ClsV X.mg x cv) (q2 : RelV vv cv) (hg2 : Gl X x) (hdb : (x == ("__debug__" : Str)) = false) : PE X (.Name x px) (tC vv) := by
  rcases q1 with q | ⟨q, r, n⟩
  · exact pe_glob hg2 q q2 hdb
  · exact pe_bltn hg2 q r q2 n hdb
theorem d_isX3 (i : Nat) (A : XAll K all) (T1 : XT K mg all x1 y1) (T2 : XT K mg all x2 y2) (T3 : XT K mg all x3 y3) (hm : mg "isinstance" = none) (hN : X.N[i]? = some y := by rfl) (hv : Vis X.env.scope y := by first | exact Or.inl rfl | exact Or.inr (Or.inl rfl) | exact Or.inr (Or.inr rfl)) (hd : (y == ("__debug__" : Str)) = false := by decide)
    (hcd : (y == ("__classdict__" : Str)) = false := by decide) (hg : Gl X "isinstance" := by rfl) (g1 : Gl X x1 := by rfl) (g2 : Gl X x2 := by rfl) (g3 : Gl X x3 := by rfl) (d1 : (x1 == ("__debug__" : Str)) = false := by decide) (d2 : (x2 == ("__debug__" : Str)) = false := by decide) (d3 : (x3 == ("__debug__" : Str)) = false := by decide)
    (he : starEach [.Name y py, .Tuple [.Name x1 p1, .Name x2 p2, .Name x3 p3] kk pt] X.env = (false, eval (.Name y py) X.env) :: starEach [.Tuple [.Name x1 p1, .Name x2 p2, .Name x3 p3] kk pt] X.env := by rfl)
    (he2 : starEach [.Tuple [.Name x1 p1, .Name x2 p2, .Name x3 p3] kk pt] X.env = [(false, eval (.Tuple [.Name x1 p1, .Name x2 p2, .Name x3 p3] kk pt) X.env)] := by rfl)
    (he3 : starEach [.Name x1 p1, .Name x2 p2, .Name x3 p3] X.env = (false, eval (.Name x1 p1) X.env) :: starEach [.Name x2 p2, .Name x3 p3] X.env := by rfl) (he4 : starEach [.Name x2 p2, .Name x3 p3] X.env = (false, eval (.Name x2 p2) X.env) :: starEach [.Name x3 p3] X.env := by rfl) (he5 : starEach [.Name x3 p3] X.env = [(false, eval (.Name x3 p3) X.env)] := by rfl)
    (hpl : (backTo pos (starEach [.Tuple [.Name x1 p1, .Name x2 p2, .Name x3 p3] kk pt] X.env)).any (·.1) = false := by rfl) :
    VD K mg X W (.Call (.Name "isinstance" p) [.Name y py, .Tuple [.Name x1 p1, .Name x2 p2, .Name x3 p3] kk pt] [] pos) (tIsX3 K mg x1 x2 x3 i) (gIsX3 all y1 y2 y3 i) := fun k1 k2 => by
  obtain ⟨c1, v1, a1, b1, u1, w1⟩ := T1.ex
  obtain ⟨c2, v2, a2, b2, u2, w2⟩ := T2.ex
  obtain ⟨c3, v3, a3, b3, u3, w3⟩ := T3.ex
  subst k1 k2
  have pe := pe_callB (p := p) (pos := pos) call_isXT hg hm boot_isinstance (pa_cons (pe_var hN hv hd hcd) (pa_cons (pe_tup (pos := pt) (pa_cons (pe_cls (px := p1) a1 b1 g1 d1) (pa_cons (pe_cls (px := p2) a2 b2 g2 d2) (pa_cons (pe_cls (px := p3) a3 b3 g3 d3) pa_nil he5) he4) he3)) pa_nil he2) he) (by decide) (by decide) he hpl
  refine ⟨⟨fun pins s σ H Q I h => pe.run pins s σ H Q I (h c1 c2 c3 v1 v2 v3 a1 a2 a3 u1 u2 u3)⟩, fun σ H Γ fp R Q hp e1 e2 e3 z1 z2 z3 f1 f2 f3 r1 r2 r3 => ?_⟩
  unfold gIsX3 at hp
  cases e : Γ[i]? with
  | none => rw [e] at hp; exact hp.elim
  | some o =>
    cases o with
    | none => rw [e] at hp; exact hp.elim
    | some o =>
      cases o with
      | exc z =>
        rw [e] at hp
        obtain ⟨v, e4, r⟩ := R.rep i _ e
        cases r with
        | exc nc ha hpay hf =>
          rename_i a C d
          have hp : Post (ofOpt ((or3 (subX all y1 z.cls) (subX all y2 z.cls) (subX all y3 z.cls)).map D.bl) Γ) (OkD (jc X.K X.mg W) σ (U fp) H Q) (XxE (jc X.K X.mg W) σ (U fp) H) := hp
          obtain ⟨w, ew, hp⟩ := hp.ofOpt
          obtain ⟨b, eb, rfl⟩ := Option.map_eq_some_iff.mp ew
          cases s1 : subX all y1 z.cls with
          | none => rw [s1] at eb; cases eb
          | some q1 =>
            cases s2 : subX all y2 z.cls with
            | none => rw [s1, s2] at eb; cases eb
            | some q2 =>
              cases s3 : subX all y3 z.cls with
              | none => rw [s1, s2, s3] at eb; cases eb
              | some q3 =>
                rw [s1, s2, s3] at eb
                simp only [or3, Option.some.injEq] at eb
                have hn : z.cls ∈ all := by
                  unfold subX at s1
                  split at s1
                  · assumption
                  · cases s1
                obtain ⟨D, hD, TD⟩ := A z.cls hn
                have hDC := hD.uniq nc
                subst hDC
                have x1 := ClsV.uniq f1 a1
                have x2 := ClsV.uniq f2 a2
                have x3 := ClsV.uniq f3 a3
                subst x1 x2 x3
                have k1 := (subX_ok w1 s1 nc).1
                have k2 := (subX_ok w2 s2 nc).1
                have k3 := (subX_ok w3 s3 nc).1
                refine ⟨_, e4, ⟨(by show 3 ≤ sizeLine; decide), fun t nt => ?_⟩⟩
                have ex := Ext.new (o := HO.tup [z1, z2, z3]) nt
                refine ⟨a, D, d, z.pay, t, [z1, z2, z3], [e1, e2, e3], b, ?_, ex a _ ha, hpay.keep ex.im, TD, upd_same, fun ws hw => ?_, ?_, hp _ _ fp (R.ext ex) (.bl b) (Step.ofExt ex)⟩
                · rfl
                · cases hw with
                  | cons g1 gs =>
                    cases gs with
                    | cons g2 gs =>
                      cases gs with
                      | cons g3 gs =>
                        cases gs
                        rw [r1 _ g1, r2 _ g2, r3 _ g3]
                · refine kitAny_cons k1 (fun x => ?_) fun x => by rw [← eb, x]; rfl
                  refine kitAny_cons k2 (fun y => ?_) fun y => by rw [← eb, x, y]; rfl
                  refine kitAny_cons k3 (fun w => ?_) fun w => by rw [← eb, x, y, w]; rfl
                  rw [← eb, x, y, w]
                  exact kitAny_nil
      | _ => rw [e] at hp; exact hp.elim
end
/-! ### a text times a number -/
@[simp] def oMulS : D → D → Option D
  | .str z, .int n => if z.length ≤ 1000 ∧ 0 ≤ n ∧ n ≤ 10000 then some (.str (Txt.mul z n)) else none
  | _, _ => none
def rMulS : R2 := fun x y H Q => ∃ z n, x = .str z ∧ y = .int n ∧ (z.length ≤ 1000 ∧ 0 ≤ n ∧ n ≤ 10000) ∧ Q (.str (Txt.mul z n)) H
theorem op_mulS {X : Cx} : OpR X (binaryOp .Mult) rMulS := by
  intro pins s σ H x y v u Q I rx ry h
  obtain ⟨z, n, rfl, rfl, hz, q⟩ := h
  obtain ⟨t, rfl⟩ := rx
  obtain ⟨t', rfl⟩ := ry
  exact SB.mul (mulOk_of 1000 10000 hz.1 (by omega) (by omega) (by decide) (by decide)) (fun t' tk => ⟨.str _, H, I.tok _, ⟨_, rfl⟩, q⟩)
theorem mulS_D (K : Frag) : OpD K rMulS oMulS := by
  intro H v w x y z Q hx hy e k
  unfold oMulS at e
  split at e
  · cases hx; cases hy
    split at e
    · rename_i h
      cases e
      exact ⟨_, _, rfl, rfl, h, k _ H (Ext.refl H) (.str _)⟩
    · cases e
  · cases e
section
variable {K : Frag} {mg : Str → Option Value} {X : Cx} {W : WX} {a b e : Expr} {pos p : Pos} {ta tb te : TE} {ga gb : G D}
theorem d_mulS (ha : VD K mg X W a ta ga) (hb : VD K mg X W b tb gb) : VD K mg X W (.BinOp a .Mult b pos) (tOp rMulS ta tb) (g2 oMulS ga gb) := d_op (fun _ => op_mulS) (mulS_D K) ha hb
end
end Gm

/-! Gm26: defs that are called where no guard stands on the stack: repr of tuples. -/
namespace Gm
open PySem PySem.Spec PyProof.Rows L2
/-- a promise for calls below which no guard stands -/
structure FnOkG (P : Program) (w : World) (K : Frag) (mg : Str → Option Value) (base : Heap) (CX : CXT) (k : Nat) (f : Addr) (fd : FuncData) (ps : List Str) (sp : Sp) : Prop where
  len : ∀ vs H Q E, sp vs H Q E → vs.length = ps.length
  run : ∀ (A : Around) (outer : List PySem.Env) (s : Shared) (H : Hp) (args : Args) (us : List Value) (vs : List V) (Q : VK) (E : XK), A.guards = some [] → Room k A → Env0 P w K mg base A outer s H → BindsTo s fd args (ps.zip us) → Vals vs us → sp vs H Q E →
    codeAny (model P w) A (.call (.ref f) args) (CR CX outer P w H s Q E) s
theorem FnOkG.imp {P : Program} {w : World} {K : Frag} {mg : Str → Option Value} {base : Heap} {CX : CXT} {k : Nat} {f : Addr} {fd : FuncData} {ps : List Str} {sp sp' : Sp} (F : FnOkG P w K mg base CX k f fd ps sp) (h : ∀ vs H Q E, sp' vs H Q E → sp vs H Q E) : FnOkG P w K mg base CX k f fd ps sp' :=
  ⟨fun vs H Q E q => F.len vs H Q E (h _ _ _ _ q), fun A outer s H args us vs Q E g r e b v q => F.run A outer s H args us vs Q E g r e b v (h _ _ _ _ q)⟩
/-- a body that is walked for each such call -/
theorem okXG {P : Program} {w : World} {K : Frag} {mg : Str → Option Value} {base : Heap} {x qual : Str} {st : Stmt} {f : Addr} {fd : FuncData} {N ps : List Str} {k : Nat} {sp : Sp} (F : Fun K x qual st f fd) (S : FnScope N ps (defScope st)) (len : ∀ vs H Q E, sp vs H Q E → vs.length = ps.length)
    (hbody : ∀ (cdv : Value) (A : Around) (outer : List PySem.Env) (s : Shared) (H : Hp) (vs : List V) (Q : VK) (E : XK), A.guards = some [] → Room k (A.deeper (envOfC qual (defScope st) s.heap.objs.size f cdv)) → sp vs H Q E →
      ∃ t, PSs (cxOf (L2.CX P w) P w K mg base N qual (defScope st) f cdv A outer s H E) (defBody st) t ∧ t { nx := fun _ H' => Q .non H', rt := Q } (start N vs) H) : FnOkG P w K mg base (L2.CX P w) (k + 1) f fd ps sp := by
  obtain ⟨oc, od, kV, doc, pm, an, cdv, ct, osl, rfl, lk, hcd⟩ := F.ex
  refine ⟨len, fun A outer s H args us vs Q E hgd hr e0 hb r hsp => ?_⟩
  have KX : K.In s.heap := e0.mod.kin.keeps fun b o e => (e0.bs b o e).1
  have lim : s.heap.NoLimit := e0.mod.nolimit.keeps fun b o e => (e0.bs b o e).1
  have kinds : ∀ y ∈ ps.zip us, (defScope st).names.lookup y.1 = some .local ∨ ((defScope st).names.lookup y.1 = some .cell ∧ ((cellsFrom (s.heap.objs.size + 1) (defScope st).names []).lookup y.1).isSome = true) := by
    rintro ⟨n, v⟩ hy
    cases S.par n (List.of_mem_zip hy).1 with
    | inl q => exact .inl q
    | inr q => exact .inr ⟨q, PySem.W.cellsFrom_some _ _ _ (.inl q)⟩
  refine codeAny_call_function hr.depth (KX _ _ lk) rfl S.co S.gen rfl (PySem.W.codeRec_of KX hcd) (hb _ _ _ _ (wpAny_newFunctionEnv_cells S.kind kinds fun env he s1 x => ?_))
  subst he
  refine ⟨lim.keeps x.toInCall.keep, codeAny_func ?_⟩
  obtain ⟨t, ht, hq⟩ := hbody cdv A outer s H vs Q E hgd (hr.deeper _) hsp
  have I : Inv (cxOf (L2.CX P w) P w K mg base N qual (defScope st) f cdv A outer s H E) [] (start N vs) H s1 := inv_start S hr.hd e0 (len _ _ _ _ hsp) r x
  have done : ∀ {s' : Shared} {σ' : St} {H' : Hp} {v : V} {u : Value}, Inv (cxOf (L2.CX P w) P w K mg base N qual (defScope st) f cdv A outer s H E) [] σ' H' s' → RelV v u → Q v H' → CE outer P w H s Q u s' :=
    fun J rv q => ⟨_, _, J.os, J.bare, J.base, J.hok, rv, q⟩
  refine wpAny_mono (ht.run [] s1 (start N vs) H _ I hq) (fun fl s' hs => ?_) fun e s' hs => hs
  match fl, hs with
  | .ret u, ⟨_, _, _, J, rv, q⟩ => exact done J rv q
  | .next, ⟨_, _, J, q⟩ => exact done (v := V.non) (u := Value.none) J rfl q
  | .brk, ⟨_, _, _, q⟩ => exact q.elim
  | .cont, ⟨_, _, _, q⟩ => exact q.elim
theorem def_okG {P : Program} {w : World} {K : Frag} {mg : Str → Option Value} {base : Heap} {x qual : Str} {st : Stmt} {f : Addr} {fd : FuncData} {N ps : List Str} {k : Nat} {m : List Bool} {gf : G Fl} (F : Fun K x qual st f fd) (S : FnScope N ps (defScope st)) (hm : m.length = ps.length)
    (hb : ∀ (cdv : Value) (A : Around) (outer : List PySem.Env) (s : Shared) (H : Hp) (E : XK), Room k (A.deeper (envOfC qual (defScope st) s.heap.objs.size f cdv)) →
      Takes (cxOf (L2.CX P w) P w K mg base N qual (defScope st) f cdv A outer s H E) (fun cls d _ H => E cls d H) →
      PassesOwn (model P w) (cxOf (L2.CX P w) P w K mg base N qual (defScope st) f cdv A outer s H E).A (cxOf (L2.CX P w) P w K mg base N qual (defScope st) f cdv A outer s H E).env (cxOf (L2.CX P w) P w K mg base N qual (defScope st) f cdv A outer s H E).xe →
      (cxOf (L2.CX P w) P w K mg base N qual (defScope st) f cdv A outer s H E).A.guards = some [] →
      ∃ ts, VB K mg (cxOf (L2.CX P w) P w K mg base N qual (defScope st) f cdv A outer s H E) (fun cls d _ H => E cls d H) m (defBody st) ts gf) :
    FnOkG P w K mg base (L2.CX P w) (k + 1) f fd ps (SpM K mg (gBody m N.length gf)) := by
  have len := spm_len (K := K) (mg := mg) (N := N) (gf := gf) hm
  refine okXG F S len (fun cdv A outer s H vs Q E hgd hr h => ?_)
  obtain ⟨ts, hv⟩ := hb cdv A outer s H E hr (takes_of rfl rfl rfl rfl) (passes_of rfl) hgd
  have hv := hv rfl rfl
  exact ⟨ts, hv.1, body_ok hv.2 (by rw [len vs H Q E h, hm]; exact Nat.le_refl _) h⟩
section
variable {K : Frag} {mg : Str → Option Value} {X : Cx} {W : WX} {a b e : Expr} {es : List Expr} {pos p : Pos} {ta tb te : TE} {ga gb : G D} {tcs : TA} {gcs : G (List Arg)}
structure CalleeG (K : Frag) (mg : Str → Option Value) (P : Program) (w : World) (base : Heap) (x : Str) (k : Nat) (ps : List Str) (mf : Mf) : Prop where
  ex : ∃ (f : Addr) (fd : FuncData), FnOkG P w K mg base (L2.CX P w) k f fd ps (SpM K mg mf) ∧ mg x = some (.ref f) ∧ PySem.W.keepIn K (.ref f) = true ∧ Binds K fd ps []
theorem FnOkG.at {CX : CXT} {k : Nat} {f : Addr} {fd : FuncData} {ps : List Str} {sp : Sp} {E : XK} {σ : St} {H : Hp} {s : Shared} {Q : VK} {us : List Value} {vs : List V} {pins : List (Addr × Obj)} (F : FnOkG X.prog X.w X.K X.mg X.base CX k f fd ps sp) (hgd : X.A.guards = some []) (hr : Room k X.A) (hb : Binds X.K fd ps []) (hx : PassesAt CX X σ E)
    (I : Inv X pins σ H s) (r : Vals vs us) (h : sp vs H Q E) : wpAny (model X.prog X.w) X.A (call (.ref f) us) (EP X pins σ Q) X.xe s := by
  have b := hb s us I.kIn (by rw [List.append_nil, ← r.length]; exact F.len _ _ _ _ h)
  rw [List.append_nil] at b
  refine wpAny_call (codeAny_mono (F.run X.A X.stack s H ⟨us, []⟩ us vs Q E hgd hr I.env0 b r h) fun res s' hq => ?_)
  match res, hq with
  | .error e, hq => exact hx pins H s e s' I hq
  | .ok (.ret u), hq => exact I.after hq
  | .ok .next, hq => exact hq.elim
  | .ok .brk, hq => exact hq.elim
  | .ok .cont, hq => exact hq.elim
theorem o_callG {x : Str} {p : Pos} {n j : Nat} {ps : List Str} {mf : Mf} (F : CalleeG K mg X.prog X.w X.base x j ps mf) (hgd : X.A.guards = some []) (hr : Room n X.A) (hj : j ≤ n) (tk : Takes X W) (ha : VC K mg X W (a :: es) tcs gcs) (hg : Gl X x := by rfl) (hdb : (x == ("__debug__" : Str)) = false := by decide) (he : starEach (a :: es) X.env = (false, eval a X.env) :: starEach es X.env := by rfl) (hpl : (backTo pos (starEach es X.env)).any (·.1) = false := by rfl) :
    VO K mg X W (.Call (.Name x p) (a :: es) [] pos) (tCallS (SpM K mg mf) (WE W) tcs) (gCall mf gcs) := fun k m => by
  have h := ha k m
  obtain ⟨f, fd, F, q1, q2, q3⟩ := F.ex
  subst k m
  refine ⟨⟨fun pins s σ H Q I hq => wpAny_Call_Name_kw (ld_glob I hg q1 ?_ hdb)⟩, eo_call h.2⟩
  exact PySem.W.callWith_K (h₀ := X.base) I.ok.mod.kin q2 (thn (h.1.run pos pins s σ H _ I hq) fun us s1 ⟨vs, H1, I1, r, q⟩ => ⟨I1.kIn, F.at hgd (hr.mono hj) q3 (passAt tk σ) I1 r q⟩) he hpl
/-! ### repr of a tuple -/
def shD (xs : List D) : Str := (toPy (.tup xs)).shown
def reprOk (xs : List D) : Bool := (toPy (.tup xs)).canLay0 && decide ((toPy (.tup xs)).depth ≤ 190) && (toPy (.tup xs)).showable && decide ((shD xs).length ≤ sizeLine)
def oRepr : List D → Option D
  | [.tup xs] => if reprOk xs then some (.str (shD xs)) else none
  | _ => none
theorem call_reprT (hgd : X.A.guards = some []) (hu : X.A.units + 195 < cLine) : CallR X (.builtin "repr") (fun xs H Q => ∃ a d, xs = [.ref a] ∧ Dp X.K H (.ref a) d ∧ d.canLay0 = true ∧ d.showable = true ∧ d.depth ≤ 190 ∧ d.shown.length ≤ sizeLine ∧ Q (.str d.shown) H) := by
  intro pins s σ H xs us Q I r h
  obtain ⟨a, d, rfl, hd, hl, hs, hp, hz, q⟩ := h
  cases r with
  | cons r1 r2 =>
    cases r2
    cases r1
    obtain ⟨as, rd⟩ := Dp.reads I d (.ref a) (.ref a) hd rfl
    exact repr_of_reads' rd hs (PyData.noDict_hsm (PyData.hasDict_of_canLay _ hl)) hgd (by omega) (fun _ _ e => e) (fun h' u tk hk => ⟨.str d.shown, H, I.kept hk, ⟨u, rfl⟩, q⟩) hz
theorem boot_repr : bootBuiltins "repr" = some (.builtin "repr") := by decide +kernel
theorem d_repr {n : Nat} (hgd : X.A.guards = some []) (hr : Room n X.A) (hm : mg "repr" = none) (ha : VD K mg X W a ta ga) (hg : Gl X "repr" := by rfl) (he : starEach [a] X.env = [(false, eval a X.env)] := by rfl) : VD K mg X W (.Call (.Name "repr" p) [a] [] pos)
    (tCB (fun xs H Q => ∃ a d, xs = [.ref a] ∧ Dp K H (.ref a) d ∧ d.canLay0 = true ∧ d.showable = true ∧ d.depth ≤ 190 ∧ d.shown.length ≤ sizeLine ∧ Q (.str d.shown) H) (tCons ta tNil)) (gCal oRepr (gConsA ga gNilA)) := fun k m => by
  have h := ha k m
  subst k m
  refine ⟨pe_callB (call_reprT hgd (by have := hr.un; omega)) hg hm boot_repr (pa_cons h.1 pa_nil he) (by decide) (by decide) he rfl, ed_cal (fun H vs xs z Q hx e q => ?_) (ea_cons h.2 ea_nil)⟩
  cases hx with
  | nil => cases e
  | cons h1 h2 =>
    cases h2 with
    | cons => cases h1 <;> cases e
    | nil =>
      cases h1 with
      | tup s1 s2 =>
        rename_i ys
        simp only [oRepr] at e
        by_cases ok : reprOk ys = true
        · rw [if_pos ok] at e
          cases e
          simp only [reprOk, Bool.and_eq_true, decide_eq_true_eq] at ok
          exact ⟨_, _, rfl, At.dp (.tup s1 s2) ok.1.1.1, ok.1.1.1, ok.1.2, ok.1.1.2, ok.2, q _ H (Ext.refl H) (.str _)⟩
        · rw [if_neg ok] at e
          cases e
      | _ => cases e
end
/-! ### a law's end -/
theorem law_impG {P : Program} {w : World} {K : Frag} {mg : Str → Option Value} {k : Nat} {fa : Addr} {x : Str} {m : Mf} (ht : ∀ ns : List Int, ns.length ≤ 63 → ∃ os, m [.d (.fl (ns.map D.int))] = .ok (.d (.bl true)) os)
    (h : ∃ fd : FuncData, (∀ (s : Shared) (v : Value), BindsTo s fd ⟨[v], []⟩ [(x, v)]) ∧ ∀ base : Heap, K.In base → base.Ns mainGlobals mg → FnOkG P w K mg base (L2.CX P w) k fa fd [x] (SpM K mg m)) :
    ∃ fd : FuncData, (∀ (s : Shared) (u : Value), BindsTo s fd ⟨[u], []⟩ [(x, u)]) ∧ ∀ base : Heap, K.In base → base.Ns mainGlobals mg → FnOkG P w K mg base (L2.CX P w) k fa fd [x] (spLaw K) := by
  obtain ⟨fd, hb, hF⟩ := h
  refine ⟨fd, hb, fun base h1 h2 => (hF base h1 h2).imp fun vs H Q E ⟨a, ns, ev, hS, hl, q⟩ => ?_⟩
  subst ev
  obtain ⟨os, e⟩ := ht ns hl
  refine ⟨[.d (.fl (ns.map D.int))], _, Reps.cons (f := fun _ => False) (.d (.fl hS (ats_ints ns)) fun _ z => z) Reps.nil fun _ z => z.elim, ?_⟩
  rw [e]
  intro v H' fs' f r rv d s
  cases rv with
  | d a n => cases a; exact q H'
/-- what is tracked when the law begins: its script at most -/
theorem first_heap {P : Program} {w : World} {K : Frag} {a : Addr} {s₁ : Shared} {vs : List Value} {ns : List Int} (KX : K.In s₁.heap) (ha : s₁.heap.get? a = some { cls := .type "list", data := .seq vs.toArray }) (hi : IntsAre vs ns) (hl : ns.length ≤ sizeLine) :
    ∃ H : Hp, Only H ∧ SqL K H a (ns.map V.int) ∧ HOk P w H s₁.heap ∧ (∀ b, H b ≠ none → b = a ∧ K.lookup a = none) := by
  have rv := vals_ints hi
  cases hk : K.lookup a with
  | some o =>
    have e := KX a o hk
    rw [ha] at e
    cases e
    exact ⟨fun _ => none, fun _ => .inl rfl, .inr ⟨_, vs.toArray, _, hk, rfl, rfl, rfl, by rw [List.size_toArray, hi.length]; exact hl, by simpa using rv⟩, fun b u z => (by cases (show (none : Option HO) = some u from z)), fun b z => (z rfl).elim⟩
  | none =>
    refine ⟨fun b => if b = a then some (.frz { cls := .type "list", data := .seq vs.toArray } (.lst (ns.map V.int))) else none, fun b => ?_, .inl (.inr ⟨{ cls := .type "list", data := .seq vs.toArray }, if_pos rfl⟩), fun b u z => ?_, fun b z => ⟨?_, rfl⟩⟩
    all_goals by_cases hb : b = a
    · exact .inr ⟨_, _, if_pos hb⟩
    · exact .inl (if_neg hb)
    · subst hb
      cases (if_pos rfl).symm.trans z
      exact ⟨ha, by rw [List.length_map]; exact hl, vs, _, rv, ha⟩
    · cases (if_neg hb).symm.trans z
    · exact hb
    · exact (z (if_neg hb)).elim
theorem law_callG {P : Program} {w : World} {K : Frag} {mg mb : Str → Option Value} {CX : CXT} {k : Nat} {fa a : Addr} {fd : FuncData} {x : Str} {sp : Sp} {s₁ : Shared} {vs : List Value} {ns : List Int}
    (KX : K.In s₁.heap) (hns : s₁.heap.Ns mainGlobals mg) (hb : s₁.heap.Ns builtinsNs mb) (hbb : ∀ x : Str, x ≠ "__name__" → mb x = bootBuiltins x) (hlim : s₁.heap.NoLimit) (hg : s₁.gens = #[])
    (ha : s₁.heap.get? a = some { cls := .type "list", data := .seq vs.toArray }) (hi : IntsAre vs ns) (hl : ns.length ≤ sizeLine) (hr : Room k callerA)
    (F : ∀ base : Heap, K.In base → base.Ns mainGlobals mg → FnOkG P w K mg base CX k fa fd [x] sp) (hbind : ∀ (s : Shared) (u : Value), BindsTo s fd ⟨[u], []⟩ [(x, u)])
    (hsp : ∀ H : Hp, Only H → SqL K H a (ns.map V.int) → sp [.ref a] H (fun v _ => v = .bl true) fun _ _ _ => False)
    (hCX : ∀ H e s', CX [] H s₁ (fun _ _ _ => False) e s' → False) :
    codeAny (model P w) callerA (.call (.ref fa) ⟨[.ref a], []⟩) (fun r s' => r = .ok (.ret (.bool true)) ∧ OldK s₁.heap s'.heap ∧ s'.os = s₁.os ∧ AllBare s'.gens) s₁ := by
  obtain ⟨H, hO, hS, hok, hA⟩ := first_heap (P := P) (w := w) KX ha hi hl
  have free : ∀ {b : Addr} {o : Obj}, s₁.heap.get? b = some o → (∀ vs n, o.data ≠ .seq vs n ∨ K.lookup b ≠ none) → H b = none := fun {b o} e d => by
    cases q : H b with
    | none => rfl
    | some u =>
      obtain ⟨rfl, hk⟩ := hA b (by rw [q]; simp)
      rw [ha] at e; cases e
      rcases d vs.toArray 0 with d | d
      · exact (d rfl).elim
      · exact (d hk).elim
  have hid : ∀ {b : Addr} {o : Obj}, s₁.heap.get? b = some o → (∀ vs n, o.data ≠ .seq vs n ∨ K.lookup b ≠ none) → (hidT s₁.heap H).get? b = some o := fun e d => hidT_get e (free e d)
  have nsK : ∀ {b : Addr} {m : Str → Option Value}, s₁.heap.Ns b m → (hidT s₁.heap H).Ns b m := fun ⟨o, es, ep, e, d, r⟩ => ⟨o, es, ep, hid e (fun _ _ => .inl (by rw [d]; intro z; cases z)), d, r⟩
  have hKb : K.In (hidT s₁.heap H) := fun b o e => hid (KX b o e) fun _ _ => .inr (by rw [e]; simp)
  have hM : Mod K mg (hidT s₁.heap H) := ⟨hKb, nsK hns, ⟨mb, nsK hb, hbb⟩, let ⟨mc, h1, h2⟩ := hlim; ⟨mc, nsK h1, h2⟩⟩
  have e0 : Env0 P w K mg (hidT s₁.heap H) callerA [] s₁ H := ⟨rfl, hM, fun b o e => of_hidT e, Nat.le_of_eq (hidT_size _ _), trivial, fun b hb => (by cases hb), hok, .of_eq hg⟩
  refine codeAny_mono ((F _ hKb (nsK hns)).run callerA [] s₁ H ⟨[.ref a], []⟩ [.ref a] [.ref a] _ _ rfl hr e0 (hbind s₁ (.ref a)) (.cons rfl .nil) (hsp H hO hS)) fun res s' h => ?_
  match res, h with
  | .error e, h => exact (hCX H e s' h).elim
  | .ok .next, h => exact h.elim
  | .ok .brk, h => exact h.elim
  | .ok .cont, h => exact h.elim
  | .ok (.ret u), ⟨v, H', os, bare, un, hok', r', q⟩ =>
    cases (show v = .bl true from q)
    cases (show u = Value.bool true from r')
    refine ⟨rfl, OldK.of_keep fun b o e => ?_, os, bare⟩
    cases q2 : H b with
    | none => exact un.keep b o e q2 (by intro z; cases z) (by simp)
    | some u2 =>
      rcases hO b with z | ⟨ob, xs, z⟩
      · rw [q2] at z; cases z
      · obtain ⟨e1, _⟩ := hok b _ z
        obtain ⟨e2, _⟩ := hok' b _ (un.frzs b ob _ z)
        rw [e] at e1; cases e1
        exact e2
theorem walk_ofG {l : PySem.W.OpenLaw} {n k : Nat} {q : Program} {loose : List Str} {XP : (Str → Option Value) → Heap → Prop} {YP : World → Heap → Prop} {d : DefRec} {K : Params → Frag} {CX : World → CXT} {sp : World → Sp} {x : Str}
    (hn : l.most = some n) (hn2 : n ≤ sizeLine) (hdf : d.params.defaults = []) (hr : Room k callerA)
    (hY : ∀ (w : World) (h : Heap), YP w h → (K w.params).In h)
    (F : ∀ (w : World) (mg : Str → Option Value) (fa : Addr) (h : Heap), (K w.params).In h → h.Ns mainGlobals mg → mg d.name = some (.ref fa) →
      ∃ fd : FuncData, (∀ (s : Shared) (u : Value), BindsTo s fd ⟨[u], []⟩ [(x, u)]) ∧
        ∀ base : Heap, (K w.params).In base → base.Ns mainGlobals mg → FnOkG l.prog w (K w.params) mg base (CX w) k fa fd [x] (sp w))
    (hsp : ∀ (w : World) (H : Hp) (a : Addr) (ns : List Int), ns.length ≤ n → Only H → SqL (K w.params) H a (ns.map V.int) → sp w [.ref a] H (fun v _ => v = .bl true) fun _ _ _ => False)
    (hCX : ∀ (w : World) (H : Hp) (s : Shared) (e : Value) (s' : Shared), CX w [] H s (fun _ _ _ => False) e s' → False) :
    PySem.W.WalkO q loose XP YP l.row.toRowW d [] (fun f vs => PySem.call f vs) := by
  refine Att.attach_call hn hdf fun w s₀ s₁ mg mb fa o pm cd doc a vs ns G Y ho hd hcd hmg hobj hints hlen hg => ?_
  have KX := hY w _ Y
  obtain ⟨fd, hb, hF⟩ := F w mg fa _ KX G.T.g hmg
  exact law_callG KX G.T.g G.T.b G.T.builtins G.T.nolimit hg hobj hints (Nat.le_trans hlen hn2) hr hF hb (fun H hO hS => hsp w H a ns hlen hO hS) fun H e s' => hCX w H s₁ e s'
end Gm

namespace K04
open PySem PySem.Spec PyProof.Rows L2 Gm
def topS (i : Nat) : Stmt := PySem.Challenge.pw_rulefault_k04_texts_of_calls.main.body.getD i (.Pass ⟨0, 0, 0, 0⟩)
def c_LETTERS : D := (.str (PySem.Str.ofString "abcdefghijklmnopqrstuvwxyz"))
def c_GREAT_LETTERS : D := (.str (PySem.Str.ofString "ABCDEFGHIJKLMNOPQRSTUVWXYZ"))
def c_MOST_LETTERS : D := (.int 6)
def c_MOST_NUMBER : D := (.int 1000000000)
def c_TAKEN_WORDS : D := (.tup [(.str (PySem.Str.ofString "else")), (.str (PySem.Str.ofString "fun")), (.str (PySem.Str.ofString "if")), (.str (PySem.Str.ofString "in")), (.str (PySem.Str.ofString "let")), (.str (PySem.Str.ofString "then"))])
def c_FIGURES : D := (.str (PySem.Str.ofString "0123456789"))
def c_MOST_FIGURES : D := (.int 10)
def c_MOST_POINTS : D := (.int 60)
def c_MOST_PARTS : D := (.int 4)
@[simp] def allX : List Str := [PySem.Str.ofString "NoText"]
@[simp] def yes_Clash : List Str := []
@[simp] def yes_NoCall : List Str := []
@[simp] def yes_NoProgram : List Str := []
@[simp] def yes_NoText : List Str := [PySem.Str.ofString "NoText"]
@[simp] def yes_RuleError : List Str := [PySem.Str.ofString "NoText"]
@[simp] def yes_ValueError : List Str := [PySem.Str.ofString "NoText"]
structure Cs where
  ThingSigns : Addr
def b_is_number : G Fl := (gRetD (gAndV (gIsi "int" (gVar 0)) (gAndV (gNotV (gIsi "bool" (gVar 0))) (gChain oLe oLe (gVar 1) (gVar 0) (gVar 2)))))
def m_is_number : Mf := gBody [false, false, false] 3 b_is_number
def b_is_worth : G Fl := (gRetD (gToD (gCall m_is_number (gcCons (gcD (gVar 0)) (gcCons (gcD (gC (.int 0))) (gcCons (gcD (gC c_MOST_NUMBER)) gcNil))))))
def m_is_worth : Mf := gBody [false] 1 b_is_worth
def b_all_small : G Fl := (gRetD (gAllS (gOwnS (gLc (gItems (gDat (gVar 0))) (putD 1) gYes (g2 oIn (gVar 1) (gC c_LETTERS)) [1]))))
def m_all_small : Mf := gBody [false] 2 b_all_small
def b_is_name : G Fl := (gSeq (gIf (gOr (gNot (gTruth (gIsi "str" (gVar 0)))) (gOr (gNot (gTest (gChain oLe oLe (gC (.int 1)) (gCal oLen (gConsA (gVar 0) gNilA)) (gC c_MOST_LETTERS)))) (gTest (g2 oIn (gVar 0) (gC c_TAKEN_WORDS))))) (gRetD (gC (.bl false))) gPass)
  (gRetD (gToD (gCall m_all_small (gcCons (gcD (gVar 0)) gcNil)))))
def m_is_name : Mf := gBody [false] 1 b_is_name
def b_is_mark : G Fl := (gSeq (gIf (gOr (gNot (gTruth (gIsi "str" (gVar 0)))) (gNot (gTest (gChain oLe oLe (gC (.int 1)) (gCal oLen (gConsA (gVar 0) gNilA)) (gC c_MOST_LETTERS))))) (gRetD (gC (.bl false))) gPass)
  (gRetD (gAndV (g2 oIn (g2 oIx (gVar 0) (gC (.int 0))) (gC c_GREAT_LETTERS)) (gToD (gCall m_all_small (gcCons (gcD (gSl oSl (gVar 0) (gP (gC (.int 1))) gNoP)) gcNil))))))
def m_is_mark : Mf := gBody [false] 1 b_is_mark
def b_ThingSigns___init__ (cs : Cs) : G Fl := (gSeq (gIf (gNot (gTruth (gIsi "str" (gVar 1)))) (gRaiseI "NoText" "row" "row " (gC (.int 0))) gPass)
  (gSeq (gSetF cs.ThingSigns 0 "signs" (gOb (gVar 1)))
  (gSetF cs.ThingSigns 0 "here" (gOb (gC (.int 0))))))
def m_ThingSigns___init__ (cs : Cs) : Mf := gBody [true, false] 2 (b_ThingSigns___init__ cs)
def b_ThingSigns_coming (cs : Cs) : G Fl := (gRetD (gSl oSl (gFld cs.ThingSigns 0 "signs") (gP (gFld cs.ThingSigns 0 "here")) (gP (g2 oAdd (gFld cs.ThingSigns 0 "here") (gC (.int 1))))))
def m_ThingSigns_coming (cs : Cs) : Mf := gBody [true] 1 (b_ThingSigns_coming cs)
def b_ThingSigns_is_over (cs : Cs) : G Fl := (gRetD (g2 oEq (gFld cs.ThingSigns 0 "here") (gCal oLen (gConsA (gFld cs.ThingSigns 0 "signs") gNilA))))
def m_ThingSigns_is_over (cs : Cs) : Mf := gBody [true] 1 (b_ThingSigns_is_over cs)
def b_ThingSigns_take_all (cs : Cs) : G Fl := (gSeq (gAsg 2 (gFld cs.ThingSigns 0 "here"))
  (gSeq (whileR (gAnd (gTest (g2 oNe (gToD (gMeth cs.ThingSigns 0 "coming" (m_ThingSigns_coming cs) gcNil)) (gC (.str (PySem.Str.ofString ""))))) (gTest (g2 oIn (gToD (gMeth cs.ThingSigns 0 "coming" (m_ThingSigns_coming cs) gcNil)) (gVar 1)))) (gAugF cs.ThingSigns (oI0 fun a b => .int (a + b)) 0 "here" (gC (.int 1))) 3000)
  (gRetD (gSl oSl (gFld cs.ThingSigns 0 "signs") (gP (gVar 2)) (gP (gFld cs.ThingSigns 0 "here"))))))
def m_ThingSigns_take_all (cs : Cs) : Mf := gBody [true, false] 3 (b_ThingSigns_take_all cs)
def b_ThingSigns_has_text (cs : Cs) : G Fl := (gSeq (gIf (gTest (g2 oNe (gSl oSl (gFld cs.ThingSigns 0 "signs") (gP (gFld cs.ThingSigns 0 "here")) (gP (g2 oAdd (gFld cs.ThingSigns 0 "here") (gCal oLen (gConsA (gVar 1) gNilA))))) (gVar 1))) (gRetD (gC (.bl false))) gPass)
  (gSeq (gAugF cs.ThingSigns (oI0 fun a b => .int (a + b)) 0 "here" (gCal oLen (gConsA (gVar 1) gNilA)))
  (gRetD (gC (.bl true)))))
def m_ThingSigns_has_text (cs : Cs) : Mf := gBody [true, false] 2 (b_ThingSigns_has_text cs)
def b_ThingSigns_take_text (cs : Cs) : G Fl := (gIf (gNot (gTruth (gToD (gMeth cs.ThingSigns 0 "has_text" (m_ThingSigns_has_text cs) (gcCons (gcD (gVar 1)) gcNil))))) (gRaiseI "NoText" "row" "row " (gC (.int 0))) gPass)
def m_ThingSigns_take_text (cs : Cs) : Mf := gBody [true, false] 2 (b_ThingSigns_take_text cs)
def b_ThingSigns_take_number (cs : Cs) : G Fl := (gSeq (gAsg 1 (gToD (gMeth cs.ThingSigns 0 "take_all" (m_ThingSigns_take_all cs) (gcCons (gcD (gC c_FIGURES)) gcNil))))
  (gSeq (gIf (gOr (gNot (gTest (gChain oLe oLe (gC (.int 1)) (gCal oLen (gConsA (gVar 1) gNilA)) (gC c_MOST_FIGURES)))) (gAnd (gTest (g2 oEq (g2 oIx (gVar 1) (gC (.int 0))) (gC (.str (PySem.Str.ofString "0"))))) (gTest (g2 oNe (gVar 1) (gC (.str (PySem.Str.ofString "0"))))))) (gRaiseI "NoText" "row" "row " (gC (.int 0))) gPass)
  (gRetD (gCal oIntS (gConsA (gVar 1) gNilA)))))
def m_ThingSigns_take_number (cs : Cs) : Mf := gBody [true] 2 (b_ThingSigns_take_number cs)
def b_ThingSigns_take_mark (cs : Cs) : G Fl := (gSeq (gAsg 1 (gToD (gMeth cs.ThingSigns 0 "coming" (m_ThingSigns_coming cs) gcNil)))
  (gSeq (gAugF cs.ThingSigns (oI0 fun a b => .int (a + b)) 0 "here" (gC (.int 1)))
  (gRetD (g2 oAdd (gVar 1) (gToD (gMeth cs.ThingSigns 0 "take_all" (m_ThingSigns_take_all cs) (gcCons (gcD (gC c_LETTERS)) gcNil)))))))
def m_ThingSigns_take_mark (cs : Cs) : Mf := gBody [true] 2 (b_ThingSigns_take_mark cs)
def b_ThingSigns_take_row (cs : Cs) (r_ThingSigns_take_row : Mf) (r_ThingSigns_take_one : Mf) : G Fl := (gSeq (gAsgO 2 (gLst (gConsA (gToD (gMeth cs.ThingSigns 0 "take_one" r_ThingSigns_take_one (gcCons (gcD (gVar 1)) gcNil))) gNilA)))
  (gSeq (whileR (gTruth (gToD (gMeth cs.ThingSigns 0 "has_text" (m_ThingSigns_has_text cs) (gcCons (gcD (gC (.str (PySem.Str.ofString ", ")))) gcNil)))) (gApp 2 (gToD (gMeth cs.ThingSigns 0 "take_one" r_ThingSigns_take_one (gcCons (gcD (gVar 1)) gcNil)))) 3000)
  (gSeq (gDrop (gToD (gMeth cs.ThingSigns 0 "take_text" (m_ThingSigns_take_text cs) (gcCons (gcD (gC (.str (PySem.Str.ofString ")")))) gcNil))))
  (gRetD (gTupS (gSlot 2))))))
def b_ThingSigns_take_one (cs : Cs) (r_ThingSigns_take_row : Mf) (r_ThingSigns_take_one : Mf) : G Fl := (gSeq (gIf (gOr (gTest (g2 oEq (gVar 1) (gC (.int 0)))) (gTruth (gToD (gMeth cs.ThingSigns 0 "is_over" (m_ThingSigns_is_over cs) gcNil)))) (gRaiseI "NoText" "row" "row " (gC (.int 0))) gPass)
  (gSeq (gIf (gTest (g2 oIn (gToD (gMeth cs.ThingSigns 0 "coming" (m_ThingSigns_coming cs) gcNil)) (gC c_FIGURES))) (gRetD (gToD (gMeth cs.ThingSigns 0 "take_number" (m_ThingSigns_take_number cs) gcNil))) gPass)
  (gSeq (gIf (gTest (g2 oNotIn (gToD (gMeth cs.ThingSigns 0 "coming" (m_ThingSigns_coming cs) gcNil)) (gC c_GREAT_LETTERS))) (gRaiseI "NoText" "row" "row " (gC (.int 0))) gPass)
  (gSeq (gAsg 2 (gToD (gMeth cs.ThingSigns 0 "take_mark" (m_ThingSigns_take_mark cs) gcNil)))
  (gSeq (gIf (gNot (gTruth (gToD (gMeth cs.ThingSigns 0 "has_text" (m_ThingSigns_has_text cs) (gcCons (gcD (gC (.str (PySem.Str.ofString "(")))) gcNil))))) (gRetD (gTup (gConsA (gVar 2) (gConsA (gTup gNilA) gNilA)))) gPass)
  (gRetD (gTup (gConsA (gVar 2) (gConsA (gToD (gMeth cs.ThingSigns 0 "take_row" r_ThingSigns_take_row (gcCons (gcD (g2 oSub (gVar 1) (gC (.int 1)))) gcNil))) gNilA)))))))))
mutual
def mm_ThingSigns_take_row (cs : Cs) : Nat → Mf
  | 0 => fun _ => .bad
  | n + 1 => gBody [true, false] 3 (b_ThingSigns_take_row cs (mm_ThingSigns_take_row cs n) (mm_ThingSigns_take_one cs n))
def mm_ThingSigns_take_one (cs : Cs) : Nat → Mf
  | 0 => fun _ => .bad
  | n + 1 => gBody [true, false] 3 (b_ThingSigns_take_one cs (mm_ThingSigns_take_row cs n) (mm_ThingSigns_take_one cs n))
end
def m_ThingSigns_take_row (cs : Cs) : Mf := mm_ThingSigns_take_row cs 130
def m_ThingSigns_take_one (cs : Cs) : Mf := mm_ThingSigns_take_one cs 130
def b_is_row : G Fl := (gRetD (gAndV (gIsi "tuple" (gVar 0)) (g2 oLe (gCal oLen (gConsA (gVar 0) gNilA)) (gC c_MOST_PARTS))))
def m_is_row : Mf := gBody [false] 1 b_is_row
def b_is_thing : G Fl := (gSeq (gAsgO 1 (gLst (gConsA (gVar 0) gNilA)))
  (gSeq (gAsg 2 (gC (.int 0)))
  (gSeq (whileR (gTest (gCmpS oNe (gSlot 1) (gOwnS (gLst gNilA)))) (gSeq (gAsg 3 (gPop 1))
  (gSeq (gAug (oI0 fun a b => .int (a + b)) 2 (gC (.int 1)))
  (gSeq (gIf (gTest (g2 oGt (gVar 2) (gC c_MOST_POINTS))) (gRetD (gC (.bl false))) gPass)
  (gSeq (gIf (gTruth (gToD (gCall m_is_worth (gcCons (gcD (gVar 3)) gcNil)))) gCt gPass)
  (gSeq (gIf (gOr (gNot (gTruth (gIsi "tuple" (gVar 3)))) (gOr (gTest (g2 oNe (gCal oLen (gConsA (gVar 3) gNilA)) (gC (.int 2)))) (gOr (gNot (gTruth (gToD (gCall m_is_mark (gcCons (gcD (g2 oIx (gVar 3) (gC (.int 0)))) gcNil))))) (gNot (gTruth (gToD (gCall m_is_row (gcCons (gcD (g2 oIx (gVar 3) (gC (.int 1)))) gcNil)))))))) (gRetD (gC (.bl false))) gPass)
  (gExt 1 (gDat (g2 oIx (gVar 3) (gC (.int 1)))))))))) 70)
  (gRetD (gC (.bl true))))))
def m_is_thing : Mf := gBody [false] 4 b_is_thing
def b_is_call : G Fl := (gSeq (gIf (gOr (gNot (gTruth (gIsi "tuple" (gVar 0)))) (gOr (gTest (g2 oNe (gCal oLen (gConsA (gVar 0) gNilA)) (gC (.int 2)))) (gOr (gNot (gTruth (gToD (gCall m_is_name (gcCons (gcD (g2 oIx (gVar 0) (gC (.int 0)))) gcNil))))) (gNot (gTruth (gToD (gCall m_is_row (gcCons (gcD (g2 oIx (gVar 0) (gC (.int 1)))) gcNil)))))))) (gRetD (gC (.bl false))) gPass)
  (gRetD (gAllS (gOwnS (gLc (gItems (gDat (g2 oIx (gVar 0) (gC (.int 1))))) (putD 1) gYes (gToD (gCall m_is_thing (gcCons (gcD (gVar 1)) gcNil))) [1])))))
def m_is_call : Mf := gBody [false] 2 b_is_call
def b_row_text (r_row_text : Mf) (r_thing_text : Mf) : G Fl := (gRetD (gJoin (gC (.str (PySem.Str.ofString ", "))) (gOwnS (gLc (gItems (gDat (gVar 0))) (putD 1) gYes (gToD (gCall r_thing_text (gcCons (gcD (gVar 1)) gcNil))) [1]))))
def b_thing_text (r_row_text : Mf) (r_thing_text : Mf) : G Fl := (gSeq (gIf (gTruth (gIsi "int" (gVar 0))) (gRetD (gCal oStrI (gConsA (gVar 0) gNilA))) gPass)
  (gSeq (gIf (gTest (g2 oEq (g2 oIx (gVar 0) (gC (.int 1))) (gTup gNilA))) (gRetD (g2 oIx (gVar 0) (gC (.int 0)))) gPass)
  (gRetD (g2 oAdd (g2 oAdd (g2 oAdd (g2 oIx (gVar 0) (gC (.int 0))) (gC (.str (PySem.Str.ofString "(")))) (gToD (gCall r_row_text (gcCons (gcD (g2 oIx (gVar 0) (gC (.int 1)))) gcNil)))) (gC (.str (PySem.Str.ofString ")")))))))
mutual
def mm_row_text : Nat → Mf
  | 0 => fun _ => .bad
  | n + 1 => gBody [false] 2 (b_row_text  (mm_row_text  n) (mm_thing_text  n))
def mm_thing_text : Nat → Mf
  | 0 => fun _ => .bad
  | n + 1 => gBody [false] 1 (b_thing_text  (mm_row_text  n) (mm_thing_text  n))
end
def m_row_text : Mf := mm_row_text  130
def m_thing_text : Mf := mm_thing_text  130
def b_call_text : G Fl := (gRetD (g2 oAdd (g2 oAdd (g2 oAdd (g2 oIx (gVar 0) (gC (.int 0))) (gC (.str (PySem.Str.ofString "(")))) (gToD (gCall m_row_text (gcCons (gcD (g2 oIx (gVar 0) (gC (.int 1)))) gcNil)))) (gC (.str (PySem.Str.ofString ")")))))
def m_call_text : Mf := gBody [false] 1 b_call_text
def b_ThingSigns_take_call (cs : Cs) : G Fl := (gSeq (gAsg 1 (gToD (gMeth cs.ThingSigns 0 "take_all" (m_ThingSigns_take_all cs) (gcCons (gcD (gC c_LETTERS)) gcNil))))
  (gSeq (gDrop (gToD (gMeth cs.ThingSigns 0 "take_text" (m_ThingSigns_take_text cs) (gcCons (gcD (gC (.str (PySem.Str.ofString "(")))) gcNil))))
  (gSeq (gIf (gTruth (gToD (gMeth cs.ThingSigns 0 "has_text" (m_ThingSigns_has_text cs) (gcCons (gcD (gC (.str (PySem.Str.ofString ")")))) gcNil)))) (gRetD (gTup (gConsA (gVar 1) (gConsA (gTup gNilA) gNilA)))) gPass)
  (gRetD (gTup (gConsA (gVar 1) (gConsA (gToD (gMeth cs.ThingSigns 0 "take_row" (m_ThingSigns_take_row cs) (gcCons (gcD (gC c_MOST_POINTS)) gcNil))) gNilA)))))))
def m_ThingSigns_take_call (cs : Cs) : Mf := gBody [true] 2 (b_ThingSigns_take_call cs)
def b_read_call (cs : Cs) : G Fl := (gSeq (gAsgO 1 (gMake cs.ThingSigns (m_ThingSigns___init__ cs) (gcCons (gcD (gVar 0)) gcNil)))
  (gSeq (gAsg 2 (gToD (gMeth cs.ThingSigns 1 "take_call" (m_ThingSigns_take_call cs) gcNil)))
  (gSeq (gIf (gOr (gNot (gTruth (gToD (gMeth cs.ThingSigns 1 "is_over" (m_ThingSigns_is_over cs) gcNil)))) (gNot (gTruth (gToD (gCall m_is_call (gcCons (gcD (gVar 2)) gcNil)))))) (gRaiseI "NoText" "row" "row " (gC (.int 0))) gPass)
  (gRetD (gVar 2)))))
def m_read_call (cs : Cs) : Mf := gBody [false] 3 (b_read_call cs)
def b__law_begun : G Fl := (gSeq (gAsg 2 (g2 oAdd (gC (.int 1)) (g2 oMod (g2 oPow (g2 oAdd (g2 oAdd (g2 oMul (g2 oMod (gVar 0) (gC (.int 2147483647))) (gC (.int 48271))) (g2 oMul (gC (.int 104729)) (gVar 1))) (gC (.int 7))) (gC (.int 3))) (gC (.int 2147483629)))))
  (gSeq (gIf (gTest (g2 oGe (gVar 0) (g2 oPow (gC (.int 10)) (gC (.int 18))))) (gRet (gLst (gConsA (g2 oSub (gVar 0) (g2 oPow (gC (.int 10)) (gC (.int 18)))) (gConsA (gVar 2) (gConsA (gC (.int 0)) gNilA))))) gPass)
  (gRet (gLst (gConsA (gC (.int 0)) (gConsA (gVar 2) (gConsA (gC (.int 0)) gNilA)))))))
def m__law_begun : Mf := gBody [false, false] 3 b__law_begun
def b__law_next : G Fl := (gSeq (gIf (gTest (g2 oGt (gIxS (gSlot 0) (gC (.int 0))) (gC (.int 0)))) (gSeq (gAsg 3 (g2 oMod (gIxS (gSlot 0) (gC (.int 0))) (gVar 1)))
  (gSeq (gSetIx 0 (g2 oDiv (gIxS (gSlot 0) (gC (.int 0))) (gVar 1)) (gC (.int 0)))
  (gRetD (gVar 3)))) gPass)
  (gSeq (gSetIx 0 (g2 oAdd (gIxS (gSlot 0) (gC (.int 2))) (gC (.int 1))) (gC (.int 2)))
  (gSeq (gAsg 2 (g2 oMod (g2 oPow (g2 oAdd (g2 oAdd (g2 oMul (gIxS (gSlot 0) (gC (.int 1))) (g2 oAdd (g2 oMul (gC (.int 2)) (gIxS (gSlot 0) (gC (.int 2)))) (gC (.int 1)))) (g2 oMul (g2 oMul (gC (.int 7919)) (gIxS (gSlot 0) (gC (.int 2)))) (gIxS (gSlot 0) (gC (.int 2))))) (gC (.int 11))) (gC (.int 5))) (gC (.int 2147483647))))
  (gRetD (g2 oMod (g2 oDiv (gVar 2) (gC (.int 11))) (gVar 1))))))
def m__law_next : Mf := gBody [true, false] 4 b__law_next
def b__law_pick : G Fl := (gRetD (g2 oIx (gVar 1) (gToD (gCall m__law_next (gcCons (gcS 0) (gcCons (gcD (gCal oLen (gConsA (gVar 1) gNilA))) gcNil))))))
def m__law_pick : Mf := gBody [true, false] 2 b__law_pick
def b__law_number : G Fl := (gSeq (gAsg 1 (gToD (gCall m__law_next (gcCons (gcS 0) (gcCons (gcD (gC (.int 8))) gcNil)))))
  (gSeq (gAsg 2 (gToD (gCall m__law_next (gcCons (gcS 0) (gcCons (gcD (gC (.int 5))) gcNil)))))
  (gSeq (gIf (gTest (g2 oEq (gVar 1) (gC (.int 7)))) (gRetD (g2 oSub (g2 oPow (gC (.int 10)) (gC (.int 9))) (gVar 2))) gPass)
  (gRetD (gIfE (gTest (g2 oEq (gVar 1) (gC (.int 6)))) (gToD (gCall m__law_next (gcCons (gcS 0) (gcCons (gcD (g2 oPow (gC (.int 10)) (gC (.int 9)))) gcNil)))) (gVar 2))))))
def m__law_number : Mf := gBody [true] 3 b__law_number
def b__law_mark : G Fl := (gSeq (gAsg 1 (gC (.str (PySem.Str.ofString "abcdefghijklmnopqrstuvwxyz"))))
  (gSeq (gAsg 2 (g2 oIx (gC (.str (PySem.Str.ofString "ABCDEFGHIJKLMNOPQRSTUVWXYZ"))) (gToD (gCall m__law_next (gcCons (gcS 0) (gcCons (gcD (gC (.int 26))) gcNil))))))
  (gRetD (g2 oAdd (gVar 2) (gJoin (gC (.str (PySem.Str.ofString ""))) (gOwnS (gLc (gRange1 (gToD (gCall m__law_pick (gcCons (gcS 0) (gcCons (gcD (gFrz (gLst (gConsA (gC (.int 0)) (gConsA (gC (.int 1)) (gConsA (gC (.int 5)) (gConsA (gC (.int 3)) gNilA))))))) gcNil))))) (putD 3) gYes (g2 oIx (gVar 1) (gToD (gCall m__law_next (gcCons (gcS 0) (gcCons (gcD (gC (.int 26))) gcNil))))) [3])))))))
def m__law_mark : Mf := gBody [true] 4 b__law_mark
def b__law_mark_alone : G Fl := (gRetD (gTup (gConsA (gToD (gCall m__law_mark (gcCons (gcS 0) gcNil))) (gConsA (gTup gNilA) gNilA))))
def m__law_mark_alone : Mf := gBody [true] 1 b__law_mark_alone
def b__law_of_points (r__law_of_points : Mf) : G Fl := (gSeq (gIf (gTest (g2 oEq (gVar 1) (gC (.int 1)))) (gRetD (gIfE (gTest (g2 oEq (gToD (gCall m__law_next (gcCons (gcS 0) (gcCons (gcD (gC (.int 3))) gcNil)))) (gC (.int 0)))) (gToD (gCall m__law_mark_alone (gcCons (gcS 0) gcNil))) (gToD (gCall m__law_number (gcCons (gcS 0) gcNil))))) gPass)
  (gSeq (gAsg 2 (g2 oAdd (gC (.int 1)) (gToD (gCall m__law_next (gcCons (gcS 0) (gcCons (gcD (gCal oMin2 (gConsA (gC (.int 4)) (gConsA (g2 oSub (gVar 1) (gC (.int 1))) gNilA)))) gcNil))))))
  (gSeq (gAsg 3 (g2 oSub (g2 oSub (gVar 1) (gC (.int 1))) (gVar 2)))
  (gSeq (gAsgO 4 (gLst gNilA))
  (gSeq (gFor (gRange1 (gVar 2)) (putD 5) (gSeq (gAsg 8 (gIfE (gTest (g2 oEq (gVar 5) (g2 oSub (gVar 2) (gC (.int 1))))) (gVar 3) (gToD (gCall m__law_next (gcCons (gcS 0) (gcCons (gcD (g2 oAdd (gVar 3) (gC (.int 1)))) gcNil))))))
  (gSeq (gAsg 3 (g2 oSub (gVar 3) (gVar 8)))
  (gApp 4 (gToD (gCall r__law_of_points (gcCons (gcS 0) (gcCons (gcD (g2 oAdd (gC (.int 1)) (gVar 8))) gcNil))))))))
  (gSeq (gAsg 6 (gToD (gCall m__law_next (gcCons (gcS 0) (gcCons (gcD (gVar 2)) gcNil)))))
  (gSeq (gAsg 7 (gToD (gCall m__law_mark (gcCons (gcS 0) gcNil))))
  (gRetD (gTup (gConsA (gVar 7) (gConsA (gTupS (gOwnS (gCat (gOwnS (gSlL (gSlot 4) (gP (gVar 6)) gNoP)) (gOwnS (gSlL (gSlot 4) gNoP (gP (gVar 6))))))) gNilA)))))))))))
def mm__law_of_points : Nat → Mf
  | 0 => fun _ => .bad
  | n + 1 => gBody [true, false] 9 (b__law_of_points  (mm__law_of_points  n))
def m__law_of_points : Mf := mm__law_of_points  70
def b__law_text (r__law_text : Mf) : G Fl := (gSeq (gIf (gTruth (gIsi "int" (gVar 0))) (gRetD (gCal oStrI (gConsA (gVar 0) gNilA))) gPass)
  (gSeq (gIf (gTest (g2 oEq (g2 oIx (gVar 0) (gC (.int 1))) (gTup gNilA))) (gRetD (g2 oIx (gVar 0) (gC (.int 0)))) gPass)
  (gRetD (g2 oAdd (g2 oAdd (g2 oAdd (g2 oIx (gVar 0) (gC (.int 0))) (gC (.str (PySem.Str.ofString "(")))) (gJoin (gC (.str (PySem.Str.ofString ", "))) (gOwnS (gLc (gItems (gDat (g2 oIx (gVar 0) (gC (.int 1))))) (putD 1) gYes (gToD (gCall r__law_text (gcCons (gcD (gVar 1)) gcNil))) [1])))) (gC (.str (PySem.Str.ofString ")")))))))
def mm__law_text : Nat → Mf
  | 0 => fun _ => .bad
  | n + 1 => gBody [false] 2 (b__law_text  (mm__law_text  n))
def m__law_text : Mf := mm__law_text  80
def b__law_thing_at (r__law_thing_at : Mf) (r__law_row_at : Mf) : G Fl := (gSeq (gAsg 3 (gVar 1))
  (gSeq (whileR (gAnd (gTest (g2 oLt (gVar 3) (gCal oLen (gConsA (gVar 0) gNilA)))) (gTest (g2 oIn (g2 oIx (gVar 0) (gVar 3)) (gC (.str (PySem.Str.ofString "0123456789")))))) (gAsg 3 (g2 oAdd (gVar 3) (gC (.int 1)))) 3000)
  (gSeq (gIf (gTest (g2 oGt (gVar 3) (gVar 1))) (gSeq (gAsg 5 (gSl oSl (gVar 0) (gP (gVar 1)) (gP (gVar 3))))
  (gSeq (gIf (gOr (gTest (g2 oGt (gCal oLen (gConsA (gVar 5) gNilA)) (gC (.int 10)))) (gOr (gAnd (gTest (g2 oEq (g2 oIx (gVar 5) (gC (.int 0))) (gC (.str (PySem.Str.ofString "0"))))) (gTest (g2 oGt (gCal oLen (gConsA (gVar 5) gNilA)) (gC (.int 1))))) (gTest (g2 oGt (gCal oIntS (gConsA (gVar 5) gNilA)) (g2 oPow (gC (.int 10)) (gC (.int 9))))))) (gRetD (gC .non)) gPass)
  (gRetD (gTup (gConsA (gCal oIntS (gConsA (gVar 5) gNilA)) (gConsA (gVar 3) gNilA)))))) gPass)
  (gSeq (gIf (gOr (gTest (g2 oEq (gVar 1) (gCal oLen (gConsA (gVar 0) gNilA)))) (gOr (gTest (g2 oNotIn (g2 oIx (gVar 0) (gVar 1)) (gC (.str (PySem.Str.ofString "ABCDEFGHIJKLMNOPQRSTUVWXYZ"))))) (gTest (g2 oEq (gVar 2) (gC (.int 0)))))) (gRetD (gC .non)) gPass)
  (gSeq (gAsg 3 (g2 oAdd (gVar 1) (gC (.int 1))))
  (gSeq (whileR (gAnd (gTest (g2 oLt (gVar 3) (gCal oLen (gConsA (gVar 0) gNilA)))) (gTest (g2 oIn (g2 oIx (gVar 0) (gVar 3)) (gC (.str (PySem.Str.ofString "abcdefghijklmnopqrstuvwxyz")))))) (gAsg 3 (g2 oAdd (gVar 3) (gC (.int 1)))) 3000)
  (gSeq (gIf (gTest (g2 oGt (g2 oSub (gVar 3) (gVar 1)) (gC (.int 6)))) (gRetD (gC .non)) gPass)
  (gSeq (gIf (gTest (g2 oNe (gSl oSl (gVar 0) (gP (gVar 3)) (gP (g2 oAdd (gVar 3) (gC (.int 1))))) (gC (.str (PySem.Str.ofString "("))))) (gRetD (gTup (gConsA (gTup (gConsA (gSl oSl (gVar 0) (gP (gVar 1)) (gP (gVar 3))) (gConsA (gTup gNilA) gNilA))) (gConsA (gVar 3) gNilA)))) gPass)
  (gSeq (gAsg 4 (gToD (gCall r__law_row_at (gcCons (gcD (gVar 0)) (gcCons (gcD (g2 oAdd (gVar 3) (gC (.int 1)))) (gcCons (gcD (g2 oSub (gVar 2) (gC (.int 1)))) gcNil))))))
  (gRetD (gIfE (gTest (g2 oIsN (gVar 4) (gC .non))) (gC .non) (gTup (gConsA (gTup (gConsA (gSl oSl (gVar 0) (gP (gVar 1)) (gP (gVar 3))) (gConsA (g2 oIx (gVar 4) (gC (.int 0))) gNilA))) (gConsA (g2 oIx (gVar 4) (gC (.int 1))) gNilA))))))))))))))
def b__law_row_at (r__law_thing_at : Mf) (r__law_row_at : Mf) : G Fl := (gSeq (gAsgO 3 (gLst gNilA))
  (whileR (gTruth (gC (.bl true))) (gSeq (gAsg 4 (gToD (gCall r__law_thing_at (gcCons (gcD (gVar 0)) (gcCons (gcD (gVar 1)) (gcCons (gcD (gVar 2)) gcNil))))))
  (gSeq (gIf (gTest (g2 oIsN (gVar 4) (gC .non))) (gRetD (gC .non)) gPass)
  (gSeq (gApp 3 (g2 oIx (gVar 4) (gC (.int 0))))
  (gSeq (gIf (gTest (g2 oEq (gSl oSl (gVar 0) (gP (g2 oIx (gVar 4) (gC (.int 1)))) (gP (g2 oAdd (g2 oIx (gVar 4) (gC (.int 1))) (gC (.int 1))))) (gC (.str (PySem.Str.ofString ")"))))) (gRetD (gIfE (gTest (g2 oLt (gLenS (gSlot 3)) (gC (.int 5)))) (gTup (gConsA (gTupS (gSlot 3)) (gConsA (g2 oAdd (g2 oIx (gVar 4) (gC (.int 1))) (gC (.int 1))) gNilA))) (gC .non))) gPass)
  (gSeq (gIf (gTest (g2 oNe (gSl oSl (gVar 0) (gP (g2 oIx (gVar 4) (gC (.int 1)))) (gP (g2 oAdd (g2 oIx (gVar 4) (gC (.int 1))) (gC (.int 2))))) (gC (.str (PySem.Str.ofString ", "))))) (gRetD (gC .non)) gPass)
  (gAsg 1 (g2 oAdd (g2 oIx (gVar 4) (gC (.int 1))) (gC (.int 2))))))))) 3001))
mutual
def mm__law_thing_at : Nat → Mf
  | 0 => fun _ => .bad
  | n + 1 => gBody [false, false, false] 6 (b__law_thing_at  (mm__law_thing_at  n) (mm__law_row_at  n))
def mm__law_row_at : Nat → Mf
  | 0 => fun _ => .bad
  | n + 1 => gBody [false, false, false] 5 (b__law_row_at  (mm__law_thing_at  n) (mm__law_row_at  n))
end
def m__law_thing_at : Mf := mm__law_thing_at  130
def m__law_row_at : Mf := mm__law_row_at  130
def b__law_count (r__law_count : Mf) : G Fl := (gRetD (gIfE (gTruth (gIsi "int" (gVar 0))) (gC (.int 1)) (g2 oAdd (gC (.int 1)) (gSumS (gOwnS (gLc (gItems (gDat (g2 oIx (gVar 0) (gC (.int 1))))) (putD 1) gYes (gToD (gCall r__law_count (gcCons (gcD (gVar 1)) gcNil))) [1]))))))
def mm__law_count : Nat → Mf
  | 0 => fun _ => .bad
  | n + 1 => gBody [false] 2 (b__law_count  (mm__law_count  n))
def m__law_count : Mf := mm__law_count  80
def b__law_spoilt : G Fl := (gSeq (gAsg 2 (gToD (gCall m__law_next (gcCons (gcS 0) (gcCons (gcD (gC (.int 5))) gcNil)))))
  (gSeq (gAsg 3 (gToD (gCall m__law_next (gcCons (gcS 0) (gcCons (gcD (g2 oAdd (gCal oLen (gConsA (gVar 1) gNilA)) (gC (.int 1)))) gcNil)))))
  (gSeq (gAsg 4 (gToD (gCall m__law_pick (gcCons (gcS 0) (gcCons (gcD (gC (.str (PySem.Str.ofString "(), 0123456789(),abcxyzABCXYZ_-.()=\n")))) gcNil)))))
  (gSeq (gIf (gTest (g2 oLt (gVar 2) (gC (.int 2)))) (gRetD (g2 oAdd (g2 oAdd (gSl oSl (gVar 1) gNoP (gP (gVar 3))) (gVar 4)) (gSl oSl (gVar 1) (gP (gVar 3)) gNoP))) gPass)
  (gSeq (gIf (gTest (g2 oEq (gVar 2) (gC (.int 2)))) (gRetD (g2 oAdd (gSl oSl (gVar 1) gNoP (gP (gVar 3))) (gSl oSl (gVar 1) (gP (g2 oAdd (gVar 3) (gC (.int 1)))) gNoP))) gPass)
  (gSeq (gIf (gTest (g2 oEq (gVar 2) (gC (.int 3)))) (gRetD (g2 oAdd (g2 oAdd (gSl oSl (gVar 1) gNoP (gP (gVar 3))) (gVar 4)) (gSl oSl (gVar 1) (gP (g2 oAdd (gVar 3) (gC (.int 1)))) gNoP))) gPass)
  (gRetD (g2 oAdd (g2 oAdd (gSl oSl (gVar 1) gNoP (gP (gVar 3))) (g1 oRevS (gSl oSl (gVar 1) (gP (gVar 3)) (gP (g2 oAdd (gVar 3) (gC (.int 2))))))) (gSl oSl (gVar 1) (gP (g2 oAdd (gVar 3) (gC (.int 2)))) gNoP)))))))))
def m__law_spoilt : Mf := gBody [true, false] 5 b__law_spoilt
def b__law_call_of : G Fl := (gSeq (gAsg 1 (gC (.int 0)))
  (gSeq (whileR (gAnd (gTest (g2 oLt (gVar 1) (gCal oLen (gConsA (gVar 0) gNilA)))) (gTest (g2 oIn (g2 oIx (gVar 0) (gVar 1)) (gC (.str (PySem.Str.ofString "abcdefghijklmnopqrstuvwxyz")))))) (gAsg 1 (g2 oAdd (gVar 1) (gC (.int 1)))) 3000)
  (gSeq (gIf (gOr (gNot (gTest (gChain oLt oLt (gC (.int 0)) (gVar 1) (gC (.int 7))))) (gTest (g2 oNe (gSl oSl (gVar 0) (gP (gVar 1)) (gP (g2 oAdd (gVar 1) (gC (.int 1))))) (gC (.str (PySem.Str.ofString "(")))))) (gRetD (gC .non)) gPass)
  (gSeq (gIf (gTest (gInS false (gSl oSl (gVar 0) gNoP (gP (gVar 1))) (gOwnS (gLst (gConsA (gC (.str (PySem.Str.ofString "else"))) (gConsA (gC (.str (PySem.Str.ofString "fun"))) (gConsA (gC (.str (PySem.Str.ofString "if"))) (gConsA (gC (.str (PySem.Str.ofString "in"))) (gConsA (gC (.str (PySem.Str.ofString "let"))) (gConsA (gC (.str (PySem.Str.ofString "then"))) gNilA)))))))))) (gRetD (gC .non)) gPass)
  (gSeq (gIf (gTest (g2 oEq (gSl oSl (gVar 0) (gP (gVar 1)) gNoP) (gC (.str (PySem.Str.ofString "()"))))) (gRetD (gTup (gConsA (gSl oSl (gVar 0) gNoP (gP (gVar 1))) (gConsA (gTup gNilA) gNilA)))) gPass)
  (gSeq (gAsg 2 (gToD (gCall m__law_row_at (gcCons (gcD (gVar 0)) (gcCons (gcD (g2 oAdd (gVar 1) (gC (.int 1)))) (gcCons (gcD (gC (.int 60))) gcNil))))))
  (gSeq (gIf (gOr (gTest (g2 oIsN (gVar 2) (gC .non))) (gOr (gTest (g2 oLt (g2 oIx (gVar 2) (gC (.int 1))) (gCal oLen (gConsA (gVar 0) gNilA)))) (gTest (gCmpS oNe (gOwnS (gLc (gItems (gDat (g2 oIx (gVar 2) (gC (.int 0))))) (putD 3) (gTest (g2 oGt (gToD (gCall m__law_count (gcCons (gcD (gVar 3)) gcNil))) (gC (.int 60)))) (gVar 3) [3])) (gOwnS (gLst gNilA)))))) (gRetD (gC .non)) gPass)
  (gRetD (gTup (gConsA (gSl oSl (gVar 0) gNoP (gP (gVar 1))) (gConsA (g2 oIx (gVar 2) (gC (.int 0))) gNilA)))))))))))
def m__law_call_of : Mf := gBody [false] 4 b__law_call_of
def b__law_refused (cs : Cs) : G Fl := (gSeq (gAsg 1 (gC .non))
  (gSeq (gTry (subX allX yes_NoText) 2 (gAsg 1 (gToD (gCall (m_read_call cs) (gcCons (gcD (gVar 0)) gcNil)))) (gSeq (gAsg 3 (gAndV (gIsX allX yes_RuleError 2) (gAndV (gIsX allX yes_ValueError 2) (g2 oEq (gFldX allX "row" 2) (gC (.int 0))))))
  (gAsg 1 (gIfE (gAnd (gTruth (gVar 3)) (gNot (gTruth (gIsX3 allX yes_Clash yes_NoCall yes_NoProgram 2)))) (gC (.str (PySem.Str.ofString "refused"))) (gC .non)))))
  (gRetD (gAndV (gIsi "str" (gVar 1)) (g2 oEq (gVar 1) (gC (.str (PySem.Str.ofString "refused"))))))))
def m__law_refused (cs : Cs) : Mf := gBody [false] 4 (b__law_refused cs)
def b__law_read_right (cs : Cs) : G Fl := (gSeq (gAsg 1 (gToD (gCall m__law_call_of (gcCons (gcD (gVar 0)) gcNil))))
  (gSeq (gIf (gTest (g2 oIsN (gVar 1) (gC .non))) (gRetD (gToD (gCall (m__law_refused cs) (gcCons (gcD (gVar 0)) gcNil)))) gPass)
  (gSeq (gAsg 2 (gToD (gCall (m_read_call cs) (gcCons (gcD (gVar 0)) gcNil))))
  (gRetD (gAndV (gIsi "tuple" (gVar 2)) (gAndV (g2 oEq (gVar 2) (gVar 1)) (g2 oEq (gCal oRepr (gConsA (gVar 2) gNilA)) (gCal oRepr (gConsA (gVar 1) gNilA)))))))))
def m__law_read_right (cs : Cs) : Mf := gBody [false] 3 (b__law_read_right cs)
def b__law_right (cs : Cs) : G Fl := (gSeq (gAsgO 2 (gCall m__law_begun (gcCons (gcD (gVar 0)) (gcCons (gcD (gVar 1)) gcNil))))
  (gSeq (gAsg 3 (gToD (gCall m__law_next (gcCons (gcS 2) (gcCons (gcD (gC (.int 14))) gcNil)))))
  (gSeq (gAsg 4 (gToD (gCall m__law_next (gcCons (gcS 2) (gcCons (gcD (gC (.int 5))) gcNil)))))
  (gSeq (gAsg 5 (gC (.str (PySem.Str.ofString "abcdefghijklmnopqrstuvwxyz"))))
  (gSeq (gAsg 6 (g2 oAdd (g2 oIx (gVar 5) (gToD (gCall m__law_next (gcCons (gcS 2) (gcCons (gcD (gC (.int 26))) gcNil))))) (gJoin (gC (.str (PySem.Str.ofString ""))) (gOwnS (gLc (gRange1 (gToD (gCall m__law_next (gcCons (gcS 2) (gcCons (gcD (gC (.int 6))) gcNil))))) (putD 11) gYes (gToD (gCall m__law_pick (gcCons (gcS 2) (gcCons (gcD (gVar 5)) gcNil)))) [11])))))
  (gSeq (gAsg 7 (gFrz (gLst (gConsA (gC (.str (PySem.Str.ofString "right"))) (gConsA (gC (.str (PySem.Str.ofString "wrong"))) (gConsA (gC (.str (PySem.Str.ofString "open"))) (gConsA (gC (.str (PySem.Str.ofString "unfair"))) (gConsA (gC (.str (PySem.Str.ofString "fault"))) (gConsA (gC (.str (PySem.Str.ofString "over"))) (gConsA (gC (.str (PySem.Str.ofString "ask"))) (gConsA (gC (.str (PySem.Str.ofString "say"))) (gConsA (gC (.str (PySem.Str.ofString "drop"))) (gConsA (gC (.str (PySem.Str.ofString "goal"))) gNilA)))))))))))))
  (gSeq (gAsg 6 (gSl oSl (gIxS (gOwnS (gCat (gDat (gVar 7)) (gOwnS (gLst (gConsA (g2 oAdd (gVar 6) (gC (.str (PySem.Str.ofString "q")))) (gConsA (g2 oAdd (gVar 6) (gC (.str (PySem.Str.ofString "q")))) (gConsA (gC (.str (PySem.Str.ofString "fun"))) (gConsA (gC (.str (PySem.Str.ofString "ink"))) gNilA)))))))) (gVar 3)) gNoP (gP (gC (.int 6)))))
  (gSeq (gAsg 8 (gTup (gConsA (gVar 6) (gConsA (gTupS (gOwnS (gLc (gRange1 (gVar 4)) (putD 11) gYes (gToD (gCall m__law_of_points (gcCons (gcS 2) (gcCons (gcD (g2 oAdd (gC (.int 1)) (gToD (gCall m__law_next (gcCons (gcS 2) (gcCons (gcD (gC (.int 9))) gcNil)))))) gcNil)))) [11]))) gNilA))))
  (gSeq (gAsg 9 (g2 oAdd (g2 oAdd (g2 oAdd (gVar 6) (gC (.str (PySem.Str.ofString "(")))) (gJoin (gC (.str (PySem.Str.ofString ", "))) (gOwnS (gLc (gItems (gDat (g2 oIx (gVar 8) (gC (.int 1))))) (putD 12) gYes (gToD (gCall m__law_text (gcCons (gcD (gVar 12)) gcNil))) [12])))) (gC (.str (PySem.Str.ofString ")")))))
  (gSeq (gIf (gOr (gAnd (gTest (g2 oNe (gVar 6) (gC (.str (PySem.Str.ofString "fun"))))) (gTest (g2 oNe (gToD (gCall m_call_text (gcCons (gcD (gVar 8)) gcNil))) (gVar 9)))) (gNot (gTruth (gToD (gCall (m__law_read_right cs) (gcCons (gcD (gVar 9)) gcNil)))))) (gRetD (gC (.bl false))) gPass)
  (gSeq (gFor (gRange1 (gC (.int 3))) (putD 10) (gIf (gNot (gTruth (gToD (gCall (m__law_read_right cs) (gcCons (gcD (gToD (gCall m__law_spoilt (gcCons (gcS 2) (gcCons (gcD (gVar 9)) gcNil))))) gcNil))))) (gRetD (gC (.bl false))) gPass))
  (gRetD (gToD (gCall (m__law_refused cs) (gcCons (gcD (gIxS (gOwnS (gLst (gConsA (gC .non) (gConsA (gC (.int 7)) (gConsA (gVar 8) (gConsA (gFrz (gLst (gConsA (gVar 9) gNilA))) (gConsA (gC (.str (PySem.Str.ofString ""))) (gConsA (gVar 6) (gConsA (g2 oAdd (gVar 9) (gC (.str (PySem.Str.ofString "\n")))) (gConsA (g2 oAdd (gVar 9) (gC (.str (PySem.Str.ofString " ")))) gNilA)))))))))) (gToD (gCall m__law_next (gcCons (gcS 2) (gcCons (gcD (gC (.int 8))) gcNil)))))) gcNil)))))))))))))))
def m__law_right (cs : Cs) : Mf := gBody [false, false] 13 (b__law_right cs)
def b_law (cs : Cs) : G Fl := (gSeq (gFor (gEnum (gOwnS (gSlL (gOwnS (gCat (gDat (gVar 0)) (gOwnS (gLst (gConsA (gC (.int 3)) gNilA))))) gNoP (gP (gCal oMax2 (gConsA (gC (.int 1)) (gConsA (gCal oMin2 (gConsA (gC (.int 16)) (gConsA (gCal oLen (gConsA (gVar 0) gNilA)) gNilA))) gNilA))))))) (hTup 2 (hCons (putD 1) (hCons (putD 2) hNil))) (gIf (gNot (gTruth (gToD (gCall (m__law_right cs) (gcCons (gcD (gVar 2)) (gcCons (gcD (gVar 1)) gcNil)))))) (gRetD (gC (.bl false))) gPass))
  (gRetD (gC (.bl true))))
def m_law (cs : Cs) : Mf := gBody [false] 3 (b_law cs)
structure Facts (K : Frag) (mg : Str → Option Value) (cs : Cs) where
  k_ThingSigns : ClsK K mg "ThingSigns" cs.ThingSigns
  q_ThingSigns_signs : NoAttr K cs.ThingSigns "signs"
  q_ThingSigns_here : NoAttr K cs.ThingSigns "here"
  n_ValueError : mg "ValueError" = none
  n_all : mg "all" = none
  n_bool : mg "bool" = none
  n_enumerate : mg "enumerate" = none
  n_int : mg "int" = none
  n_isinstance : mg "isinstance" = none
  n_len : mg "len" = none
  n_max : mg "max" = none
  n_min : mg "min" = none
  n_range : mg "range" = none
  n_repr : mg "repr" = none
  n_str : mg "str" = none
  n_sum : mg "sum" = none
  n_tuple : mg "tuple" = none
  x_all : XAll K allX
  xt_Clash : XT K mg allX "Clash" yes_Clash
  xt_NoCall : XT K mg allX "NoCall" yes_NoCall
  xt_NoProgram : XT K mg allX "NoProgram" yes_NoProgram
  xt_NoText : XT K mg allX "NoText" yes_NoText
  xt_RuleError : XT K mg allX "RuleError" yes_RuleError
  xt_ValueError : XT K mg allX "ValueError" yes_ValueError
  xf_row : XF K allX "row"
  xr_RuleError : ExcR K mg "RuleError"
  u_LETTERS : Value
  v_LETTERS : V
  g_LETTERS : mg "LETTERS" = some u_LETTERS
  r_LETTERS : RelV v_LETTERS u_LETTERS
  a_LETTERS : ∀ H, At K H v_LETTERS c_LETTERS
  u_GREAT_LETTERS : Value
  v_GREAT_LETTERS : V
  g_GREAT_LETTERS : mg "GREAT_LETTERS" = some u_GREAT_LETTERS
  r_GREAT_LETTERS : RelV v_GREAT_LETTERS u_GREAT_LETTERS
  a_GREAT_LETTERS : ∀ H, At K H v_GREAT_LETTERS c_GREAT_LETTERS
  u_MOST_LETTERS : Value
  v_MOST_LETTERS : V
  g_MOST_LETTERS : mg "MOST_LETTERS" = some u_MOST_LETTERS
  r_MOST_LETTERS : RelV v_MOST_LETTERS u_MOST_LETTERS
  a_MOST_LETTERS : ∀ H, At K H v_MOST_LETTERS c_MOST_LETTERS
  u_MOST_NUMBER : Value
  v_MOST_NUMBER : V
  g_MOST_NUMBER : mg "MOST_NUMBER" = some u_MOST_NUMBER
  r_MOST_NUMBER : RelV v_MOST_NUMBER u_MOST_NUMBER
  a_MOST_NUMBER : ∀ H, At K H v_MOST_NUMBER c_MOST_NUMBER
  u_TAKEN_WORDS : Value
  v_TAKEN_WORDS : V
  g_TAKEN_WORDS : mg "TAKEN_WORDS" = some u_TAKEN_WORDS
  r_TAKEN_WORDS : RelV v_TAKEN_WORDS u_TAKEN_WORDS
  a_TAKEN_WORDS : ∀ H, At K H v_TAKEN_WORDS c_TAKEN_WORDS
  u_FIGURES : Value
  v_FIGURES : V
  g_FIGURES : mg "FIGURES" = some u_FIGURES
  r_FIGURES : RelV v_FIGURES u_FIGURES
  a_FIGURES : ∀ H, At K H v_FIGURES c_FIGURES
  u_MOST_FIGURES : Value
  v_MOST_FIGURES : V
  g_MOST_FIGURES : mg "MOST_FIGURES" = some u_MOST_FIGURES
  r_MOST_FIGURES : RelV v_MOST_FIGURES u_MOST_FIGURES
  a_MOST_FIGURES : ∀ H, At K H v_MOST_FIGURES c_MOST_FIGURES
  u_MOST_POINTS : Value
  v_MOST_POINTS : V
  g_MOST_POINTS : mg "MOST_POINTS" = some u_MOST_POINTS
  r_MOST_POINTS : RelV v_MOST_POINTS u_MOST_POINTS
  a_MOST_POINTS : ∀ H, At K H v_MOST_POINTS c_MOST_POINTS
  u_MOST_PARTS : Value
  v_MOST_PARTS : V
  g_MOST_PARTS : mg "MOST_PARTS" = some u_MOST_PARTS
  r_MOST_PARTS : RelV v_MOST_PARTS u_MOST_PARTS
  a_MOST_PARTS : ∀ H, At K H v_MOST_PARTS c_MOST_PARTS
section
variable {P : Program} {w : World} {K : Frag} {mg : Str → Option Value} {base : Heap}
abbrev s_NoText___init__ : Stmt := inClass (topS 2) 0
theorem sc_NoText___init__ : FnScope ["self", "row"] ["self", "row"] (defScope s_NoText___init__) := ⟨rfl, rfl, rfl, by decide +kernel, rfl, by decide +kernel, by decide +kernel⟩
abbrev s_is_number : Stmt := topS 12
theorem sc_is_number : FnScope ["thing", "least", "most"] ["thing", "least", "most"] (defScope s_is_number) := ⟨rfl, rfl, rfl, by decide +kernel, rfl, by decide +kernel, by decide +kernel⟩
abbrev s_is_worth : Stmt := topS 13
theorem sc_is_worth : FnScope ["thing"] ["thing"] (defScope s_is_worth) := ⟨rfl, rfl, rfl, by decide +kernel, rfl, by decide +kernel, by decide +kernel⟩
abbrev s_all_small : Stmt := topS 14
theorem sc_all_small : FnScope ["text", "sign"] ["text"] (defScope s_all_small) := ⟨rfl, rfl, rfl, by decide +kernel, rfl, by decide +kernel, by decide +kernel⟩
abbrev s_is_name : Stmt := topS 15
theorem sc_is_name : FnScope ["thing"] ["thing"] (defScope s_is_name) := ⟨rfl, rfl, rfl, by decide +kernel, rfl, by decide +kernel, by decide +kernel⟩
abbrev s_is_mark : Stmt := topS 16
theorem sc_is_mark : FnScope ["thing"] ["thing"] (defScope s_is_mark) := ⟨rfl, rfl, rfl, by decide +kernel, rfl, by decide +kernel, by decide +kernel⟩
abbrev s_ThingSigns___init__ : Stmt := inClass (topS 20) 0
theorem sc_ThingSigns___init__ : FnScope ["self", "text"] ["self", "text"] (defScope s_ThingSigns___init__) := ⟨rfl, rfl, rfl, by decide +kernel, rfl, by decide +kernel, by decide +kernel⟩
abbrev s_ThingSigns_coming : Stmt := inClass (topS 20) 1
theorem sc_ThingSigns_coming : FnScope ["self"] ["self"] (defScope s_ThingSigns_coming) := ⟨rfl, rfl, rfl, by decide +kernel, rfl, by decide +kernel, by decide +kernel⟩
abbrev s_ThingSigns_is_over : Stmt := inClass (topS 20) 2
theorem sc_ThingSigns_is_over : FnScope ["self"] ["self"] (defScope s_ThingSigns_is_over) := ⟨rfl, rfl, rfl, by decide +kernel, rfl, by decide +kernel, by decide +kernel⟩
abbrev s_ThingSigns_take_all : Stmt := inClass (topS 20) 3
theorem sc_ThingSigns_take_all : FnScope ["self", "wanted", "begin"] ["self", "wanted"] (defScope s_ThingSigns_take_all) := ⟨rfl, rfl, rfl, by decide +kernel, rfl, by decide +kernel, by decide +kernel⟩
abbrev s_ThingSigns_has_text : Stmt := inClass (topS 20) 4
theorem sc_ThingSigns_has_text : FnScope ["self", "wanted"] ["self", "wanted"] (defScope s_ThingSigns_has_text) := ⟨rfl, rfl, rfl, by decide +kernel, rfl, by decide +kernel, by decide +kernel⟩
abbrev s_ThingSigns_take_text : Stmt := inClass (topS 20) 5
theorem sc_ThingSigns_take_text : FnScope ["self", "wanted"] ["self", "wanted"] (defScope s_ThingSigns_take_text) := ⟨rfl, rfl, rfl, by decide +kernel, rfl, by decide +kernel, by decide +kernel⟩
abbrev s_ThingSigns_take_number : Stmt := inClass (topS 20) 6
theorem sc_ThingSigns_take_number : FnScope ["self", "word"] ["self"] (defScope s_ThingSigns_take_number) := ⟨rfl, rfl, rfl, by decide +kernel, rfl, by decide +kernel, by decide +kernel⟩
abbrev s_ThingSigns_take_mark : Stmt := inClass (topS 20) 7
theorem sc_ThingSigns_take_mark : FnScope ["self", "first"] ["self"] (defScope s_ThingSigns_take_mark) := ⟨rfl, rfl, rfl, by decide +kernel, rfl, by decide +kernel, by decide +kernel⟩
abbrev s_ThingSigns_take_row : Stmt := inClass (topS 20) 9
theorem sc_ThingSigns_take_row : FnScope ["self", "deep", "found"] ["self", "deep"] (defScope s_ThingSigns_take_row) := ⟨rfl, rfl, rfl, by decide +kernel, rfl, by decide +kernel, by decide +kernel⟩
abbrev s_is_row : Stmt := topS 24
theorem sc_is_row : FnScope ["thing"] ["thing"] (defScope s_is_row) := ⟨rfl, rfl, rfl, by decide +kernel, rfl, by decide +kernel, by decide +kernel⟩
abbrev s_is_thing : Stmt := topS 25
theorem sc_is_thing : FnScope ["thing", "rest", "many", "one"] ["thing"] (defScope s_is_thing) := ⟨rfl, rfl, rfl, by decide +kernel, rfl, by decide +kernel, by decide +kernel⟩
abbrev s_is_call : Stmt := topS 26
theorem sc_is_call : FnScope ["thing", "one"] ["thing"] (defScope s_is_call) := ⟨rfl, rfl, rfl, by decide +kernel, rfl, by decide +kernel, by decide +kernel⟩
abbrev s_row_text : Stmt := topS 28
theorem sc_row_text : FnScope ["things", "one"] ["things"] (defScope s_row_text) := ⟨rfl, rfl, rfl, by decide +kernel, rfl, by decide +kernel, by decide +kernel⟩
abbrev s_thing_text : Stmt := topS 29
theorem sc_thing_text : FnScope ["thing"] ["thing"] (defScope s_thing_text) := ⟨rfl, rfl, rfl, by decide +kernel, rfl, by decide +kernel, by decide +kernel⟩
abbrev s_call_text : Stmt := topS 30
theorem sc_call_text : FnScope ["call"] ["call"] (defScope s_call_text) := ⟨rfl, rfl, rfl, by decide +kernel, rfl, by decide +kernel, by decide +kernel⟩
abbrev s_ThingSigns_take_one : Stmt := inClass (topS 31) 0
theorem sc_ThingSigns_take_one : FnScope ["self", "deep", "mark"] ["self", "deep"] (defScope s_ThingSigns_take_one) := ⟨rfl, rfl, rfl, by decide +kernel, rfl, by decide +kernel, by decide +kernel⟩
abbrev s_ThingSigns_take_call : Stmt := inClass (topS 31) 1
theorem sc_ThingSigns_take_call : FnScope ["self", "name"] ["self"] (defScope s_ThingSigns_take_call) := ⟨rfl, rfl, rfl, by decide +kernel, rfl, by decide +kernel, by decide +kernel⟩
abbrev s_read_call : Stmt := topS 32
theorem sc_read_call : FnScope ["text", "reader", "found"] ["text"] (defScope s_read_call) := ⟨rfl, rfl, rfl, by decide +kernel, rfl, by decide +kernel, by decide +kernel⟩
abbrev s__law_begun : Stmt := topS 34
theorem sc__law_begun : FnScope ["_law_cell", "_law_k", "_law_seed"] ["_law_cell", "_law_k"] (defScope s__law_begun) := ⟨rfl, rfl, rfl, by decide +kernel, rfl, by decide +kernel, by decide +kernel⟩
abbrev s__law_next : Stmt := topS 35
theorem sc__law_next : FnScope ["_law_draw", "_law_size", "_law_mixed", "_law_found"] ["_law_draw", "_law_size"] (defScope s__law_next) := ⟨rfl, rfl, rfl, by decide +kernel, rfl, by decide +kernel, by decide +kernel⟩
abbrev s__law_pick : Stmt := topS 36
theorem sc__law_pick : FnScope ["_law_draw", "_law_some"] ["_law_draw", "_law_some"] (defScope s__law_pick) := ⟨rfl, rfl, rfl, by decide +kernel, rfl, by decide +kernel, by decide +kernel⟩
abbrev s__law_number : Stmt := topS 37
theorem sc__law_number : FnScope ["_law_draw", "_law_way", "_law_small"] ["_law_draw"] (defScope s__law_number) := ⟨rfl, rfl, rfl, by decide +kernel, rfl, by decide +kernel, by decide +kernel⟩
abbrev s__law_mark : Stmt := topS 38
theorem sc__law_mark : FnScope ["_law_draw", "_law_small", "_law_first", "_law_k"] ["_law_draw"] (defScope s__law_mark) := ⟨rfl, rfl, rfl, by decide +kernel, rfl, by decide +kernel, by decide +kernel⟩
abbrev s__law_of_points : Stmt := topS 39
theorem sc__law_of_points : FnScope ["_law_draw", "_law_many", "_law_parts", "_law_rest", "_law_found", "_law_k", "_law_turn", "_law_mark_here", "_law_more"] ["_law_draw", "_law_many"] (defScope s__law_of_points) := ⟨rfl, rfl, rfl, by decide +kernel, rfl, by decide +kernel, by decide +kernel⟩
abbrev s__law_mark_alone : Stmt := topS 40
theorem sc__law_mark_alone : FnScope ["_law_draw"] ["_law_draw"] (defScope s__law_mark_alone) := ⟨rfl, rfl, rfl, by decide +kernel, rfl, by decide +kernel, by decide +kernel⟩
abbrev s__law_text : Stmt := topS 41
theorem sc__law_text : FnScope ["_law_thing", "_law_one"] ["_law_thing"] (defScope s__law_text) := ⟨rfl, rfl, rfl, by decide +kernel, rfl, by decide +kernel, by decide +kernel⟩
abbrev s__law_thing_at : Stmt := topS 42
theorem sc__law_thing_at : FnScope ["_law_text_here", "_law_at", "_law_deep", "_law_end", "_law_row", "_law_word"] ["_law_text_here", "_law_at", "_law_deep"] (defScope s__law_thing_at) := ⟨rfl, rfl, rfl, by decide +kernel, rfl, by decide +kernel, by decide +kernel⟩
abbrev s__law_row_at : Stmt := topS 43
theorem sc__law_row_at : FnScope ["_law_text_here", "_law_at", "_law_deep", "_law_found", "_law_one"] ["_law_text_here", "_law_at", "_law_deep"] (defScope s__law_row_at) := ⟨rfl, rfl, rfl, by decide +kernel, rfl, by decide +kernel, by decide +kernel⟩
abbrev s__law_count : Stmt := topS 44
theorem sc__law_count : FnScope ["_law_thing", "_law_one"] ["_law_thing"] (defScope s__law_count) := ⟨rfl, rfl, rfl, by decide +kernel, rfl, by decide +kernel, by decide +kernel⟩
abbrev s__law_spoilt : Stmt := topS 46
theorem sc__law_spoilt : FnScope ["_law_draw", "_law_text_here", "_law_way", "_law_at", "_law_sign"] ["_law_draw", "_law_text_here"] (defScope s__law_spoilt) := ⟨rfl, rfl, rfl, by decide +kernel, rfl, by decide +kernel, by decide +kernel⟩
abbrev s__law_call_of : Stmt := topS 47
theorem sc__law_call_of : FnScope ["_law_text_here", "_law_end", "_law_row", "_law_one"] ["_law_text_here"] (defScope s__law_call_of) := ⟨rfl, rfl, rfl, by decide +kernel, rfl, by decide +kernel, by decide +kernel⟩
abbrev s__law_refused : Stmt := topS 48
theorem sc__law_refused : FnScope ["_law_text_here", "_law_said", "e", "_law_good"] ["_law_text_here"] (defScope s__law_refused) := ⟨rfl, rfl, rfl, by decide +kernel, rfl, by decide +kernel, by decide +kernel⟩
abbrev s__law_read_right : Stmt := topS 49
theorem sc__law_read_right : FnScope ["_law_text_here", "_law_due", "_law_found"] ["_law_text_here"] (defScope s__law_read_right) := ⟨rfl, rfl, rfl, by decide +kernel, rfl, by decide +kernel, by decide +kernel⟩
abbrev s__law_right : Stmt := topS 50
theorem sc__law_right : FnScope ["_law_cell", "_law_k", "_law_draw", "_law_pick_here", "_law_places", "_law_small", "_law_name", "_law_words", "_law_call", "_law_text_here", "_law_turn", "_law_j", "_law_one"] ["_law_cell", "_law_k"] (defScope s__law_right) := ⟨rfl, rfl, rfl, by decide +kernel, rfl, by decide +kernel, by decide +kernel⟩
abbrev s_law : Stmt := topS 51
theorem sc_law : FnScope ["_law_script", "_law_k", "_law_cell"] ["_law_script"] (defScope s_law) := ⟨rfl, rfl, rfl, by decide +kernel, rfl, by decide +kernel, by decide +kernel⟩
theorem ok_NoText___init__ {cs : Cs} {f : Addr} {fd : FuncData} (T : Facts K mg cs) (F : Fun K "__init__" "NoText.__init__" s_NoText___init__ f fd) (A : ExcAt K mg "NoText" "row" f) (B : Binds K fd ["self", "row"] []) : ExcN K mg P w base "NoText" "row" (PySem.Str.ofString "row ") 2 :=
  excN_mk (k := 1) F sc_NoText___init__ A B fun cdv A outer s H E hr => init_body2 T.xr_RuleError rfl rfl (.inl rfl) (.inl rfl) (d_add d_str (d_strI T.n_str (d_var 1)))
theorem ok_is_number {cs : Cs} {f : Addr} {fd : FuncData} (T : Facts K mg cs) (F : Fun K "is_number" "is_number" s_is_number f fd)  : FnOk P w K mg base (L2.CX P w) 2 f fd ["thing", "least", "most"] (SpM K mg m_is_number) :=
  def_ok (k := 1) F sc_is_number rfl fun cdv A outer s H E hr tk po => ⟨_, (b_one (st_ret (d_and (d_isi "int" boot_int (by decide) T.n_isinstance T.n_int (d_var 0)) (d_and (d_not (d_isi "bool" boot_bool (by decide) T.n_isinstance T.n_bool (d_var 0))) (d_one (d_chain ch_le ch_le (d_var 1) (d_var 0) (d_var 2)))))))⟩
theorem ok_is_worth {cs : Cs} {f : Addr} {fd : FuncData} (T : Facts K mg cs) (F : Fun K "is_worth" "is_worth" s_is_worth f fd) (c_is_number : Callee K mg P w base "is_number" 2 ["thing", "least", "most"] m_is_number) : FnOk P w K mg base (L2.CX P w) 3 f fd ["thing"] (SpM K mg m_is_worth) :=
  def_ok (k := 2) F sc_is_worth rfl fun cdv A outer s H E hr tk po => ⟨_, (b_one (st_ret (d_o (o_call c_is_number hr (by first | exact Nat.le_refl _ | omega) tk (c_cons (c_d (d_var 0)) (c_cons (c_d d_int) (c_cons (c_d (d_glob T.g_MOST_NUMBER T.r_MOST_NUMBER T.a_MOST_NUMBER)) c_nil)))))))⟩
theorem ok_all_small {cs : Cs} {f : Addr} {fd : FuncData} (T : Facts K mg cs) (F : Fun K "all_small" "all_small" s_all_small f fd)  : FnOk P w K mg base (L2.CX P w) 2 f fd ["text"] (SpM K mg m_all_small) :=
  def_ok (k := 1) F sc_all_small rfl fun cdv A outer s H E hr tk po => ⟨_, (b_one (st_ret (d_all rfl T.n_all (s_o (o_lc [("sign", 1)] [1] rfl sc_all_small.nd (i_seq (s_d (d_var 0))) (blkOk_by (own := [("sign", 1)]) (N := ["text", "sign"]) (sc := defScope s_all_small) (by decide +kernel)) rfl (by decide) (fun _ _ _ _ _ => (l_name 1 sc_all_small.nd)) (fun _ _ _ _ _ => ts_nil) (fun _ _ _ _ _ => (k_in hr (d_var 1) (d_glob T.g_LETTERS T.r_LETTERS T.a_LETTERS)).val))))))⟩
theorem ok_is_name {cs : Cs} {f : Addr} {fd : FuncData} (T : Facts K mg cs) (F : Fun K "is_name" "is_name" s_is_name f fd) (c_all_small : Callee K mg P w base "all_small" 2 ["text"] m_all_small) : FnOk P w K mg base (L2.CX P w) 3 f fd ["thing"] (SpM K mg m_is_name) :=
  def_ok (k := 2) F sc_is_name rfl fun cdv A outer s H E hr tk po => ⟨_, (b_cons (st_if (t_w (w_or (t_not (t_tru (d_isi "str" boot_str (by decide) T.n_isinstance T.n_str (d_var 0)))) (w_or (t_not (t_chain ch_le ch_le d_int (d_len T.n_len (d_var 0)) (d_glob T.g_MOST_LETTERS T.r_MOST_LETTERS T.a_MOST_LETTERS))) (w_or1 (k_in hr (d_var 0) (d_glob T.g_TAKEN_WORDS T.r_TAKEN_WORDS T.a_TAKEN_WORDS)).test)))) (b_one (st_ret d_bl)) b_nil)
  (b_one (st_ret (d_o (o_call c_all_small hr (by first | exact Nat.le_refl _ | omega) tk (c_cons (c_d (d_var 0)) c_nil))))))⟩
theorem ok_is_mark {cs : Cs} {f : Addr} {fd : FuncData} (T : Facts K mg cs) (F : Fun K "is_mark" "is_mark" s_is_mark f fd) (c_all_small : Callee K mg P w base "all_small" 2 ["text"] m_all_small) : FnOk P w K mg base (L2.CX P w) 3 f fd ["thing"] (SpM K mg m_is_mark) :=
  def_ok (k := 2) F sc_is_mark rfl fun cdv A outer s H E hr tk po => ⟨_, (b_cons (st_if (t_w (w_or (t_not (t_tru (d_isi "str" boot_str (by decide) T.n_isinstance T.n_str (d_var 0)))) (w_or1 (t_not (t_chain ch_le ch_le d_int (d_len T.n_len (d_var 0)) (d_glob T.g_MOST_LETTERS T.r_MOST_LETTERS T.a_MOST_LETTERS)))))) (b_one (st_ret d_bl)) b_nil)
  (b_one (st_ret (d_and (k_in hr (d_ix (d_var 0) d_int) (d_glob T.g_GREAT_LETTERS T.r_GREAT_LETTERS T.a_GREAT_LETTERS)).val (d_one (d_o (o_call c_all_small hr (by first | exact Nat.le_refl _ | omega) tk (c_cons (c_d (d_sl (d_var 0) (p_some d_int) p_none)) c_nil))))))))⟩
theorem ok_ThingSigns___init__ {cs : Cs} {f : Addr} {fd : FuncData} (T : Facts K mg cs) (F : Fun K "__init__" "Signs.__init__" s_ThingSigns___init__ f fd) (c_NoText___init__ : ExcN K mg P w base "NoText" "row" (PySem.Str.ofString "row ") 2) : FnOk P w K mg base (L2.CX P w) 4 f fd ["self", "text"] (SpM K mg (m_ThingSigns___init__ cs)) :=
  def_ok (k := 3) F sc_ThingSigns___init__ rfl fun cdv A outer s H E hr tk po => ⟨_, (b_cons (st_if (t_not (t_tru (d_isi "str" boot_str (by decide) T.n_isinstance T.n_str (d_var 1)))) (b_one (st_raiseI c_NoText___init__ hr (by first | exact Nat.le_refl _ | omega) rfl tk d_int)) b_nil)
  (b_cons (st_setF 0 T.k_ThingSigns.cl T.q_ThingSigns_signs (o_d (d_var 1)))
  (b_one (st_setF 0 T.k_ThingSigns.cl T.q_ThingSigns_here (o_d d_int)))))⟩
theorem ok_ThingSigns_coming {cs : Cs} {f : Addr} {fd : FuncData} (T : Facts K mg cs) (F : Fun K "coming" "Signs.coming" s_ThingSigns_coming f fd)  : FnOk P w K mg base (L2.CX P w) 2 f fd ["self"] (SpM K mg (m_ThingSigns_coming cs)) :=
  def_ok (k := 1) F sc_ThingSigns_coming rfl fun cdv A outer s H E hr tk po => ⟨_, (b_one (st_ret (d_sl (d_fld 0 T.k_ThingSigns.cl T.q_ThingSigns_signs) (p_some (d_fld 0 T.k_ThingSigns.cl T.q_ThingSigns_here)) (p_some (d_add (d_fld 0 T.k_ThingSigns.cl T.q_ThingSigns_here) d_int)))))⟩
theorem ok_ThingSigns_is_over {cs : Cs} {f : Addr} {fd : FuncData} (T : Facts K mg cs) (F : Fun K "is_over" "Signs.is_over" s_ThingSigns_is_over f fd)  : FnOk P w K mg base (L2.CX P w) 2 f fd ["self"] (SpM K mg (m_ThingSigns_is_over cs)) :=
  def_ok (k := 1) F sc_ThingSigns_is_over rfl fun cdv A outer s H E hr tk po => ⟨_, (b_one (st_ret (k_eq hr (d_fld 0 T.k_ThingSigns.cl T.q_ThingSigns_here) (d_len T.n_len (d_fld 0 T.k_ThingSigns.cl T.q_ThingSigns_signs))).val))⟩
theorem ok_ThingSigns_take_all {cs : Cs} {f : Addr} {fd : FuncData} (T : Facts K mg cs) (F : Fun K "take_all" "Signs.take_all" s_ThingSigns_take_all f fd) (c_ThingSigns_coming : CalleeM K mg P w base cs.ThingSigns "coming" 2 ["self"] (m_ThingSigns_coming cs)) : FnOk P w K mg base (L2.CX P w) 3 f fd ["self", "wanted"] (SpM K mg (m_ThingSigns_take_all cs)) :=
  def_ok (k := 2) F sc_ThingSigns_take_all rfl fun cdv A outer s H E hr tk po => ⟨_, (b_cons (st_asg 2 sc_ThingSigns_take_all.nd (d_fld 0 T.k_ThingSigns.cl T.q_ThingSigns_here))
  (b_cons (st_while 3000 po (t_w (w_and (k_ne hr (d_o (o_meth0 0 T.k_ThingSigns.cl c_ThingSigns_coming hr (by first | exact Nat.le_refl _ | omega) tk)) d_str).test (w_and1 (k_in hr (d_o (o_meth0 0 T.k_ThingSigns.cl c_ThingSigns_coming hr (by first | exact Nat.le_refl _ | omega) tk)) (d_var 1)).test))) (b_one (st_augFAdd 0 T.k_ThingSigns.cl T.q_ThingSigns_here d_int)))
  (b_one (st_ret (d_sl (d_fld 0 T.k_ThingSigns.cl T.q_ThingSigns_signs) (p_some (d_var 2)) (p_some (d_fld 0 T.k_ThingSigns.cl T.q_ThingSigns_here)))))))⟩
theorem ok_ThingSigns_has_text {cs : Cs} {f : Addr} {fd : FuncData} (T : Facts K mg cs) (F : Fun K "has_text" "Signs.has_text" s_ThingSigns_has_text f fd)  : FnOk P w K mg base (L2.CX P w) 2 f fd ["self", "wanted"] (SpM K mg (m_ThingSigns_has_text cs)) :=
  def_ok (k := 1) F sc_ThingSigns_has_text rfl fun cdv A outer s H E hr tk po => ⟨_, (b_cons (st_if (k_ne hr (d_sl (d_fld 0 T.k_ThingSigns.cl T.q_ThingSigns_signs) (p_some (d_fld 0 T.k_ThingSigns.cl T.q_ThingSigns_here)) (p_some (d_add (d_fld 0 T.k_ThingSigns.cl T.q_ThingSigns_here) (d_len T.n_len (d_var 1))))) (d_var 1)).test (b_one (st_ret d_bl)) b_nil)
  (b_cons (st_augFAdd 0 T.k_ThingSigns.cl T.q_ThingSigns_here (d_len T.n_len (d_var 1)))
  (b_one (st_ret d_bl))))⟩
theorem ok_ThingSigns_take_text {cs : Cs} {f : Addr} {fd : FuncData} (T : Facts K mg cs) (F : Fun K "take_text" "Signs.take_text" s_ThingSigns_take_text f fd) (c_NoText___init__ : ExcN K mg P w base "NoText" "row" (PySem.Str.ofString "row ") 2) (c_ThingSigns_has_text : CalleeM K mg P w base cs.ThingSigns "has_text" 2 ["self", "wanted"] (m_ThingSigns_has_text cs)) : FnOk P w K mg base (L2.CX P w) 4 f fd ["self", "wanted"] (SpM K mg (m_ThingSigns_take_text cs)) :=
  def_ok (k := 3) F sc_ThingSigns_take_text rfl fun cdv A outer s H E hr tk po => ⟨_, (b_one (st_if (t_not (t_tru (d_o (o_meth 0 T.k_ThingSigns.cl c_ThingSigns_has_text hr (by first | exact Nat.le_refl _ | omega) tk (c_cons (c_d (d_var 1)) c_nil))))) (b_one (st_raiseI c_NoText___init__ hr (by first | exact Nat.le_refl _ | omega) rfl tk d_int)) b_nil))⟩
theorem ok_ThingSigns_take_number {cs : Cs} {f : Addr} {fd : FuncData} (T : Facts K mg cs) (F : Fun K "take_number" "Signs.take_number" s_ThingSigns_take_number f fd) (c_NoText___init__ : ExcN K mg P w base "NoText" "row" (PySem.Str.ofString "row ") 2) (c_ThingSigns_take_all : CalleeM K mg P w base cs.ThingSigns "take_all" 3 ["self", "wanted"] (m_ThingSigns_take_all cs)) : FnOk P w K mg base (L2.CX P w) 4 f fd ["self"] (SpM K mg (m_ThingSigns_take_number cs)) :=
  def_ok (k := 3) F sc_ThingSigns_take_number rfl fun cdv A outer s H E hr tk po => ⟨_, (b_cons (st_asg 1 sc_ThingSigns_take_number.nd (d_o (o_meth 0 T.k_ThingSigns.cl c_ThingSigns_take_all hr (by first | exact Nat.le_refl _ | omega) tk (c_cons (c_d (d_glob T.g_FIGURES T.r_FIGURES T.a_FIGURES)) c_nil))))
  (b_cons (st_if (t_w (w_or (t_not (t_chain ch_le ch_le d_int (d_len T.n_len (d_var 1)) (d_glob T.g_MOST_FIGURES T.r_MOST_FIGURES T.a_MOST_FIGURES))) (w_or1 (t_w (w_and (k_eq hr (d_ix (d_var 1) d_int) d_str).test (w_and1 (k_ne hr (d_var 1) d_str).test)))))) (b_one (st_raiseI c_NoText___init__ hr (by first | exact Nat.le_refl _ | omega) rfl tk d_int)) b_nil)
  (b_one (st_ret (d_intS T.n_int (d_var 1))))))⟩
theorem ok_ThingSigns_take_mark {cs : Cs} {f : Addr} {fd : FuncData} (T : Facts K mg cs) (F : Fun K "take_mark" "Signs.take_mark" s_ThingSigns_take_mark f fd) (c_ThingSigns_coming : CalleeM K mg P w base cs.ThingSigns "coming" 2 ["self"] (m_ThingSigns_coming cs)) (c_ThingSigns_take_all : CalleeM K mg P w base cs.ThingSigns "take_all" 3 ["self", "wanted"] (m_ThingSigns_take_all cs)) : FnOk P w K mg base (L2.CX P w) 4 f fd ["self"] (SpM K mg (m_ThingSigns_take_mark cs)) :=
  def_ok (k := 3) F sc_ThingSigns_take_mark rfl fun cdv A outer s H E hr tk po => ⟨_, (b_cons (st_asg 1 sc_ThingSigns_take_mark.nd (d_o (o_meth0 0 T.k_ThingSigns.cl c_ThingSigns_coming hr (by first | exact Nat.le_refl _ | omega) tk)))
  (b_cons (st_augFAdd 0 T.k_ThingSigns.cl T.q_ThingSigns_here d_int)
  (b_one (st_ret (d_add (d_var 1) (d_o (o_meth 0 T.k_ThingSigns.cl c_ThingSigns_take_all hr (by first | exact Nat.le_refl _ | omega) tk (c_cons (c_d (d_glob T.g_LETTERS T.r_LETTERS T.a_LETTERS)) c_nil))))))))⟩
theorem okr_ThingSigns_take_row {cs : Cs} (T : Facts K mg cs) {f_ThingSigns_take_row : Addr} {fd_ThingSigns_take_row : FuncData} (F_ThingSigns_take_row : Fun K "take_row" "Signs.take_row" s_ThingSigns_take_row f_ThingSigns_take_row fd_ThingSigns_take_row) (g_ThingSigns_take_row : Meth K cs.ThingSigns "take_row" f_ThingSigns_take_row) (b_ThingSigns_take_row : Binds K fd_ThingSigns_take_row ["self", "deep"] []) {f_ThingSigns_take_one : Addr} {fd_ThingSigns_take_one : FuncData} (F_ThingSigns_take_one : Fun K "take_one" "ThingSigns.take_one" s_ThingSigns_take_one f_ThingSigns_take_one fd_ThingSigns_take_one) (g_ThingSigns_take_one : Meth K cs.ThingSigns "take_one" f_ThingSigns_take_one) (b_ThingSigns_take_one : Binds K fd_ThingSigns_take_one ["self", "deep"] []) (c_NoText___init__ : ExcN K mg P w base "NoText" "row" (PySem.Str.ofString "row ") 2) (c_ThingSigns_coming : CalleeM K mg P w base cs.ThingSigns "coming" 2 ["self"] (m_ThingSigns_coming cs)) (c_ThingSigns_is_over : CalleeM K mg P w base cs.ThingSigns "is_over" 2 ["self"] (m_ThingSigns_is_over cs)) (c_ThingSigns_has_text : CalleeM K mg P w base cs.ThingSigns "has_text" 2 ["self", "wanted"] (m_ThingSigns_has_text cs)) (c_ThingSigns_take_text : CalleeM K mg P w base cs.ThingSigns "take_text" 4 ["self", "wanted"] (m_ThingSigns_take_text cs)) (c_ThingSigns_take_number : CalleeM K mg P w base cs.ThingSigns "take_number" 4 ["self"] (m_ThingSigns_take_number cs)) (c_ThingSigns_take_mark : CalleeM K mg P w base cs.ThingSigns "take_mark" 4 ["self"] (m_ThingSigns_take_mark cs)) : ∀ n, FnOk P w K mg base (L2.CX P w) (4 + n) f_ThingSigns_take_row fd_ThingSigns_take_row ["self", "deep"] (SpM K mg (mm_ThingSigns_take_row cs n)) ∧ FnOk P w K mg base (L2.CX P w) (4 + n) f_ThingSigns_take_one fd_ThingSigns_take_one ["self", "deep"] (SpM K mg (mm_ThingSigns_take_one cs n)) := by
  intro n
  induction n with
  | zero => exact ⟨def_none, def_none⟩
  | succ n ih =>
    obtain ⟨ih_ThingSigns_take_row, ih_ThingSigns_take_one⟩ := ih
    have C_ThingSigns_take_row : CalleeM K mg P w base cs.ThingSigns "take_row" (4 + n) ["self", "deep"] (mm_ThingSigns_take_row cs n) := ⟨f_ThingSigns_take_row, fd_ThingSigns_take_row, ih_ThingSigns_take_row, g_ThingSigns_take_row, b_ThingSigns_take_row⟩
    have C_ThingSigns_take_one : CalleeM K mg P w base cs.ThingSigns "take_one" (4 + n) ["self", "deep"] (mm_ThingSigns_take_one cs n) := ⟨f_ThingSigns_take_one, fd_ThingSigns_take_one, ih_ThingSigns_take_one, g_ThingSigns_take_one, b_ThingSigns_take_one⟩
    exact ⟨def_ok (k := 4 + n) F_ThingSigns_take_row sc_ThingSigns_take_row rfl fun cdv A outer s H E hr tk po => ⟨_, (b_cons (st_asgO 2 sc_ThingSigns_take_row.nd (o_lst (a_cons (d_o (o_meth 0 T.k_ThingSigns.cl C_ThingSigns_take_one hr (Nat.le_refl _) tk (c_cons (c_d (d_var 1)) c_nil))) a_nil)))
  (b_cons (st_while 3000 po (t_tru (d_o (o_meth 0 T.k_ThingSigns.cl c_ThingSigns_has_text hr (by first | exact Nat.le_refl _ | omega) tk (c_cons (c_d d_str) c_nil)))) (b_one (st_app 2 (d_o (o_meth 0 T.k_ThingSigns.cl C_ThingSigns_take_one hr (Nat.le_refl _) tk (c_cons (c_d (d_var 1)) c_nil))))))
  (b_cons (st_drop (d_o (o_meth 0 T.k_ThingSigns.cl c_ThingSigns_take_text hr (by first | exact Nat.le_refl _ | omega) tk (c_cons (c_d d_str) c_nil))))
  (b_one (st_ret (d_tuple T.n_tuple (s_slot 2)))))))⟩,
      def_ok (k := 4 + n) F_ThingSigns_take_one sc_ThingSigns_take_one rfl fun cdv A outer s H E hr tk po => ⟨_, (b_cons (st_if (t_w (w_or (k_eq hr (d_var 1) d_int).test (w_or1 (t_tru (d_o (o_meth0 0 T.k_ThingSigns.cl c_ThingSigns_is_over hr (by first | exact Nat.le_refl _ | omega) tk)))))) (b_one (st_raiseI c_NoText___init__ hr (by first | exact Nat.le_refl _ | omega) rfl tk d_int)) b_nil)
  (b_cons (st_if (k_in (Room.mono (j := 0 + 1) hr (by omega)) (d_o (o_meth0 0 T.k_ThingSigns.cl c_ThingSigns_coming hr (by first | exact Nat.le_refl _ | omega) tk)) (d_glob T.g_FIGURES T.r_FIGURES T.a_FIGURES)).test (b_one (st_ret (d_o (o_meth0 0 T.k_ThingSigns.cl c_ThingSigns_take_number hr (by first | exact Nat.le_refl _ | omega) tk)))) b_nil)
  (b_cons (st_if (k_notIn (Room.mono (j := 0 + 1) hr (by omega)) (d_o (o_meth0 0 T.k_ThingSigns.cl c_ThingSigns_coming hr (by first | exact Nat.le_refl _ | omega) tk)) (d_glob T.g_GREAT_LETTERS T.r_GREAT_LETTERS T.a_GREAT_LETTERS)).test (b_one (st_raiseI c_NoText___init__ hr (by first | exact Nat.le_refl _ | omega) rfl tk d_int)) b_nil)
  (b_cons (st_asg 2 sc_ThingSigns_take_one.nd (d_o (o_meth0 0 T.k_ThingSigns.cl c_ThingSigns_take_mark hr (by first | exact Nat.le_refl _ | omega) tk)))
  (b_cons (st_if (t_not (t_tru (d_o (o_meth 0 T.k_ThingSigns.cl c_ThingSigns_has_text hr (by first | exact Nat.le_refl _ | omega) tk (c_cons (c_d d_str) c_nil))))) (b_one (st_ret (d_tup (a_cons (d_var 2) (a_cons (d_tup a_nil) a_nil))))) b_nil)
  (b_one (st_ret (d_tup (a_cons (d_var 2) (a_cons (d_o (o_meth 0 T.k_ThingSigns.cl C_ThingSigns_take_row hr (Nat.le_refl _) tk (c_cons (c_d (d_sub (d_var 1) d_int)) c_nil))) a_nil))))))))))⟩⟩
theorem ok_is_row {cs : Cs} {f : Addr} {fd : FuncData} (T : Facts K mg cs) (F : Fun K "is_row" "is_row" s_is_row f fd)  : FnOk P w K mg base (L2.CX P w) 2 f fd ["thing"] (SpM K mg m_is_row) :=
  def_ok (k := 1) F sc_is_row rfl fun cdv A outer s H E hr tk po => ⟨_, (b_one (st_ret (d_and (d_isi "tuple" boot_tuple (by decide) T.n_isinstance T.n_tuple (d_var 0)) (d_one (k_le (d_len T.n_len (d_var 0)) (d_glob T.g_MOST_PARTS T.r_MOST_PARTS T.a_MOST_PARTS)).val))))⟩
theorem ok_is_thing {cs : Cs} {f : Addr} {fd : FuncData} (T : Facts K mg cs) (F : Fun K "is_thing" "is_thing" s_is_thing f fd) (c_is_worth : Callee K mg P w base "is_worth" 3 ["thing"] m_is_worth) (c_is_mark : Callee K mg P w base "is_mark" 3 ["thing"] m_is_mark) (c_is_row : Callee K mg P w base "is_row" 2 ["thing"] m_is_row) : FnOk P w K mg base (L2.CX P w) 4 f fd ["thing"] (SpM K mg m_is_thing) :=
  def_ok (k := 3) F sc_is_thing rfl fun cdv A outer s H E hr tk po => ⟨_, (b_cons (st_asgO 1 sc_is_thing.nd (o_lst (a_cons (d_var 0) a_nil)))
  (b_cons (st_asg 2 sc_is_thing.nd d_int)
  (b_cons (st_while 70 po (k_neS hr (s_slot 1) (s_o (o_lst a_nil))).test (b_cons (st_asg 3 sc_is_thing.nd (d_pop 1))
  (b_cons (st_augAdd 2 sc_is_thing.nd d_int)
  (b_cons (st_if (k_gt (d_var 2) (d_glob T.g_MOST_POINTS T.r_MOST_POINTS T.a_MOST_POINTS)).test (b_one (st_ret d_bl)) b_nil)
  (b_cons (st_if (t_tru (d_o (o_call c_is_worth hr (by first | exact Nat.le_refl _ | omega) tk (c_cons (c_d (d_var 3)) c_nil)))) (b_one st_continue) b_nil)
  (b_cons (st_if (t_w (w_or (t_not (t_tru (d_isi "tuple" boot_tuple (by decide) T.n_isinstance T.n_tuple (d_var 3)))) (w_or (k_ne hr (d_len T.n_len (d_var 3)) d_int).test (w_or (t_not (t_tru (d_o (o_call c_is_mark hr (by first | exact Nat.le_refl _ | omega) tk (c_cons (c_d (d_ix (d_var 3) d_int)) c_nil))))) (w_or1 (t_not (t_tru (d_o (o_call c_is_row hr (by first | exact Nat.le_refl _ | omega) tk (c_cons (c_d (d_ix (d_var 3) d_int)) c_nil)))))))))) (b_one (st_ret d_bl)) b_nil)
  (b_one (st_ext 1 (s_d (d_ix (d_var 3) d_int))))))))))
  (b_one (st_ret d_bl)))))⟩
theorem ok_is_call {cs : Cs} {f : Addr} {fd : FuncData} (T : Facts K mg cs) (F : Fun K "is_call" "is_call" s_is_call f fd) (c_is_name : Callee K mg P w base "is_name" 3 ["thing"] m_is_name) (c_is_row : Callee K mg P w base "is_row" 2 ["thing"] m_is_row) (c_is_thing : Callee K mg P w base "is_thing" 4 ["thing"] m_is_thing) : FnOk P w K mg base (L2.CX P w) 5 f fd ["thing"] (SpM K mg m_is_call) :=
  def_ok (k := 4) F sc_is_call rfl fun cdv A outer s H E hr tk po => ⟨_, (b_cons (st_if (t_w (w_or (t_not (t_tru (d_isi "tuple" boot_tuple (by decide) T.n_isinstance T.n_tuple (d_var 0)))) (w_or (k_ne hr (d_len T.n_len (d_var 0)) d_int).test (w_or (t_not (t_tru (d_o (o_call c_is_name hr (by first | exact Nat.le_refl _ | omega) tk (c_cons (c_d (d_ix (d_var 0) d_int)) c_nil))))) (w_or1 (t_not (t_tru (d_o (o_call c_is_row hr (by first | exact Nat.le_refl _ | omega) tk (c_cons (c_d (d_ix (d_var 0) d_int)) c_nil)))))))))) (b_one (st_ret d_bl)) b_nil)
  (b_one (st_ret (d_all rfl T.n_all (s_o (o_lc [("one", 1)] [1] rfl sc_is_call.nd (i_seq (s_d (d_ix (d_var 0) d_int))) (blkOk_by (own := [("one", 1)]) (N := ["thing", "one"]) (sc := defScope s_is_call) (by decide +kernel)) rfl (by decide) (fun _ _ _ _ _ => (l_name 1 sc_is_call.nd)) (fun _ _ _ _ _ => ts_nil) (fun _ _ _ _ _ => (d_o (o_call c_is_thing hr (by first | exact Nat.le_refl _ | omega) takes0 (c_cons (c_d (d_var 1)) c_nil))))))))))⟩
theorem okr_row_text {cs : Cs} (T : Facts K mg cs) {f_row_text : Addr} {fd_row_text : FuncData} (F_row_text : Fun K "row_text" "row_text" s_row_text f_row_text fd_row_text) (g_row_text : mg "row_text" = some (.ref f_row_text)) (b_row_text : Binds K fd_row_text ["things"] []) {f_thing_text : Addr} {fd_thing_text : FuncData} (F_thing_text : Fun K "thing_text" "thing_text" s_thing_text f_thing_text fd_thing_text) (g_thing_text : mg "thing_text" = some (.ref f_thing_text)) (b_thing_text : Binds K fd_thing_text ["thing"] [])  : ∀ n, FnOk P w K mg base (L2.CX P w) (1 + n) f_row_text fd_row_text ["things"] (SpM K mg (mm_row_text  n)) ∧ FnOk P w K mg base (L2.CX P w) (1 + n) f_thing_text fd_thing_text ["thing"] (SpM K mg (mm_thing_text  n)) := by
  intro n
  induction n with
  | zero => exact ⟨def_none, def_none⟩
  | succ n ih =>
    obtain ⟨ih_row_text, ih_thing_text⟩ := ih
    have C_row_text : Callee K mg P w base "row_text" (1 + n) ["things"] (mm_row_text  n) := ⟨f_row_text, fd_row_text, ih_row_text, g_row_text, F_row_text.kp, b_row_text⟩
    have C_thing_text : Callee K mg P w base "thing_text" (1 + n) ["thing"] (mm_thing_text  n) := ⟨f_thing_text, fd_thing_text, ih_thing_text, g_thing_text, F_thing_text.kp, b_thing_text⟩
    exact ⟨def_ok (k := 1 + n) F_row_text sc_row_text rfl fun cdv A outer s H E hr tk po => ⟨_, (b_one (st_ret (d_join d_str (s_o (o_lc [("one", 1)] [1] rfl sc_row_text.nd (i_seq (s_d (d_var 0))) (blkOk_by (own := [("one", 1)]) (N := ["things", "one"]) (sc := defScope s_row_text) (by decide +kernel)) rfl (by decide) (fun _ _ _ _ _ => (l_name 1 sc_row_text.nd)) (fun _ _ _ _ _ => ts_nil) (fun _ _ _ _ _ => (d_o (o_call C_thing_text hr (Nat.le_refl _) takes0 (c_cons (c_d (d_var 1)) c_nil)))))))))⟩,
      def_ok (k := 1 + n) F_thing_text sc_thing_text rfl fun cdv A outer s H E hr tk po => ⟨_, (b_cons (st_if (t_tru (d_isi "int" boot_int (by decide) T.n_isinstance T.n_int (d_var 0))) (b_one (st_ret (d_strI T.n_str (d_var 0)))) b_nil)
  (b_cons (st_if (k_eq hr (d_ix (d_var 0) d_int) (d_tup a_nil)).test (b_one (st_ret (d_ix (d_var 0) d_int))) b_nil)
  (b_one (st_ret (d_add (d_add (d_add (d_ix (d_var 0) d_int) d_str) (d_o (o_call C_row_text hr (Nat.le_refl _) tk (c_cons (c_d (d_ix (d_var 0) d_int)) c_nil)))) d_str)))))⟩⟩
theorem ok_call_text {cs : Cs} {f : Addr} {fd : FuncData} (T : Facts K mg cs) (F : Fun K "call_text" "call_text" s_call_text f fd) (c_row_text : Callee K mg P w base "row_text" 131 ["things"] m_row_text) : FnOk P w K mg base (L2.CX P w) 132 f fd ["call"] (SpM K mg m_call_text) :=
  def_ok (k := 131) F sc_call_text rfl fun cdv A outer s H E hr tk po => ⟨_, (b_one (st_ret (d_add (d_add (d_add (d_ix (d_var 0) d_int) d_str) (d_o (o_call c_row_text hr (by first | exact Nat.le_refl _ | omega) tk (c_cons (c_d (d_ix (d_var 0) d_int)) c_nil)))) d_str)))⟩
theorem ok_ThingSigns_take_call {cs : Cs} {f : Addr} {fd : FuncData} (T : Facts K mg cs) (F : Fun K "take_call" "ThingSigns.take_call" s_ThingSigns_take_call f fd) (c_ThingSigns_take_all : CalleeM K mg P w base cs.ThingSigns "take_all" 3 ["self", "wanted"] (m_ThingSigns_take_all cs)) (c_ThingSigns_has_text : CalleeM K mg P w base cs.ThingSigns "has_text" 2 ["self", "wanted"] (m_ThingSigns_has_text cs)) (c_ThingSigns_take_text : CalleeM K mg P w base cs.ThingSigns "take_text" 4 ["self", "wanted"] (m_ThingSigns_take_text cs)) (c_ThingSigns_take_row : CalleeM K mg P w base cs.ThingSigns "take_row" 134 ["self", "deep"] (m_ThingSigns_take_row cs)) : FnOk P w K mg base (L2.CX P w) 135 f fd ["self"] (SpM K mg (m_ThingSigns_take_call cs)) :=
  def_ok (k := 134) F sc_ThingSigns_take_call rfl fun cdv A outer s H E hr tk po => ⟨_, (b_cons (st_asg 1 sc_ThingSigns_take_call.nd (d_o (o_meth 0 T.k_ThingSigns.cl c_ThingSigns_take_all hr (by first | exact Nat.le_refl _ | omega) tk (c_cons (c_d (d_glob T.g_LETTERS T.r_LETTERS T.a_LETTERS)) c_nil))))
  (b_cons (st_drop (d_o (o_meth 0 T.k_ThingSigns.cl c_ThingSigns_take_text hr (by first | exact Nat.le_refl _ | omega) tk (c_cons (c_d d_str) c_nil))))
  (b_cons (st_if (t_tru (d_o (o_meth 0 T.k_ThingSigns.cl c_ThingSigns_has_text hr (by first | exact Nat.le_refl _ | omega) tk (c_cons (c_d d_str) c_nil)))) (b_one (st_ret (d_tup (a_cons (d_var 1) (a_cons (d_tup a_nil) a_nil))))) b_nil)
  (b_one (st_ret (d_tup (a_cons (d_var 1) (a_cons (d_o (o_meth 0 T.k_ThingSigns.cl c_ThingSigns_take_row hr (by first | exact Nat.le_refl _ | omega) tk (c_cons (c_d (d_glob T.g_MOST_POINTS T.r_MOST_POINTS T.a_MOST_POINTS)) c_nil))) a_nil))))))))⟩
theorem ok_read_call {cs : Cs} {f : Addr} {fd : FuncData} (T : Facts K mg cs) (F : Fun K "read_call" "read_call" s_read_call f fd) (c_NoText___init__ : ExcN K mg P w base "NoText" "row" (PySem.Str.ofString "row ") 2) (c_ThingSigns___init__ : CalleeM K mg P w base cs.ThingSigns "__init__" 4 ["self", "text"] (m_ThingSigns___init__ cs)) (c_ThingSigns_is_over : CalleeM K mg P w base cs.ThingSigns "is_over" 2 ["self"] (m_ThingSigns_is_over cs)) (c_is_call : Callee K mg P w base "is_call" 5 ["thing"] m_is_call) (c_ThingSigns_take_call : CalleeM K mg P w base cs.ThingSigns "take_call" 135 ["self"] (m_ThingSigns_take_call cs)) : FnOk P w K mg base (L2.CX P w) 136 f fd ["text"] (SpM K mg (m_read_call cs)) :=
  def_ok (k := 135) F sc_read_call rfl fun cdv A outer s H E hr tk po => ⟨_, (b_cons (st_asgO 1 sc_read_call.nd (o_make T.k_ThingSigns c_ThingSigns___init__ hr (by first | exact Nat.le_refl _ | omega) tk (c_cons (c_d (d_var 0)) c_nil)))
  (b_cons (st_asg 2 sc_read_call.nd (d_o (o_meth0 1 T.k_ThingSigns.cl c_ThingSigns_take_call hr (by first | exact Nat.le_refl _ | omega) tk)))
  (b_cons (st_if (t_w (w_or (t_not (t_tru (d_o (o_meth0 1 T.k_ThingSigns.cl c_ThingSigns_is_over hr (by first | exact Nat.le_refl _ | omega) tk)))) (w_or1 (t_not (t_tru (d_o (o_call c_is_call hr (by first | exact Nat.le_refl _ | omega) tk (c_cons (c_d (d_var 2)) c_nil)))))))) (b_one (st_raiseI c_NoText___init__ hr (by first | exact Nat.le_refl _ | omega) rfl tk d_int)) b_nil)
  (b_one (st_ret (d_var 2))))))⟩
theorem ok__law_begun {cs : Cs} {f : Addr} {fd : FuncData} (T : Facts K mg cs) (F : Fun K "_law_begun" "_law_begun" s__law_begun f fd)  : FnOk P w K mg base (L2.CX P w) 2 f fd ["_law_cell", "_law_k"] (SpM K mg m__law_begun) :=
  def_ok (k := 1) F sc__law_begun rfl fun cdv A outer s H E hr tk po => ⟨_, (b_cons (st_asg 2 sc__law_begun.nd (d_add d_int (d_mod (d_pow (d_add (d_add (d_mul (d_mod (d_var 0) d_int) d_int) (d_mul d_int (d_var 1))) d_int) d_int) d_int)))
  (b_cons (st_if (k_ge (d_var 0) (d_pow d_int d_int)).test (b_one (st_retO (o_lst (a_cons (d_sub (d_var 0) (d_pow d_int d_int)) (a_cons (d_var 2) (a_cons d_int a_nil)))))) b_nil)
  (b_one (st_retO (o_lst (a_cons d_int (a_cons (d_var 2) (a_cons d_int a_nil))))))))⟩
theorem ok__law_next {cs : Cs} {f : Addr} {fd : FuncData} (T : Facts K mg cs) (F : Fun K "_law_next" "_law_next" s__law_next f fd)  : FnOk P w K mg base (L2.CX P w) 2 f fd ["_law_draw", "_law_size"] (SpM K mg m__law_next) :=
  def_ok (k := 1) F sc__law_next rfl fun cdv A outer s H E hr tk po => ⟨_, (b_cons (st_if (k_gt (d_ixS (s_slot 0) d_int) d_int).test (b_cons (st_asg 3 sc__law_next.nd (d_mod (d_ixS (s_slot 0) d_int) (d_var 1)))
  (b_cons (st_setIx 0 (d_div (d_ixS (s_slot 0) d_int) (d_var 1)) d_int)
  (b_one (st_ret (d_var 3))))) b_nil)
  (b_cons (st_setIx 0 (d_add (d_ixS (s_slot 0) d_int) d_int) d_int)
  (b_cons (st_asg 2 sc__law_next.nd (d_mod (d_pow (d_add (d_add (d_mul (d_ixS (s_slot 0) d_int) (d_add (d_mul d_int (d_ixS (s_slot 0) d_int)) d_int)) (d_mul (d_mul d_int (d_ixS (s_slot 0) d_int)) (d_ixS (s_slot 0) d_int))) d_int) d_int) d_int))
  (b_one (st_ret (d_mod (d_div (d_var 2) d_int) (d_var 1)))))))⟩
theorem ok__law_pick {cs : Cs} {f : Addr} {fd : FuncData} (T : Facts K mg cs) (F : Fun K "_law_pick" "_law_pick" s__law_pick f fd) (c__law_next : Callee K mg P w base "_law_next" 2 ["_law_draw", "_law_size"] m__law_next) : FnOk P w K mg base (L2.CX P w) 3 f fd ["_law_draw", "_law_some"] (SpM K mg m__law_pick) :=
  def_ok (k := 2) F sc__law_pick rfl fun cdv A outer s H E hr tk po => ⟨_, (b_one (st_ret (d_ix (d_var 1) (d_o (o_call c__law_next hr (by first | exact Nat.le_refl _ | omega) tk (c_cons (c_slot 0) (c_cons (c_d (d_len T.n_len (d_var 1))) c_nil)))))))⟩
theorem ok__law_number {cs : Cs} {f : Addr} {fd : FuncData} (T : Facts K mg cs) (F : Fun K "_law_number" "_law_number" s__law_number f fd) (c__law_next : Callee K mg P w base "_law_next" 2 ["_law_draw", "_law_size"] m__law_next) : FnOk P w K mg base (L2.CX P w) 3 f fd ["_law_draw"] (SpM K mg m__law_number) :=
  def_ok (k := 2) F sc__law_number rfl fun cdv A outer s H E hr tk po => ⟨_, (b_cons (st_asg 1 sc__law_number.nd (d_o (o_call c__law_next hr (by first | exact Nat.le_refl _ | omega) tk (c_cons (c_slot 0) (c_cons (c_d d_int) c_nil)))))
  (b_cons (st_asg 2 sc__law_number.nd (d_o (o_call c__law_next hr (by first | exact Nat.le_refl _ | omega) tk (c_cons (c_slot 0) (c_cons (c_d d_int) c_nil)))))
  (b_cons (st_if (k_eq hr (d_var 1) d_int).test (b_one (st_ret (d_sub (d_pow d_int d_int) (d_var 2)))) b_nil)
  (b_one (st_ret (d_if (k_eq hr (d_var 1) d_int).test (d_o (o_call c__law_next hr (by first | exact Nat.le_refl _ | omega) tk (c_cons (c_slot 0) (c_cons (c_d (d_pow d_int d_int)) c_nil)))) (d_var 2)))))))⟩
theorem ok__law_mark {cs : Cs} {f : Addr} {fd : FuncData} (T : Facts K mg cs) (F : Fun K "_law_mark" "_law_mark" s__law_mark f fd) (c__law_next : Callee K mg P w base "_law_next" 2 ["_law_draw", "_law_size"] m__law_next) (c__law_pick : Callee K mg P w base "_law_pick" 3 ["_law_draw", "_law_some"] m__law_pick) : FnOk P w K mg base (L2.CX P w) 4 f fd ["_law_draw"] (SpM K mg m__law_mark) :=
  def_ok (k := 3) F sc__law_mark rfl fun cdv A outer s H E hr tk po => ⟨_, (b_cons (st_asg 1 sc__law_mark.nd d_str)
  (b_cons (st_asg 2 sc__law_mark.nd (d_ix d_str (d_o (o_call c__law_next hr (by first | exact Nat.le_refl _ | omega) tk (c_cons (c_slot 0) (c_cons (c_d d_int) c_nil))))))
  (b_one (st_ret (d_add (d_var 2) (d_join d_str (s_o (o_lc [("_law_k", 3)] [3] rfl sc__law_mark.nd (i_range1 T.n_range (d_o (o_call c__law_pick hr (by first | exact Nat.le_refl _ | omega) tk (c_cons (c_slot 0) (c_cons (c_d (d_frz (o_lst (a_cons d_int (a_cons d_int (a_cons d_int (a_cons d_int a_nil))))))) c_nil))))) (blkOk_by (own := [("_law_k", 3)]) (N := ["_law_draw", "_law_small", "_law_first", "_law_k"]) (sc := defScope s__law_mark) (by decide +kernel)) rfl (by decide) (fun _ _ _ _ _ => (l_name 3 sc__law_mark.nd)) (fun _ _ _ _ _ => ts_nil) (fun _ _ _ _ _ => (d_ix (d_var 1) (d_o (o_call c__law_next hr (by first | exact Nat.le_refl _ | omega) takes0 (c_cons (c_slot 0) (c_cons (c_d d_int) c_nil))))))))))))))⟩
theorem ok__law_mark_alone {cs : Cs} {f : Addr} {fd : FuncData} (T : Facts K mg cs) (F : Fun K "_law_mark_alone" "_law_mark_alone" s__law_mark_alone f fd) (c__law_mark : Callee K mg P w base "_law_mark" 4 ["_law_draw"] m__law_mark) : FnOk P w K mg base (L2.CX P w) 5 f fd ["_law_draw"] (SpM K mg m__law_mark_alone) :=
  def_ok (k := 4) F sc__law_mark_alone rfl fun cdv A outer s H E hr tk po => ⟨_, (b_one (st_ret (d_tup (a_cons (d_o (o_call c__law_mark hr (by first | exact Nat.le_refl _ | omega) tk (c_cons (c_slot 0) c_nil))) (a_cons (d_tup a_nil) a_nil)))))⟩
theorem okr__law_of_points {cs : Cs} (T : Facts K mg cs) {f__law_of_points : Addr} {fd__law_of_points : FuncData} (F__law_of_points : Fun K "_law_of_points" "_law_of_points" s__law_of_points f__law_of_points fd__law_of_points) (g__law_of_points : mg "_law_of_points" = some (.ref f__law_of_points)) (b__law_of_points : Binds K fd__law_of_points ["_law_draw", "_law_many"] []) (c__law_next : Callee K mg P w base "_law_next" 2 ["_law_draw", "_law_size"] m__law_next) (c__law_number : Callee K mg P w base "_law_number" 3 ["_law_draw"] m__law_number) (c__law_mark : Callee K mg P w base "_law_mark" 4 ["_law_draw"] m__law_mark) (c__law_mark_alone : Callee K mg P w base "_law_mark_alone" 5 ["_law_draw"] m__law_mark_alone) : ∀ n, FnOk P w K mg base (L2.CX P w) (5 + n) f__law_of_points fd__law_of_points ["_law_draw", "_law_many"] (SpM K mg (mm__law_of_points  n)) := by
  intro n
  induction n with
  | zero => exact def_none
  | succ n ih =>
    have ih__law_of_points := ih
    have C__law_of_points : Callee K mg P w base "_law_of_points" (5 + n) ["_law_draw", "_law_many"] (mm__law_of_points  n) := ⟨f__law_of_points, fd__law_of_points, ih__law_of_points, g__law_of_points, F__law_of_points.kp, b__law_of_points⟩
    exact def_ok (k := 5 + n) F__law_of_points sc__law_of_points rfl fun cdv A outer s H E hr tk po => ⟨_, (b_cons (st_if (k_eq hr (d_var 1) d_int).test (b_one (st_ret (d_if (k_eq hr (d_o (o_call c__law_next hr (by first | exact Nat.le_refl _ | omega) tk (c_cons (c_slot 0) (c_cons (c_d d_int) c_nil)))) d_int).test (d_o (o_call c__law_mark_alone hr (by first | exact Nat.le_refl _ | omega) tk (c_cons (c_slot 0) c_nil))) (d_o (o_call c__law_number hr (by first | exact Nat.le_refl _ | omega) tk (c_cons (c_slot 0) c_nil)))))) b_nil)
  (b_cons (st_asg 2 sc__law_of_points.nd (d_add d_int (d_o (o_call c__law_next hr (by first | exact Nat.le_refl _ | omega) tk (c_cons (c_slot 0) (c_cons (c_d (d_min2 rfl T.n_min (a_cons d_int (a_cons (d_sub (d_var 1) d_int) a_nil)))) c_nil))))))
  (b_cons (st_asg 3 sc__law_of_points.nd (d_sub (d_sub (d_var 1) d_int) (d_var 2)))
  (b_cons (st_asgO 4 sc__law_of_points.nd (o_lst a_nil))
  (b_cons (st_for po rfl (i_range1 T.n_range (d_var 2)) (l_name 5 sc__law_of_points.nd) (b_cons (st_asg 8 sc__law_of_points.nd (d_if (k_eq hr (d_var 5) (d_sub (d_var 2) d_int)).test (d_var 3) (d_o (o_call c__law_next hr (by first | exact Nat.le_refl _ | omega) tk (c_cons (c_slot 0) (c_cons (c_d (d_add (d_var 3) d_int)) c_nil))))))
  (b_cons (st_asg 3 sc__law_of_points.nd (d_sub (d_var 3) (d_var 8)))
  (b_one (st_app 4 (d_o (o_call C__law_of_points hr (Nat.le_refl _) tk (c_cons (c_slot 0) (c_cons (c_d (d_add d_int (d_var 8))) c_nil)))))))))
  (b_cons (st_asg 6 sc__law_of_points.nd (d_o (o_call c__law_next hr (by first | exact Nat.le_refl _ | omega) tk (c_cons (c_slot 0) (c_cons (c_d (d_var 2)) c_nil)))))
  (b_cons (st_asg 7 sc__law_of_points.nd (d_o (o_call c__law_mark hr (by first | exact Nat.le_refl _ | omega) tk (c_cons (c_slot 0) c_nil))))
  (b_one (st_ret (d_tup (a_cons (d_var 7) (a_cons (d_tuple T.n_tuple (s_o (o_cat (s_o (o_slL (s_slot 4) (p_some (d_var 6)) p_none)) (s_o (o_slL (s_slot 4) p_none (p_some (d_var 6))))))) a_nil))))))))))))⟩
theorem okr__law_text {cs : Cs} (T : Facts K mg cs) {f__law_text : Addr} {fd__law_text : FuncData} (F__law_text : Fun K "_law_text" "_law_text" s__law_text f__law_text fd__law_text) (g__law_text : mg "_law_text" = some (.ref f__law_text)) (b__law_text : Binds K fd__law_text ["_law_thing"] [])  : ∀ n, FnOk P w K mg base (L2.CX P w) (1 + n) f__law_text fd__law_text ["_law_thing"] (SpM K mg (mm__law_text  n)) := by
  intro n
  induction n with
  | zero => exact def_none
  | succ n ih =>
    have ih__law_text := ih
    have C__law_text : Callee K mg P w base "_law_text" (1 + n) ["_law_thing"] (mm__law_text  n) := ⟨f__law_text, fd__law_text, ih__law_text, g__law_text, F__law_text.kp, b__law_text⟩
    exact def_ok (k := 1 + n) F__law_text sc__law_text rfl fun cdv A outer s H E hr tk po => ⟨_, (b_cons (st_if (t_tru (d_isi "int" boot_int (by decide) T.n_isinstance T.n_int (d_var 0))) (b_one (st_ret (d_strI T.n_str (d_var 0)))) b_nil)
  (b_cons (st_if (k_eq hr (d_ix (d_var 0) d_int) (d_tup a_nil)).test (b_one (st_ret (d_ix (d_var 0) d_int))) b_nil)
  (b_one (st_ret (d_add (d_add (d_add (d_ix (d_var 0) d_int) d_str) (d_join d_str (s_o (o_lc [("_law_one", 1)] [1] rfl sc__law_text.nd (i_seq (s_d (d_ix (d_var 0) d_int))) (blkOk_by (own := [("_law_one", 1)]) (N := ["_law_thing", "_law_one"]) (sc := defScope s__law_text) (by decide +kernel)) rfl (by decide) (fun _ _ _ _ _ => (l_name 1 sc__law_text.nd)) (fun _ _ _ _ _ => ts_nil) (fun _ _ _ _ _ => (d_o (o_call C__law_text hr (Nat.le_refl _) takes0 (c_cons (c_d (d_var 1)) c_nil)))))))) d_str)))))⟩
theorem okr__law_thing_at {cs : Cs} (T : Facts K mg cs) {f__law_thing_at : Addr} {fd__law_thing_at : FuncData} (F__law_thing_at : Fun K "_law_thing_at" "_law_thing_at" s__law_thing_at f__law_thing_at fd__law_thing_at) (g__law_thing_at : mg "_law_thing_at" = some (.ref f__law_thing_at)) (b__law_thing_at : Binds K fd__law_thing_at ["_law_text_here", "_law_at", "_law_deep"] []) {f__law_row_at : Addr} {fd__law_row_at : FuncData} (F__law_row_at : Fun K "_law_row_at" "_law_row_at" s__law_row_at f__law_row_at fd__law_row_at) (g__law_row_at : mg "_law_row_at" = some (.ref f__law_row_at)) (b__law_row_at : Binds K fd__law_row_at ["_law_text_here", "_law_at", "_law_deep"] [])  : ∀ n, FnOk P w K mg base (L2.CX P w) (1 + n) f__law_thing_at fd__law_thing_at ["_law_text_here", "_law_at", "_law_deep"] (SpM K mg (mm__law_thing_at  n)) ∧ FnOk P w K mg base (L2.CX P w) (1 + n) f__law_row_at fd__law_row_at ["_law_text_here", "_law_at", "_law_deep"] (SpM K mg (mm__law_row_at  n)) := by
  intro n
  induction n with
  | zero => exact ⟨def_none, def_none⟩
  | succ n ih =>
    obtain ⟨ih__law_thing_at, ih__law_row_at⟩ := ih
    have C__law_thing_at : Callee K mg P w base "_law_thing_at" (1 + n) ["_law_text_here", "_law_at", "_law_deep"] (mm__law_thing_at  n) := ⟨f__law_thing_at, fd__law_thing_at, ih__law_thing_at, g__law_thing_at, F__law_thing_at.kp, b__law_thing_at⟩
    have C__law_row_at : Callee K mg P w base "_law_row_at" (1 + n) ["_law_text_here", "_law_at", "_law_deep"] (mm__law_row_at  n) := ⟨f__law_row_at, fd__law_row_at, ih__law_row_at, g__law_row_at, F__law_row_at.kp, b__law_row_at⟩
    exact ⟨def_ok (k := 1 + n) F__law_thing_at sc__law_thing_at rfl fun cdv A outer s H E hr tk po => ⟨_, (b_cons (st_asg 3 sc__law_thing_at.nd (d_var 1))
  (b_cons (st_while 3000 po (t_w (w_and (k_lt (d_var 3) (d_len T.n_len (d_var 0))).test (w_and1 (k_in (Room.mono (j := 0 + 1) hr (by omega)) (d_ix (d_var 0) (d_var 3)) d_str).test))) (b_one (st_asg 3 sc__law_thing_at.nd (d_add (d_var 3) d_int))))
  (b_cons (st_if (k_gt (d_var 3) (d_var 1)).test (b_cons (st_asg 5 sc__law_thing_at.nd (d_sl (d_var 0) (p_some (d_var 1)) (p_some (d_var 3))))
  (b_cons (st_if (t_w (w_or (k_gt (d_len T.n_len (d_var 5)) d_int).test (w_or (t_w (w_and (k_eq hr (d_ix (d_var 5) d_int) d_str).test (w_and1 (k_gt (d_len T.n_len (d_var 5)) d_int).test))) (w_or1 (k_gt (d_intS T.n_int (d_var 5)) (d_pow d_int d_int)).test)))) (b_one (st_ret d_non)) b_nil)
  (b_one (st_ret (d_tup (a_cons (d_intS T.n_int (d_var 5)) (a_cons (d_var 3) a_nil))))))) b_nil)
  (b_cons (st_if (t_w (w_or (k_eq hr (d_var 1) (d_len T.n_len (d_var 0))).test (w_or (k_notIn (Room.mono (j := 0 + 1) hr (by omega)) (d_ix (d_var 0) (d_var 1)) d_str).test (w_or1 (k_eq hr (d_var 2) d_int).test)))) (b_one (st_ret d_non)) b_nil)
  (b_cons (st_asg 3 sc__law_thing_at.nd (d_add (d_var 1) d_int))
  (b_cons (st_while 3000 po (t_w (w_and (k_lt (d_var 3) (d_len T.n_len (d_var 0))).test (w_and1 (k_in (Room.mono (j := 0 + 1) hr (by omega)) (d_ix (d_var 0) (d_var 3)) d_str).test))) (b_one (st_asg 3 sc__law_thing_at.nd (d_add (d_var 3) d_int))))
  (b_cons (st_if (k_gt (d_sub (d_var 3) (d_var 1)) d_int).test (b_one (st_ret d_non)) b_nil)
  (b_cons (st_if (k_ne hr (d_sl (d_var 0) (p_some (d_var 3)) (p_some (d_add (d_var 3) d_int))) d_str).test (b_one (st_ret (d_tup (a_cons (d_tup (a_cons (d_sl (d_var 0) (p_some (d_var 1)) (p_some (d_var 3))) (a_cons (d_tup a_nil) a_nil))) (a_cons (d_var 3) a_nil))))) b_nil)
  (b_cons (st_asg 4 sc__law_thing_at.nd (d_o (o_call C__law_row_at hr (Nat.le_refl _) tk (c_cons (c_d (d_var 0)) (c_cons (c_d (d_add (d_var 3) d_int)) (c_cons (c_d (d_sub (d_var 2) d_int)) c_nil))))))
  (b_one (st_ret (d_if (k_isN (d_var 4) d_non).test d_non (d_tup (a_cons (d_tup (a_cons (d_sl (d_var 0) (p_some (d_var 1)) (p_some (d_var 3))) (a_cons (d_ix (d_var 4) d_int) a_nil))) (a_cons (d_ix (d_var 4) d_int) a_nil)))))))))))))))⟩,
      def_ok (k := 1 + n) F__law_row_at sc__law_row_at rfl fun cdv A outer s H E hr tk po => ⟨_, (b_cons (st_asgO 3 sc__law_row_at.nd (o_lst a_nil))
  (b_one (st_while 3001 po (t_tru d_bl) (b_cons (st_asg 4 sc__law_row_at.nd (d_o (o_call C__law_thing_at hr (Nat.le_refl _) tk (c_cons (c_d (d_var 0)) (c_cons (c_d (d_var 1)) (c_cons (c_d (d_var 2)) c_nil))))))
  (b_cons (st_if (k_isN (d_var 4) d_non).test (b_one (st_ret d_non)) b_nil)
  (b_cons (st_app 3 (d_ix (d_var 4) d_int))
  (b_cons (st_if (k_eq hr (d_sl (d_var 0) (p_some (d_ix (d_var 4) d_int)) (p_some (d_add (d_ix (d_var 4) d_int) d_int))) d_str).test (b_one (st_ret (d_if (k_lt (d_lenS T.n_len (s_slot 3)) d_int).test (d_tup (a_cons (d_tuple T.n_tuple (s_slot 3)) (a_cons (d_add (d_ix (d_var 4) d_int) d_int) a_nil))) d_non))) b_nil)
  (b_cons (st_if (k_ne hr (d_sl (d_var 0) (p_some (d_ix (d_var 4) d_int)) (p_some (d_add (d_ix (d_var 4) d_int) d_int))) d_str).test (b_one (st_ret d_non)) b_nil)
  (b_one (st_asg 1 sc__law_row_at.nd (d_add (d_ix (d_var 4) d_int) d_int)))))))))))⟩⟩
theorem okr__law_count {cs : Cs} (T : Facts K mg cs) {f__law_count : Addr} {fd__law_count : FuncData} (F__law_count : Fun K "_law_count" "_law_count" s__law_count f__law_count fd__law_count) (g__law_count : mg "_law_count" = some (.ref f__law_count)) (b__law_count : Binds K fd__law_count ["_law_thing"] [])  : ∀ n, FnOk P w K mg base (L2.CX P w) (1 + n) f__law_count fd__law_count ["_law_thing"] (SpM K mg (mm__law_count  n)) := by
  intro n
  induction n with
  | zero => exact def_none
  | succ n ih =>
    have ih__law_count := ih
    have C__law_count : Callee K mg P w base "_law_count" (1 + n) ["_law_thing"] (mm__law_count  n) := ⟨f__law_count, fd__law_count, ih__law_count, g__law_count, F__law_count.kp, b__law_count⟩
    exact def_ok (k := 1 + n) F__law_count sc__law_count rfl fun cdv A outer s H E hr tk po => ⟨_, (b_one (st_ret (d_if (t_tru (d_isi "int" boot_int (by decide) T.n_isinstance T.n_int (d_var 0))) d_int (d_add d_int (d_sum rfl T.n_sum (s_o (o_lc [("_law_one", 1)] [1] rfl sc__law_count.nd (i_seq (s_d (d_ix (d_var 0) d_int))) (blkOk_by (own := [("_law_one", 1)]) (N := ["_law_thing", "_law_one"]) (sc := defScope s__law_count) (by decide +kernel)) rfl (by decide) (fun _ _ _ _ _ => (l_name 1 sc__law_count.nd)) (fun _ _ _ _ _ => ts_nil) (fun _ _ _ _ _ => (d_o (o_call C__law_count hr (Nat.le_refl _) takes0 (c_cons (c_d (d_var 1)) c_nil)))))))))))⟩
theorem ok__law_spoilt {cs : Cs} {f : Addr} {fd : FuncData} (T : Facts K mg cs) (F : Fun K "_law_spoilt" "_law_spoilt" s__law_spoilt f fd) (c__law_next : Callee K mg P w base "_law_next" 2 ["_law_draw", "_law_size"] m__law_next) (c__law_pick : Callee K mg P w base "_law_pick" 3 ["_law_draw", "_law_some"] m__law_pick) : FnOk P w K mg base (L2.CX P w) 4 f fd ["_law_draw", "_law_text_here"] (SpM K mg m__law_spoilt) :=
  def_ok (k := 3) F sc__law_spoilt rfl fun cdv A outer s H E hr tk po => ⟨_, (b_cons (st_asg 2 sc__law_spoilt.nd (d_o (o_call c__law_next hr (by first | exact Nat.le_refl _ | omega) tk (c_cons (c_slot 0) (c_cons (c_d d_int) c_nil)))))
  (b_cons (st_asg 3 sc__law_spoilt.nd (d_o (o_call c__law_next hr (by first | exact Nat.le_refl _ | omega) tk (c_cons (c_slot 0) (c_cons (c_d (d_add (d_len T.n_len (d_var 1)) d_int)) c_nil)))))
  (b_cons (st_asg 4 sc__law_spoilt.nd (d_o (o_call c__law_pick hr (by first | exact Nat.le_refl _ | omega) tk (c_cons (c_slot 0) (c_cons (c_d d_str) c_nil)))))
  (b_cons (st_if (k_lt (d_var 2) d_int).test (b_one (st_ret (d_add (d_add (d_sl (d_var 1) p_none (p_some (d_var 3))) (d_var 4)) (d_sl (d_var 1) (p_some (d_var 3)) p_none)))) b_nil)
  (b_cons (st_if (k_eq hr (d_var 2) d_int).test (b_one (st_ret (d_add (d_sl (d_var 1) p_none (p_some (d_var 3))) (d_sl (d_var 1) (p_some (d_add (d_var 3) d_int)) p_none)))) b_nil)
  (b_cons (st_if (k_eq hr (d_var 2) d_int).test (b_one (st_ret (d_add (d_add (d_sl (d_var 1) p_none (p_some (d_var 3))) (d_var 4)) (d_sl (d_var 1) (p_some (d_add (d_var 3) d_int)) p_none)))) b_nil)
  (b_one (st_ret (d_add (d_add (d_sl (d_var 1) p_none (p_some (d_var 3))) (d_revS (d_sl (d_var 1) (p_some (d_var 3)) (p_some (d_add (d_var 3) d_int))))) (d_sl (d_var 1) (p_some (d_add (d_var 3) d_int)) p_none))))))))))⟩
theorem ok__law_call_of {cs : Cs} {f : Addr} {fd : FuncData} (T : Facts K mg cs) (F : Fun K "_law_call_of" "_law_call_of" s__law_call_of f fd) (c__law_row_at : Callee K mg P w base "_law_row_at" 131 ["_law_text_here", "_law_at", "_law_deep"] m__law_row_at) (c__law_count : Callee K mg P w base "_law_count" 81 ["_law_thing"] m__law_count) : FnOk P w K mg base (L2.CX P w) 132 f fd ["_law_text_here"] (SpM K mg m__law_call_of) :=
  def_ok (k := 131) F sc__law_call_of rfl fun cdv A outer s H E hr tk po => ⟨_, (b_cons (st_asg 1 sc__law_call_of.nd d_int)
  (b_cons (st_while 3000 po (t_w (w_and (k_lt (d_var 1) (d_len T.n_len (d_var 0))).test (w_and1 (k_in hr (d_ix (d_var 0) (d_var 1)) d_str).test))) (b_one (st_asg 1 sc__law_call_of.nd (d_add (d_var 1) d_int))))
  (b_cons (st_if (t_w (w_or (t_not (t_chain ch_lt ch_lt d_int (d_var 1) d_int)) (w_or1 (k_ne hr (d_sl (d_var 0) (p_some (d_var 1)) (p_some (d_add (d_var 1) d_int))) d_str).test))) (b_one (st_ret d_non)) b_nil)
  (b_cons (st_if (k_inS hr (d_sl (d_var 0) p_none (p_some (d_var 1))) (s_o (o_lst (a_cons d_str (a_cons d_str (a_cons d_str (a_cons d_str (a_cons d_str (a_cons d_str a_nil))))))))).test (b_one (st_ret d_non)) b_nil)
  (b_cons (st_if (k_eq hr (d_sl (d_var 0) (p_some (d_var 1)) p_none) d_str).test (b_one (st_ret (d_tup (a_cons (d_sl (d_var 0) p_none (p_some (d_var 1))) (a_cons (d_tup a_nil) a_nil))))) b_nil)
  (b_cons (st_asg 2 sc__law_call_of.nd (d_o (o_call c__law_row_at hr (by first | exact Nat.le_refl _ | omega) tk (c_cons (c_d (d_var 0)) (c_cons (c_d (d_add (d_var 1) d_int)) (c_cons (c_d d_int) c_nil))))))
  (b_cons (st_if (t_w (w_or (k_isN (d_var 2) d_non).test (w_or (k_lt (d_ix (d_var 2) d_int) (d_len T.n_len (d_var 0))).test (w_or1 (k_neS hr (s_o (o_lc [("_law_one", 3)] [3] rfl sc__law_call_of.nd (i_seq (s_d (d_ix (d_var 2) d_int))) (blkOk_by (own := [("_law_one", 3)]) (N := ["_law_text_here", "_law_end", "_law_row", "_law_one"]) (sc := defScope s__law_call_of) (by decide +kernel)) rfl (by decide) (fun _ _ _ _ _ => (l_name 3 sc__law_call_of.nd)) (fun _ _ _ _ _ => (ts_one (k_gt (d_o (o_call c__law_count hr (by first | exact Nat.le_refl _ | omega) takes0 (c_cons (c_d (d_var 3)) c_nil))) d_int).test)) (fun _ _ _ _ _ => (d_var 3)))) (s_o (o_lst a_nil))).test)))) (b_one (st_ret d_non)) b_nil)
  (b_one (st_ret (d_tup (a_cons (d_sl (d_var 0) p_none (p_some (d_var 1))) (a_cons (d_ix (d_var 2) d_int) a_nil))))))))))))⟩
theorem ok__law_refused {cs : Cs} {f : Addr} {fd : FuncData} (T : Facts K mg cs) (F : Fun K "_law_refused" "_law_refused" s__law_refused f fd) (c_read_call : Callee K mg P w base "read_call" 136 ["text"] (m_read_call cs)) : FnOk P w K mg base (L2.CX P w) 137 f fd ["_law_text_here"] (SpM K mg (m__law_refused cs)) :=
  def_ok (k := 136) F sc__law_refused rfl fun cdv A outer s H E hr tk po => ⟨_, (b_cons (st_asg 1 sc__law_refused.nd d_non)
  (b_cons (st_try 2 T.xt_NoText sc__law_refused.nd tk (fun W pn xe tk po => (b_one (st_asg 1 sc__law_refused.nd (d_o (o_call c_read_call hr (by first | exact Nat.le_refl _ | omega) tk (c_cons (c_d (d_var 0)) c_nil)))))) (fun a pn => (b_cons (st_asg 3 sc__law_refused.nd (d_and (d_isX 2 T.x_all T.xt_RuleError T.n_isinstance) (d_and (d_isX 2 T.x_all T.xt_ValueError T.n_isinstance) (d_one (k_eqU (by have h := Room.u200 hr; exact h) (d_fldX 2 T.x_all T.xf_row) d_int).val))))
  (b_one (st_asg 1 sc__law_refused.nd (d_if (t_w (w_and (t_tru (d_var 3)) (w_and1 (t_not (t_tru (d_isX3 2 T.x_all T.xt_Clash T.xt_NoCall T.xt_NoProgram T.n_isinstance)))))) d_str d_non))))))
  (b_one (st_ret (d_and (d_isi "str" boot_str (by decide) T.n_isinstance T.n_str (d_var 1)) (d_one (k_eq hr (d_var 1) d_str).val))))))⟩
theorem ok__law_read_right {cs : Cs} {f : Addr} {fd : FuncData} (T : Facts K mg cs) (F : Fun K "_law_read_right" "_law_read_right" s__law_read_right f fd) (c_read_call : Callee K mg P w base "read_call" 136 ["text"] (m_read_call cs)) (c__law_call_of : Callee K mg P w base "_law_call_of" 132 ["_law_text_here"] m__law_call_of) (c__law_refused : Callee K mg P w base "_law_refused" 137 ["_law_text_here"] (m__law_refused cs)) : FnOkG P w K mg base (L2.CX P w) 138 f fd ["_law_text_here"] (SpM K mg (m__law_read_right cs)) :=
  def_okG (k := 137) F sc__law_read_right rfl fun cdv A outer s H E hr tk po hgd => ⟨_, (b_cons (st_asg 1 sc__law_read_right.nd (d_o (o_call c__law_call_of hr (by first | exact Nat.le_refl _ | omega) tk (c_cons (c_d (d_var 0)) c_nil))))
  (b_cons (st_if (k_isN (d_var 1) d_non).test (b_one (st_ret (d_o (o_call c__law_refused hr (by first | exact Nat.le_refl _ | omega) tk (c_cons (c_d (d_var 0)) c_nil))))) b_nil)
  (b_cons (st_asg 2 sc__law_read_right.nd (d_o (o_call c_read_call hr (by first | exact Nat.le_refl _ | omega) tk (c_cons (c_d (d_var 0)) c_nil))))
  (b_one (st_ret (d_and (d_isi "tuple" boot_tuple (by decide) T.n_isinstance T.n_tuple (d_var 2)) (d_and (k_eq hr (d_var 2) (d_var 1)).val (d_one (k_eq hr (d_repr hgd hr T.n_repr (d_var 2)) (d_repr hgd hr T.n_repr (d_var 1))).val))))))))⟩
theorem ok__law_right {cs : Cs} {f : Addr} {fd : FuncData} (T : Facts K mg cs) (F : Fun K "_law_right" "_law_right" s__law_right f fd) (c_call_text : Callee K mg P w base "call_text" 132 ["call"] m_call_text) (c__law_begun : Callee K mg P w base "_law_begun" 2 ["_law_cell", "_law_k"] m__law_begun) (c__law_next : Callee K mg P w base "_law_next" 2 ["_law_draw", "_law_size"] m__law_next) (c__law_pick : Callee K mg P w base "_law_pick" 3 ["_law_draw", "_law_some"] m__law_pick) (c__law_of_points : Callee K mg P w base "_law_of_points" 75 ["_law_draw", "_law_many"] m__law_of_points) (c__law_text : Callee K mg P w base "_law_text" 81 ["_law_thing"] m__law_text) (c__law_spoilt : Callee K mg P w base "_law_spoilt" 4 ["_law_draw", "_law_text_here"] m__law_spoilt) (c__law_refused : Callee K mg P w base "_law_refused" 137 ["_law_text_here"] (m__law_refused cs)) (c__law_read_right : CalleeG K mg P w base "_law_read_right" 138 ["_law_text_here"] (m__law_read_right cs)) : FnOkG P w K mg base (L2.CX P w) 139 f fd ["_law_cell", "_law_k"] (SpM K mg (m__law_right cs)) :=
  def_okG (k := 138) F sc__law_right rfl fun cdv A outer s H E hr tk po hgd => ⟨_, (b_cons (st_asgO 2 sc__law_right.nd (o_call c__law_begun hr (by first | exact Nat.le_refl _ | omega) tk (c_cons (c_d (d_var 0)) (c_cons (c_d (d_var 1)) c_nil))))
  (b_cons (st_asg 3 sc__law_right.nd (d_o (o_call c__law_next hr (by first | exact Nat.le_refl _ | omega) tk (c_cons (c_slot 2) (c_cons (c_d d_int) c_nil)))))
  (b_cons (st_asg 4 sc__law_right.nd (d_o (o_call c__law_next hr (by first | exact Nat.le_refl _ | omega) tk (c_cons (c_slot 2) (c_cons (c_d d_int) c_nil)))))
  (b_cons (st_asg 5 sc__law_right.nd d_str)
  (b_cons (st_asg 6 sc__law_right.nd (d_add (d_ix (d_var 5) (d_o (o_call c__law_next hr (by first | exact Nat.le_refl _ | omega) tk (c_cons (c_slot 2) (c_cons (c_d d_int) c_nil))))) (d_join d_str (s_o (o_lc [("_law_j", 11)] [11] rfl sc__law_right.nd (i_range1 T.n_range (d_o (o_call c__law_next hr (by first | exact Nat.le_refl _ | omega) tk (c_cons (c_slot 2) (c_cons (c_d d_int) c_nil))))) (blkOk_by (own := [("_law_j", 11)]) (N := ["_law_cell", "_law_k", "_law_draw", "_law_pick_here", "_law_places", "_law_small", "_law_name", "_law_words", "_law_call", "_law_text_here", "_law_turn", "_law_j", "_law_one"]) (sc := defScope s__law_right) (by decide +kernel)) rfl (by decide) (fun _ _ _ _ _ => (l_name 11 sc__law_right.nd)) (fun _ _ _ _ _ => ts_nil) (fun _ _ _ _ _ => (d_o (o_call c__law_pick hr (by first | exact Nat.le_refl _ | omega) takes0 (c_cons (c_slot 2) (c_cons (c_d (d_var 5)) c_nil))))))))))
  (b_cons (st_asg 7 sc__law_right.nd (d_frz (o_lst (a_cons d_str (a_cons d_str (a_cons d_str (a_cons d_str (a_cons d_str (a_cons d_str (a_cons d_str (a_cons d_str (a_cons d_str (a_cons d_str a_nil)))))))))))))
  (b_cons (st_asg 6 sc__law_right.nd (d_sl (d_ixS (s_o (o_cat (s_d (d_var 7)) (s_o (o_lst (a_cons (d_add (d_var 6) d_str) (a_cons (d_add (d_var 6) d_str) (a_cons d_str (a_cons d_str a_nil)))))))) (d_var 3)) p_none (p_some d_int)))
  (b_cons (st_asg 8 sc__law_right.nd (d_tup (a_cons (d_var 6) (a_cons (d_tuple T.n_tuple (s_o (o_lc [("_law_j", 11)] [11] rfl sc__law_right.nd (i_range1 T.n_range (d_var 4)) (blkOk_by (own := [("_law_j", 11)]) (N := ["_law_cell", "_law_k", "_law_draw", "_law_pick_here", "_law_places", "_law_small", "_law_name", "_law_words", "_law_call", "_law_text_here", "_law_turn", "_law_j", "_law_one"]) (sc := defScope s__law_right) (by decide +kernel)) rfl (by decide) (fun _ _ _ _ _ => (l_name 11 sc__law_right.nd)) (fun _ _ _ _ _ => ts_nil) (fun _ _ _ _ _ => (d_o (o_call c__law_of_points hr (by first | exact Nat.le_refl _ | omega) takes0 (c_cons (c_slot 2) (c_cons (c_d (d_add d_int (d_o (o_call c__law_next hr (by first | exact Nat.le_refl _ | omega) takes0 (c_cons (c_slot 2) (c_cons (c_d d_int) c_nil)))))) c_nil)))))))) a_nil))))
  (b_cons (st_asg 9 sc__law_right.nd (d_add (d_add (d_add (d_var 6) d_str) (d_join d_str (s_o (o_lc [("_law_one", 12)] [12] rfl sc__law_right.nd (i_seq (s_d (d_ix (d_var 8) d_int))) (blkOk_by (own := [("_law_one", 12)]) (N := ["_law_cell", "_law_k", "_law_draw", "_law_pick_here", "_law_places", "_law_small", "_law_name", "_law_words", "_law_call", "_law_text_here", "_law_turn", "_law_j", "_law_one"]) (sc := defScope s__law_right) (by decide +kernel)) rfl (by decide) (fun _ _ _ _ _ => (l_name 12 sc__law_right.nd)) (fun _ _ _ _ _ => ts_nil) (fun _ _ _ _ _ => (d_o (o_call c__law_text hr (by first | exact Nat.le_refl _ | omega) takes0 (c_cons (c_d (d_var 12)) c_nil)))))))) d_str))
  (b_cons (st_if (t_w (w_or (t_w (w_and (k_ne hr (d_var 6) d_str).test (w_and1 (k_ne hr (d_o (o_call c_call_text hr (by first | exact Nat.le_refl _ | omega) tk (c_cons (c_d (d_var 8)) c_nil))) (d_var 9)).test))) (w_or1 (t_not (t_tru (d_o (o_callG c__law_read_right hgd hr (by first | exact Nat.le_refl _ | omega) tk (c_cons (c_d (d_var 9)) c_nil)))))))) (b_one (st_ret d_bl)) b_nil)
  (b_cons (st_for po rfl (i_range1 T.n_range d_int) (l_name 10 sc__law_right.nd) (b_one (st_if (t_not (t_tru (d_o (o_callG c__law_read_right hgd hr (by first | exact Nat.le_refl _ | omega) tk (c_cons (c_d (d_o (o_call c__law_spoilt hr (by first | exact Nat.le_refl _ | omega) tk (c_cons (c_slot 2) (c_cons (c_d (d_var 9)) c_nil))))) c_nil))))) (b_one (st_ret d_bl)) b_nil)))
  (b_one (st_ret (d_o (o_call c__law_refused hr (by first | exact Nat.le_refl _ | omega) tk (c_cons (c_d (d_ixS (s_o (o_lst (a_cons d_non (a_cons d_int (a_cons (d_var 8) (a_cons (d_frz (o_lst (a_cons (d_var 9) a_nil))) (a_cons d_str (a_cons (d_var 6) (a_cons (d_add (d_var 9) d_str) (a_cons (d_add (d_var 9) d_str) a_nil)))))))))) (d_o (o_call c__law_next hr (by first | exact Nat.le_refl _ | omega) tk (c_cons (c_slot 2) (c_cons (c_d d_int) c_nil)))))) c_nil))))))))))))))))⟩
theorem ok_law {cs : Cs} {f : Addr} {fd : FuncData} (T : Facts K mg cs) (F : Fun K "law" "law" s_law f fd) (c__law_right : CalleeG K mg P w base "_law_right" 139 ["_law_cell", "_law_k"] (m__law_right cs)) : FnOkG P w K mg base (L2.CX P w) 140 f fd ["_law_script"] (SpM K mg (m_law cs)) :=
  def_okG (k := 139) F sc_law rfl fun cdv A outer s H E hr tk po hgd => ⟨_, (b_cons (st_for po rfl (i_enum T.n_enumerate (s_o (o_slL (s_o (o_cat (s_d (d_var 0)) (s_o (o_lst (a_cons d_int a_nil))))) p_none (p_some (d_max2 rfl T.n_max (a_cons d_int (a_cons (d_min2 rfl T.n_min (a_cons d_int (a_cons (d_len T.n_len (d_var 0)) a_nil))) a_nil))))))) (l_tup rfl (ls_cons (l_name 1 sc_law.nd) (ls_cons (l_name 2 sc_law.nd) ls_nil))) (b_one (st_if (t_not (t_tru (d_o (o_callG c__law_right hgd hr (by first | exact Nat.le_refl _ | omega) tk (c_cons (c_d (d_var 2)) (c_cons (c_d (d_var 1)) c_nil)))))) (b_one (st_ret d_bl)) b_nil)))
  (b_one (st_ret d_bl)))⟩
end
theorem all_ok {P : Program} {w : World} {K : Frag} {mg : Str → Option Value} {base : Heap} {cs : Cs} (T : Facts K mg cs)
    {f_NoText___init__ : Addr} {fd_NoText___init__ : FuncData} (F_NoText___init__ : Fun K "__init__" "NoText.__init__" s_NoText___init__ f_NoText___init__ fd_NoText___init__) (g_NoText___init__ : ExcAt K mg "NoText" "row" f_NoText___init__) (b_NoText___init__ : Binds K fd_NoText___init__ ["self", "row"] [])
    {f_is_number : Addr} {fd_is_number : FuncData} (F_is_number : Fun K "is_number" "is_number" s_is_number f_is_number fd_is_number) (g_is_number : mg "is_number" = some (.ref f_is_number)) (b_is_number : Binds K fd_is_number ["thing", "least", "most"] [])
    {f_is_worth : Addr} {fd_is_worth : FuncData} (F_is_worth : Fun K "is_worth" "is_worth" s_is_worth f_is_worth fd_is_worth) (g_is_worth : mg "is_worth" = some (.ref f_is_worth)) (b_is_worth : Binds K fd_is_worth ["thing"] [])
    {f_all_small : Addr} {fd_all_small : FuncData} (F_all_small : Fun K "all_small" "all_small" s_all_small f_all_small fd_all_small) (g_all_small : mg "all_small" = some (.ref f_all_small)) (b_all_small : Binds K fd_all_small ["text"] [])
    {f_is_name : Addr} {fd_is_name : FuncData} (F_is_name : Fun K "is_name" "is_name" s_is_name f_is_name fd_is_name) (g_is_name : mg "is_name" = some (.ref f_is_name)) (b_is_name : Binds K fd_is_name ["thing"] [])
    {f_is_mark : Addr} {fd_is_mark : FuncData} (F_is_mark : Fun K "is_mark" "is_mark" s_is_mark f_is_mark fd_is_mark) (g_is_mark : mg "is_mark" = some (.ref f_is_mark)) (b_is_mark : Binds K fd_is_mark ["thing"] [])
    {f_ThingSigns___init__ : Addr} {fd_ThingSigns___init__ : FuncData} (F_ThingSigns___init__ : Fun K "__init__" "Signs.__init__" s_ThingSigns___init__ f_ThingSigns___init__ fd_ThingSigns___init__) (g_ThingSigns___init__ : Meth K cs.ThingSigns "__init__" f_ThingSigns___init__) (b_ThingSigns___init__ : Binds K fd_ThingSigns___init__ ["self", "text"] [])
    {f_ThingSigns_coming : Addr} {fd_ThingSigns_coming : FuncData} (F_ThingSigns_coming : Fun K "coming" "Signs.coming" s_ThingSigns_coming f_ThingSigns_coming fd_ThingSigns_coming) (g_ThingSigns_coming : Meth K cs.ThingSigns "coming" f_ThingSigns_coming) (b_ThingSigns_coming : Binds K fd_ThingSigns_coming ["self"] [])
    {f_ThingSigns_is_over : Addr} {fd_ThingSigns_is_over : FuncData} (F_ThingSigns_is_over : Fun K "is_over" "Signs.is_over" s_ThingSigns_is_over f_ThingSigns_is_over fd_ThingSigns_is_over) (g_ThingSigns_is_over : Meth K cs.ThingSigns "is_over" f_ThingSigns_is_over) (b_ThingSigns_is_over : Binds K fd_ThingSigns_is_over ["self"] [])
    {f_ThingSigns_take_all : Addr} {fd_ThingSigns_take_all : FuncData} (F_ThingSigns_take_all : Fun K "take_all" "Signs.take_all" s_ThingSigns_take_all f_ThingSigns_take_all fd_ThingSigns_take_all) (g_ThingSigns_take_all : Meth K cs.ThingSigns "take_all" f_ThingSigns_take_all) (b_ThingSigns_take_all : Binds K fd_ThingSigns_take_all ["self", "wanted"] [])
    {f_ThingSigns_has_text : Addr} {fd_ThingSigns_has_text : FuncData} (F_ThingSigns_has_text : Fun K "has_text" "Signs.has_text" s_ThingSigns_has_text f_ThingSigns_has_text fd_ThingSigns_has_text) (g_ThingSigns_has_text : Meth K cs.ThingSigns "has_text" f_ThingSigns_has_text) (b_ThingSigns_has_text : Binds K fd_ThingSigns_has_text ["self", "wanted"] [])
    {f_ThingSigns_take_text : Addr} {fd_ThingSigns_take_text : FuncData} (F_ThingSigns_take_text : Fun K "take_text" "Signs.take_text" s_ThingSigns_take_text f_ThingSigns_take_text fd_ThingSigns_take_text) (g_ThingSigns_take_text : Meth K cs.ThingSigns "take_text" f_ThingSigns_take_text) (b_ThingSigns_take_text : Binds K fd_ThingSigns_take_text ["self", "wanted"] [])
    {f_ThingSigns_take_number : Addr} {fd_ThingSigns_take_number : FuncData} (F_ThingSigns_take_number : Fun K "take_number" "Signs.take_number" s_ThingSigns_take_number f_ThingSigns_take_number fd_ThingSigns_take_number) (g_ThingSigns_take_number : Meth K cs.ThingSigns "take_number" f_ThingSigns_take_number) (b_ThingSigns_take_number : Binds K fd_ThingSigns_take_number ["self"] [])
    {f_ThingSigns_take_mark : Addr} {fd_ThingSigns_take_mark : FuncData} (F_ThingSigns_take_mark : Fun K "take_mark" "Signs.take_mark" s_ThingSigns_take_mark f_ThingSigns_take_mark fd_ThingSigns_take_mark) (g_ThingSigns_take_mark : Meth K cs.ThingSigns "take_mark" f_ThingSigns_take_mark) (b_ThingSigns_take_mark : Binds K fd_ThingSigns_take_mark ["self"] [])
    {f_ThingSigns_take_row : Addr} {fd_ThingSigns_take_row : FuncData} (F_ThingSigns_take_row : Fun K "take_row" "Signs.take_row" s_ThingSigns_take_row f_ThingSigns_take_row fd_ThingSigns_take_row) (g_ThingSigns_take_row : Meth K cs.ThingSigns "take_row" f_ThingSigns_take_row) (b_ThingSigns_take_row : Binds K fd_ThingSigns_take_row ["self", "deep"] [])
    {f_is_row : Addr} {fd_is_row : FuncData} (F_is_row : Fun K "is_row" "is_row" s_is_row f_is_row fd_is_row) (g_is_row : mg "is_row" = some (.ref f_is_row)) (b_is_row : Binds K fd_is_row ["thing"] [])
    {f_is_thing : Addr} {fd_is_thing : FuncData} (F_is_thing : Fun K "is_thing" "is_thing" s_is_thing f_is_thing fd_is_thing) (g_is_thing : mg "is_thing" = some (.ref f_is_thing)) (b_is_thing : Binds K fd_is_thing ["thing"] [])
    {f_is_call : Addr} {fd_is_call : FuncData} (F_is_call : Fun K "is_call" "is_call" s_is_call f_is_call fd_is_call) (g_is_call : mg "is_call" = some (.ref f_is_call)) (b_is_call : Binds K fd_is_call ["thing"] [])
    {f_row_text : Addr} {fd_row_text : FuncData} (F_row_text : Fun K "row_text" "row_text" s_row_text f_row_text fd_row_text) (g_row_text : mg "row_text" = some (.ref f_row_text)) (b_row_text : Binds K fd_row_text ["things"] [])
    {f_thing_text : Addr} {fd_thing_text : FuncData} (F_thing_text : Fun K "thing_text" "thing_text" s_thing_text f_thing_text fd_thing_text) (g_thing_text : mg "thing_text" = some (.ref f_thing_text)) (b_thing_text : Binds K fd_thing_text ["thing"] [])
    {f_call_text : Addr} {fd_call_text : FuncData} (F_call_text : Fun K "call_text" "call_text" s_call_text f_call_text fd_call_text) (g_call_text : mg "call_text" = some (.ref f_call_text)) (b_call_text : Binds K fd_call_text ["call"] [])
    {f_ThingSigns_take_one : Addr} {fd_ThingSigns_take_one : FuncData} (F_ThingSigns_take_one : Fun K "take_one" "ThingSigns.take_one" s_ThingSigns_take_one f_ThingSigns_take_one fd_ThingSigns_take_one) (g_ThingSigns_take_one : Meth K cs.ThingSigns "take_one" f_ThingSigns_take_one) (b_ThingSigns_take_one : Binds K fd_ThingSigns_take_one ["self", "deep"] [])
    {f_ThingSigns_take_call : Addr} {fd_ThingSigns_take_call : FuncData} (F_ThingSigns_take_call : Fun K "take_call" "ThingSigns.take_call" s_ThingSigns_take_call f_ThingSigns_take_call fd_ThingSigns_take_call) (g_ThingSigns_take_call : Meth K cs.ThingSigns "take_call" f_ThingSigns_take_call) (b_ThingSigns_take_call : Binds K fd_ThingSigns_take_call ["self"] [])
    {f_read_call : Addr} {fd_read_call : FuncData} (F_read_call : Fun K "read_call" "read_call" s_read_call f_read_call fd_read_call) (g_read_call : mg "read_call" = some (.ref f_read_call)) (b_read_call : Binds K fd_read_call ["text"] [])
    {f__law_begun : Addr} {fd__law_begun : FuncData} (F__law_begun : Fun K "_law_begun" "_law_begun" s__law_begun f__law_begun fd__law_begun) (g__law_begun : mg "_law_begun" = some (.ref f__law_begun)) (b__law_begun : Binds K fd__law_begun ["_law_cell", "_law_k"] [])
    {f__law_next : Addr} {fd__law_next : FuncData} (F__law_next : Fun K "_law_next" "_law_next" s__law_next f__law_next fd__law_next) (g__law_next : mg "_law_next" = some (.ref f__law_next)) (b__law_next : Binds K fd__law_next ["_law_draw", "_law_size"] [])
    {f__law_pick : Addr} {fd__law_pick : FuncData} (F__law_pick : Fun K "_law_pick" "_law_pick" s__law_pick f__law_pick fd__law_pick) (g__law_pick : mg "_law_pick" = some (.ref f__law_pick)) (b__law_pick : Binds K fd__law_pick ["_law_draw", "_law_some"] [])
    {f__law_number : Addr} {fd__law_number : FuncData} (F__law_number : Fun K "_law_number" "_law_number" s__law_number f__law_number fd__law_number) (g__law_number : mg "_law_number" = some (.ref f__law_number)) (b__law_number : Binds K fd__law_number ["_law_draw"] [])
    {f__law_mark : Addr} {fd__law_mark : FuncData} (F__law_mark : Fun K "_law_mark" "_law_mark" s__law_mark f__law_mark fd__law_mark) (g__law_mark : mg "_law_mark" = some (.ref f__law_mark)) (b__law_mark : Binds K fd__law_mark ["_law_draw"] [])
    {f__law_of_points : Addr} {fd__law_of_points : FuncData} (F__law_of_points : Fun K "_law_of_points" "_law_of_points" s__law_of_points f__law_of_points fd__law_of_points) (g__law_of_points : mg "_law_of_points" = some (.ref f__law_of_points)) (b__law_of_points : Binds K fd__law_of_points ["_law_draw", "_law_many"] [])
    {f__law_mark_alone : Addr} {fd__law_mark_alone : FuncData} (F__law_mark_alone : Fun K "_law_mark_alone" "_law_mark_alone" s__law_mark_alone f__law_mark_alone fd__law_mark_alone) (g__law_mark_alone : mg "_law_mark_alone" = some (.ref f__law_mark_alone)) (b__law_mark_alone : Binds K fd__law_mark_alone ["_law_draw"] [])
    {f__law_text : Addr} {fd__law_text : FuncData} (F__law_text : Fun K "_law_text" "_law_text" s__law_text f__law_text fd__law_text) (g__law_text : mg "_law_text" = some (.ref f__law_text)) (b__law_text : Binds K fd__law_text ["_law_thing"] [])
    {f__law_thing_at : Addr} {fd__law_thing_at : FuncData} (F__law_thing_at : Fun K "_law_thing_at" "_law_thing_at" s__law_thing_at f__law_thing_at fd__law_thing_at) (g__law_thing_at : mg "_law_thing_at" = some (.ref f__law_thing_at)) (b__law_thing_at : Binds K fd__law_thing_at ["_law_text_here", "_law_at", "_law_deep"] [])
    {f__law_row_at : Addr} {fd__law_row_at : FuncData} (F__law_row_at : Fun K "_law_row_at" "_law_row_at" s__law_row_at f__law_row_at fd__law_row_at) (g__law_row_at : mg "_law_row_at" = some (.ref f__law_row_at)) (b__law_row_at : Binds K fd__law_row_at ["_law_text_here", "_law_at", "_law_deep"] [])
    {f__law_count : Addr} {fd__law_count : FuncData} (F__law_count : Fun K "_law_count" "_law_count" s__law_count f__law_count fd__law_count) (g__law_count : mg "_law_count" = some (.ref f__law_count)) (b__law_count : Binds K fd__law_count ["_law_thing"] [])
    {f__law_spoilt : Addr} {fd__law_spoilt : FuncData} (F__law_spoilt : Fun K "_law_spoilt" "_law_spoilt" s__law_spoilt f__law_spoilt fd__law_spoilt) (g__law_spoilt : mg "_law_spoilt" = some (.ref f__law_spoilt)) (b__law_spoilt : Binds K fd__law_spoilt ["_law_draw", "_law_text_here"] [])
    {f__law_call_of : Addr} {fd__law_call_of : FuncData} (F__law_call_of : Fun K "_law_call_of" "_law_call_of" s__law_call_of f__law_call_of fd__law_call_of) (g__law_call_of : mg "_law_call_of" = some (.ref f__law_call_of)) (b__law_call_of : Binds K fd__law_call_of ["_law_text_here"] [])
    {f__law_refused : Addr} {fd__law_refused : FuncData} (F__law_refused : Fun K "_law_refused" "_law_refused" s__law_refused f__law_refused fd__law_refused) (g__law_refused : mg "_law_refused" = some (.ref f__law_refused)) (b__law_refused : Binds K fd__law_refused ["_law_text_here"] [])
    {f__law_read_right : Addr} {fd__law_read_right : FuncData} (F__law_read_right : Fun K "_law_read_right" "_law_read_right" s__law_read_right f__law_read_right fd__law_read_right) (g__law_read_right : mg "_law_read_right" = some (.ref f__law_read_right)) (b__law_read_right : Binds K fd__law_read_right ["_law_text_here"] [])
    {f__law_right : Addr} {fd__law_right : FuncData} (F__law_right : Fun K "_law_right" "_law_right" s__law_right f__law_right fd__law_right) (g__law_right : mg "_law_right" = some (.ref f__law_right)) (b__law_right : Binds K fd__law_right ["_law_cell", "_law_k"] [])
    {f_law : Addr} {fd_law : FuncData} (F_law : Fun K "law" "law" s_law f_law fd_law) (g_law : mg "law" = some (.ref f_law)) (b_law : Binds K fd_law ["_law_script"] [])
    : FnOkG P w K mg base (L2.CX P w) 140 f_law fd_law ["_law_script"] (SpM K mg (m_law cs)) := by
  have c_NoText___init__ : ExcN K mg P w base "NoText" "row" (PySem.Str.ofString "row ") 2 := ok_NoText___init__ T F_NoText___init__ g_NoText___init__ b_NoText___init__
  have c_is_number : Callee K mg P w base "is_number" 2 ["thing", "least", "most"] m_is_number := ⟨f_is_number, fd_is_number, ok_is_number T F_is_number , g_is_number, F_is_number.kp, b_is_number⟩
  have c_is_worth : Callee K mg P w base "is_worth" 3 ["thing"] m_is_worth := ⟨f_is_worth, fd_is_worth, ok_is_worth T F_is_worth c_is_number, g_is_worth, F_is_worth.kp, b_is_worth⟩
  have c_all_small : Callee K mg P w base "all_small" 2 ["text"] m_all_small := ⟨f_all_small, fd_all_small, ok_all_small T F_all_small , g_all_small, F_all_small.kp, b_all_small⟩
  have c_is_name : Callee K mg P w base "is_name" 3 ["thing"] m_is_name := ⟨f_is_name, fd_is_name, ok_is_name T F_is_name c_all_small, g_is_name, F_is_name.kp, b_is_name⟩
  have c_is_mark : Callee K mg P w base "is_mark" 3 ["thing"] m_is_mark := ⟨f_is_mark, fd_is_mark, ok_is_mark T F_is_mark c_all_small, g_is_mark, F_is_mark.kp, b_is_mark⟩
  have c_ThingSigns___init__ : CalleeM K mg P w base cs.ThingSigns "__init__" 4 ["self", "text"] (m_ThingSigns___init__ cs) := ⟨f_ThingSigns___init__, fd_ThingSigns___init__, ok_ThingSigns___init__ T F_ThingSigns___init__ c_NoText___init__, g_ThingSigns___init__, b_ThingSigns___init__⟩
  have c_ThingSigns_coming : CalleeM K mg P w base cs.ThingSigns "coming" 2 ["self"] (m_ThingSigns_coming cs) := ⟨f_ThingSigns_coming, fd_ThingSigns_coming, ok_ThingSigns_coming T F_ThingSigns_coming , g_ThingSigns_coming, b_ThingSigns_coming⟩
  have c_ThingSigns_is_over : CalleeM K mg P w base cs.ThingSigns "is_over" 2 ["self"] (m_ThingSigns_is_over cs) := ⟨f_ThingSigns_is_over, fd_ThingSigns_is_over, ok_ThingSigns_is_over T F_ThingSigns_is_over , g_ThingSigns_is_over, b_ThingSigns_is_over⟩
  have c_ThingSigns_take_all : CalleeM K mg P w base cs.ThingSigns "take_all" 3 ["self", "wanted"] (m_ThingSigns_take_all cs) := ⟨f_ThingSigns_take_all, fd_ThingSigns_take_all, ok_ThingSigns_take_all T F_ThingSigns_take_all c_ThingSigns_coming, g_ThingSigns_take_all, b_ThingSigns_take_all⟩
  have c_ThingSigns_has_text : CalleeM K mg P w base cs.ThingSigns "has_text" 2 ["self", "wanted"] (m_ThingSigns_has_text cs) := ⟨f_ThingSigns_has_text, fd_ThingSigns_has_text, ok_ThingSigns_has_text T F_ThingSigns_has_text , g_ThingSigns_has_text, b_ThingSigns_has_text⟩
  have c_ThingSigns_take_text : CalleeM K mg P w base cs.ThingSigns "take_text" 4 ["self", "wanted"] (m_ThingSigns_take_text cs) := ⟨f_ThingSigns_take_text, fd_ThingSigns_take_text, ok_ThingSigns_take_text T F_ThingSigns_take_text c_NoText___init__ c_ThingSigns_has_text, g_ThingSigns_take_text, b_ThingSigns_take_text⟩
  have c_ThingSigns_take_number : CalleeM K mg P w base cs.ThingSigns "take_number" 4 ["self"] (m_ThingSigns_take_number cs) := ⟨f_ThingSigns_take_number, fd_ThingSigns_take_number, ok_ThingSigns_take_number T F_ThingSigns_take_number c_NoText___init__ c_ThingSigns_take_all, g_ThingSigns_take_number, b_ThingSigns_take_number⟩
  have c_ThingSigns_take_mark : CalleeM K mg P w base cs.ThingSigns "take_mark" 4 ["self"] (m_ThingSigns_take_mark cs) := ⟨f_ThingSigns_take_mark, fd_ThingSigns_take_mark, ok_ThingSigns_take_mark T F_ThingSigns_take_mark c_ThingSigns_coming c_ThingSigns_take_all, g_ThingSigns_take_mark, b_ThingSigns_take_mark⟩
  have h_ThingSigns_take_row := okr_ThingSigns_take_row (P := P) (w := w) (base := base) T F_ThingSigns_take_row g_ThingSigns_take_row b_ThingSigns_take_row F_ThingSigns_take_one g_ThingSigns_take_one b_ThingSigns_take_one c_NoText___init__ c_ThingSigns_coming c_ThingSigns_is_over c_ThingSigns_has_text c_ThingSigns_take_text c_ThingSigns_take_number c_ThingSigns_take_mark 130
  have c_ThingSigns_take_row : CalleeM K mg P w base cs.ThingSigns "take_row" 134 ["self", "deep"] (m_ThingSigns_take_row cs) := ⟨f_ThingSigns_take_row, fd_ThingSigns_take_row, h_ThingSigns_take_row.1, g_ThingSigns_take_row, b_ThingSigns_take_row⟩
  have c_ThingSigns_take_one : CalleeM K mg P w base cs.ThingSigns "take_one" 134 ["self", "deep"] (m_ThingSigns_take_one cs) := ⟨f_ThingSigns_take_one, fd_ThingSigns_take_one, h_ThingSigns_take_row.2, g_ThingSigns_take_one, b_ThingSigns_take_one⟩
  have c_is_row : Callee K mg P w base "is_row" 2 ["thing"] m_is_row := ⟨f_is_row, fd_is_row, ok_is_row T F_is_row , g_is_row, F_is_row.kp, b_is_row⟩
  have c_is_thing : Callee K mg P w base "is_thing" 4 ["thing"] m_is_thing := ⟨f_is_thing, fd_is_thing, ok_is_thing T F_is_thing c_is_worth c_is_mark c_is_row, g_is_thing, F_is_thing.kp, b_is_thing⟩
  have c_is_call : Callee K mg P w base "is_call" 5 ["thing"] m_is_call := ⟨f_is_call, fd_is_call, ok_is_call T F_is_call c_is_name c_is_row c_is_thing, g_is_call, F_is_call.kp, b_is_call⟩
  have h_row_text := okr_row_text (P := P) (w := w) (base := base) T F_row_text g_row_text b_row_text F_thing_text g_thing_text b_thing_text  130
  have c_row_text : Callee K mg P w base "row_text" 131 ["things"] m_row_text := ⟨f_row_text, fd_row_text, h_row_text.1, g_row_text, F_row_text.kp, b_row_text⟩
  have c_thing_text : Callee K mg P w base "thing_text" 131 ["thing"] m_thing_text := ⟨f_thing_text, fd_thing_text, h_row_text.2, g_thing_text, F_thing_text.kp, b_thing_text⟩
  have c_call_text : Callee K mg P w base "call_text" 132 ["call"] m_call_text := ⟨f_call_text, fd_call_text, ok_call_text T F_call_text c_row_text, g_call_text, F_call_text.kp, b_call_text⟩
  have c_ThingSigns_take_call : CalleeM K mg P w base cs.ThingSigns "take_call" 135 ["self"] (m_ThingSigns_take_call cs) := ⟨f_ThingSigns_take_call, fd_ThingSigns_take_call, ok_ThingSigns_take_call T F_ThingSigns_take_call c_ThingSigns_take_all c_ThingSigns_has_text c_ThingSigns_take_text c_ThingSigns_take_row, g_ThingSigns_take_call, b_ThingSigns_take_call⟩
  have c_read_call : Callee K mg P w base "read_call" 136 ["text"] (m_read_call cs) := ⟨f_read_call, fd_read_call, ok_read_call T F_read_call c_NoText___init__ c_ThingSigns___init__ c_ThingSigns_is_over c_is_call c_ThingSigns_take_call, g_read_call, F_read_call.kp, b_read_call⟩
  have c__law_begun : Callee K mg P w base "_law_begun" 2 ["_law_cell", "_law_k"] m__law_begun := ⟨f__law_begun, fd__law_begun, ok__law_begun T F__law_begun , g__law_begun, F__law_begun.kp, b__law_begun⟩
  have c__law_next : Callee K mg P w base "_law_next" 2 ["_law_draw", "_law_size"] m__law_next := ⟨f__law_next, fd__law_next, ok__law_next T F__law_next , g__law_next, F__law_next.kp, b__law_next⟩
  have c__law_pick : Callee K mg P w base "_law_pick" 3 ["_law_draw", "_law_some"] m__law_pick := ⟨f__law_pick, fd__law_pick, ok__law_pick T F__law_pick c__law_next, g__law_pick, F__law_pick.kp, b__law_pick⟩
  have c__law_number : Callee K mg P w base "_law_number" 3 ["_law_draw"] m__law_number := ⟨f__law_number, fd__law_number, ok__law_number T F__law_number c__law_next, g__law_number, F__law_number.kp, b__law_number⟩
  have c__law_mark : Callee K mg P w base "_law_mark" 4 ["_law_draw"] m__law_mark := ⟨f__law_mark, fd__law_mark, ok__law_mark T F__law_mark c__law_next c__law_pick, g__law_mark, F__law_mark.kp, b__law_mark⟩
  have c__law_mark_alone : Callee K mg P w base "_law_mark_alone" 5 ["_law_draw"] m__law_mark_alone := ⟨f__law_mark_alone, fd__law_mark_alone, ok__law_mark_alone T F__law_mark_alone c__law_mark, g__law_mark_alone, F__law_mark_alone.kp, b__law_mark_alone⟩
  have h__law_of_points := okr__law_of_points (P := P) (w := w) (base := base) T F__law_of_points g__law_of_points b__law_of_points c__law_next c__law_number c__law_mark c__law_mark_alone 70
  have c__law_of_points : Callee K mg P w base "_law_of_points" 75 ["_law_draw", "_law_many"] m__law_of_points := ⟨f__law_of_points, fd__law_of_points, h__law_of_points, g__law_of_points, F__law_of_points.kp, b__law_of_points⟩
  have h__law_text := okr__law_text (P := P) (w := w) (base := base) T F__law_text g__law_text b__law_text  80
  have c__law_text : Callee K mg P w base "_law_text" 81 ["_law_thing"] m__law_text := ⟨f__law_text, fd__law_text, h__law_text, g__law_text, F__law_text.kp, b__law_text⟩
  have h__law_thing_at := okr__law_thing_at (P := P) (w := w) (base := base) T F__law_thing_at g__law_thing_at b__law_thing_at F__law_row_at g__law_row_at b__law_row_at  130
  have c__law_thing_at : Callee K mg P w base "_law_thing_at" 131 ["_law_text_here", "_law_at", "_law_deep"] m__law_thing_at := ⟨f__law_thing_at, fd__law_thing_at, h__law_thing_at.1, g__law_thing_at, F__law_thing_at.kp, b__law_thing_at⟩
  have c__law_row_at : Callee K mg P w base "_law_row_at" 131 ["_law_text_here", "_law_at", "_law_deep"] m__law_row_at := ⟨f__law_row_at, fd__law_row_at, h__law_thing_at.2, g__law_row_at, F__law_row_at.kp, b__law_row_at⟩
  have h__law_count := okr__law_count (P := P) (w := w) (base := base) T F__law_count g__law_count b__law_count  80
  have c__law_count : Callee K mg P w base "_law_count" 81 ["_law_thing"] m__law_count := ⟨f__law_count, fd__law_count, h__law_count, g__law_count, F__law_count.kp, b__law_count⟩
  have c__law_spoilt : Callee K mg P w base "_law_spoilt" 4 ["_law_draw", "_law_text_here"] m__law_spoilt := ⟨f__law_spoilt, fd__law_spoilt, ok__law_spoilt T F__law_spoilt c__law_next c__law_pick, g__law_spoilt, F__law_spoilt.kp, b__law_spoilt⟩
  have c__law_call_of : Callee K mg P w base "_law_call_of" 132 ["_law_text_here"] m__law_call_of := ⟨f__law_call_of, fd__law_call_of, ok__law_call_of T F__law_call_of c__law_row_at c__law_count, g__law_call_of, F__law_call_of.kp, b__law_call_of⟩
  have c__law_refused : Callee K mg P w base "_law_refused" 137 ["_law_text_here"] (m__law_refused cs) := ⟨f__law_refused, fd__law_refused, ok__law_refused T F__law_refused c_read_call, g__law_refused, F__law_refused.kp, b__law_refused⟩
  have c__law_read_right : CalleeG K mg P w base "_law_read_right" 138 ["_law_text_here"] (m__law_read_right cs) := ⟨f__law_read_right, fd__law_read_right, ok__law_read_right T F__law_read_right c_read_call c__law_call_of c__law_refused, g__law_read_right, F__law_read_right.kp, b__law_read_right⟩
  have c__law_right : CalleeG K mg P w base "_law_right" 139 ["_law_cell", "_law_k"] (m__law_right cs) := ⟨f__law_right, fd__law_right, ok__law_right T F__law_right c_call_text c__law_begun c__law_next c__law_pick c__law_of_points c__law_text c__law_spoilt c__law_refused c__law_read_right, g__law_right, F__law_right.kp, b__law_right⟩
  exact ok_law T F_law c__law_right
end K04

namespace K04
open PySem PySem.Spec PyProof.Rows L2 Gm
/-! ### the draws -/
theorem begun_ok (cell k : Int) (hk : 0 ≤ k ∧ k ≤ 100) : ∃ ds, m__law_begun [.d (.int cell), .d (.int k)] = .ok (.lst ds) [.d (.int cell), .d (.int k)] ∧ Dr 0 ds := by
  have h0 : (0 : Int) ≤ cell % 2147483647 := Int.emod_nonneg _ (by decide)
  have h1 : cell % 2147483647 < 2147483647 := Int.emod_lt_of_pos _ (by decide)
  generalize hx : cell % 2147483647 = x at h0 h1
  have hp : (x * 48271 + 104729 * k + 7).natAbs < 2 ^ 64 := by omega
  have hs0 : (0 : Int) ≤ (x * 48271 + 104729 * k + 7) ^ 3 % 2147483629 := Int.emod_nonneg _ (by decide)
  have hs1 : (x * 48271 + 104729 * k + 7) ^ 3 % 2147483629 < 2147483629 := Int.emod_lt_of_pos _ (by decide)
  have e10 : (10 : Int) ^ 18 = 1000000000000000000 := by decide
  by_cases hc : 1000000000000000000 ≤ cell
  · refine ⟨[.int (cell - 1000000000000000000), .int (1 + (x * 48271 + 104729 * k + 7) ^ 3 % 2147483629), .int 0], ?_, _, _, _, rfl, by omega, by omega, by omega, by omega, by omega⟩
    have c1 : -18446744073709551616 < x ∧ x < 18446744073709551616 := by omega
    have c2 : (x * 48271 + 104729 * k + 7).natAbs < 18446744073709551616 := by omega
    simp [m__law_begun, b__law_begun, hx, hp, hc, c1, c2]
  · refine ⟨[.int 0, .int (1 + (x * 48271 + 104729 * k + 7) ^ 3 % 2147483629), .int 0], ?_, _, _, _, rfl, by omega, by omega, by omega, by omega, by omega⟩
    have c1 : -18446744073709551616 < x ∧ x < 18446744073709551616 := by omega
    have c2 : (x * 48271 + 104729 * k + 7).natAbs < 18446744073709551616 := by omega
    simp [m__law_begun, b__law_begun, hx, hp, hc, c1, c2]
theorem next_ok {k : Nat} {ds : List D} {n : Int} (h : Dr k ds) (hn : 0 < n) (hn2 : n ≤ 1000000000) (hk : k ≤ 10000000) :
    ∃ r ds', m__law_next [.lst ds, .d (.int n)] = .ok (.d (.int r)) [.lst ds', .d (.int n)] ∧ 0 ≤ r ∧ r < n ∧ Dr (k + 1) ds' := by
  obtain ⟨a, s, c, rfl, h1, h2, h3, h4, h5⟩ := h
  by_cases ha : 0 < a
  · refine ⟨a % n, [.int (a / n), .int s, .int c], ?_, Int.emod_nonneg _ (by omega), Int.emod_lt_of_pos _ hn, a / n, s, c, rfl, Int.ediv_nonneg h1 (by omega), h2, h3, h4, by omega⟩
    simp [m__law_next, b__law_next, ha, hn, show n < 1073741824 by omega]
  · have hb : s * (2 * (c + 1) + 1) ≤ 2147483648 * 20000003 := Int.mul_le_mul (by omega) (by omega) (by omega) (by omega)
    have hb0 : 0 ≤ s * (2 * (c + 1) + 1) := Int.mul_nonneg (by omega) (by omega)
    have hc : 7919 * (c + 1) * (c + 1) ≤ 7919 * 10000001 * 10000001 := Int.mul_le_mul (by omega) (by omega) (by omega) (by omega)
    have hc0 : 0 ≤ 7919 * (c + 1) * (c + 1) := Int.mul_nonneg (by omega) (by omega)
    have hp : (s * (2 * (c + 1) + 1) + 7919 * (c + 1) * (c + 1) + 11).natAbs < 18446744073709551616 := by omega
    have c1 : -18446744073709551616 < s ∧ s < 18446744073709551616 := by omega
    have c2 : -18446744073709551616 < c + 1 ∧ c + 1 < 18446744073709551616 := by omega
    have hm0 : (0 : Int) ≤ (s * (2 * (c + 1) + 1) + 7919 * (c + 1) * (c + 1) + 11) ^ 5 % 2147483647 := Int.emod_nonneg _ (by decide)
    refine ⟨(s * (2 * (c + 1) + 1) + 7919 * (c + 1) * (c + 1) + 11) ^ 5 % 2147483647 / 11 % n, [.int a, .int s, .int (c + 1)], ?_, Int.emod_nonneg _ (by omega), Int.emod_lt_of_pos _ hn, a, s, c + 1, rfl, h1, h2, h3, by omega, by omega⟩
    simp [m__law_next, b__law_next, ha, hn, c1, c2, hp]
theorem pickL_ok {k : Nat} {ds xs : List D} (h : Dr k ds) (hx : 0 < xs.length) (hx2 : xs.length ≤ 100000) (hk : k ≤ 10000000) :
    ∃ x ds', m__law_pick [.lst ds, .d (.fl xs)] = .ok (.d x) [.lst ds', .d (.fl xs)] ∧ x ∈ xs ∧ Dr (k + 1) ds' := by
  obtain ⟨r, ds', e, h0, h1, h2⟩ := next_ok (n := xs.length) h (by omega) (by omega) hk
  obtain ⟨x, hm, hi⟩ := atI_mem h0 h1
  exact ⟨x, ds', by simp [m__law_pick, b__law_pick, e, hi], hm, h2⟩
theorem pickS_ok {k : Nat} {ds : List D} {z : Str} (h : Dr k ds) (hx : 0 < z.length) (hx2 : z.length ≤ 100000) (hk : k ≤ 10000000) :
    ∃ c ds', m__law_pick [.lst ds, .d (.str z)] = .ok (.d (.str ⟨#[c]⟩)) [.lst ds', .d (.str z)] ∧ c ∈ z.cps.toList ∧ Dr (k + 1) ds' := by
  obtain ⟨r, ds', e, h0, h1, h2⟩ := next_ok (n := z.length) h (by omega) (by omega) hk
  obtain ⟨x, hm, hi⟩ := atI_mem (xs := z.cps.toList) h0 h1
  have hz : z.length ≤ sizeLine := Nat.le_trans hx2 (by decide)
  exact ⟨x, ds', by simp [m__law_pick, b__law_pick, hz, e, hi], hm, h2⟩
/-! ### names and marks -/
abbrev zSmall : Str := PySem.Str.ofString "abcdefghijklmnopqrstuvwxyz"
abbrev zGreat : Str := PySem.Str.ofString "ABCDEFGHIJKLMNOPQRSTUVWXYZ"
def wTaken : List D := [(.str (PySem.Str.ofString "else")), (.str (PySem.Str.ofString "fun")), (.str (PySem.Str.ofString "if")), (.str (PySem.Str.ofString "in")), (.str (PySem.Str.ofString "let")), (.str (PySem.Str.ofString "then"))]
def allIn (z : Str) (cs : List Nat) : Bool := cs.all fun c => decide (c ∈ z.cps.toList)
def inSome (s : Str) : Bool := (toPys wTaken).any fun y => PyData.eqv y (.str s)
theorem taken_ok {s : Str} (h : PyData.strOk s = true) : oInL (.str s) wTaken = some (inSome s) := by
  have h1 : PyData.canLayAll0 (toPys wTaken) = true := by decide +kernel
  have h2 : eqOk (.str s) = true := by
    simp only [eqOk, toPy, PyData.canLay0, h, PyData.depth, Bool.true_and]
    decide
  unfold oInL
  rw [h1, h2]
  rfl
theorem c_taken : c_TAKEN_WORDS = .tup wTaken := rfl
theorem all_small_ok {s : Str} (h : s.length ≤ 100000) : m_all_small [.d (.str s)] = .ok (.d (.bl (allIn zSmall s.cps.toList))) [.d (.str s)] := by
  have hl : lcR (putD 1) gYes (g2 oIn (gVar 1) (gC c_LETTERS)) [1] (signsD s) [] [some (.d (.str s)), none] = .ok ((s.cps.toList.filter fun _ => true).map fun c => .bl (decide (c ∈ zSmall.cps.toList))) [some (.d (.str s)), none] :=
    lcR_signs (fun _ => true) (fun c => .bl (decide (c ∈ zSmall.cps.toList))) h fun c hc =>
      ⟨[some (.d (.str s)), some (.d (.str ⟨#[c]⟩))], _, by simp [putD], rfl, fun _ => ⟨_, by simp [c_LETTERS]; rfl, by simp⟩, fun e => by cases e⟩
  rw [List.filter_eq_self.mpr fun _ _ => rfl] at hl
  simp [m_all_small, b_all_small, hl, blsD_map, allIn]
/-- a text of one of the first signs, and none to five of the rest -/
def isWord (first rest s : Str) : Bool := decide (0 < s.length ∧ s.length < 7) && (match s.cps.toList with
  | [] => false
  | c :: cs => decide (c ∈ first.cps.toList) && allIn rest cs)
def isNameD : D → Bool
  | .str s => isWord zSmall zSmall s && !inSome s
  | _ => false
def isMarkD : D → Bool
  | .str s => isWord zGreat zSmall s
  | _ => false
/-- what a thing must be so that it may be looked at -/
def TextOk : D → Prop
  | .str s => SOk 100000 s
  | _ => True
theorem is_name_ok {x : D} (h : TextOk x) : m_is_name [.d x] = .ok (.d (.bl (isNameD x))) [.d x] := by
  cases x with
  | str s =>
    have hz : s.length ≤ sizeLine := Nat.le_trans h.2 (by decide)
    have ht := taken_ok h.1
    have ha := all_small_ok h.2
    have hw : isWord zSmall zSmall s = (decide (0 < s.length ∧ s.length < 7) && allIn zSmall s.cps.toList) := by
      unfold isWord
      rw [str_len]
      cases s.cps.toList <;> simp [allIn]
    by_cases h1 : (1 : Int) ≤ s.length
    · by_cases h2 : (s.length : Int) ≤ 6
      · have h3 : 0 < s.length ∧ s.length < 7 := by omega
        cases hi : inSome s <;> simp [m_is_name, b_is_name, hz, c_MOST_LETTERS, c_taken, h1, h2, ht, hi, ha, isNameD, hw, h3]
      · have h3 : ¬ (0 < s.length ∧ s.length < 7) := by omega
        simp [m_is_name, b_is_name, hz, c_MOST_LETTERS, h1, h2, isNameD, hw, h3]
    · have h3 : ¬ (0 < s.length ∧ s.length < 7) := by omega
      simp [m_is_name, b_is_name, hz, c_MOST_LETTERS, h1, isNameD, hw, h3]
  | _ => simp [m_is_name, b_is_name, isNameD]
theorem is_mark_ok {x : D} (h : TextOk x) : m_is_mark [.d x] = .ok (.d (.bl (isMarkD x))) [.d x] := by
  cases x with
  | str s =>
    have hz : s.length ≤ sizeLine := Nat.le_trans h.2 (by decide)
    have ha := all_small_ok (h.cut (some 1) none).2
    rw [cutS_tail] at ha
    by_cases h1 : (1 : Int) ≤ s.length
    · by_cases h2 : (s.length : Int) ≤ 6
      · cases e : s.cps.toList with
        | nil => rw [str_len, e] at h1; simp at h1
        | cons c cs =>
          rw [e] at ha
          have h3 : 0 < s.length ∧ s.length < 7 := by omega
          by_cases hg : c ∈ zGreat.cps.toList
          · simp [m_is_mark, b_is_mark, hz, c_MOST_LETTERS, c_GREAT_LETTERS, h1, h2, e, hg, ha, isMarkD, isWord, h3]
          · simp [m_is_mark, b_is_mark, hz, c_MOST_LETTERS, c_GREAT_LETTERS, h1, h2, e, hg, isMarkD, isWord, h3]
      · have h3 : ¬ (0 < s.length ∧ s.length < 7) := by omega
        simp [m_is_mark, b_is_mark, hz, c_MOST_LETTERS, h1, h2, isMarkD, isWord, h3]
    · have h3 : ¬ (0 < s.length ∧ s.length < 7) := by omega
      simp [m_is_mark, b_is_mark, hz, c_MOST_LETTERS, h1, isMarkD, isWord, h3]
  | _ => simp [m_is_mark, b_is_mark, isMarkD]
/-! ### numbers, marks and things drawn -/
theorem number_ok {k : Nat} {ds : List D} (h : Dr k ds) (hk : k + 3 ≤ 10000000) : ∃ (i : Int) (ds' : List D), m__law_number [.lst ds] = .ok (.d (.int i)) [.lst ds'] ∧ 0 ≤ i ∧ i ≤ 1000000000 ∧ Dr (k + 3) ds' := by
  obtain ⟨r1, d1, e1, a1, b1, h1⟩ := next_ok (n := 8) h (by omega) (by omega) (by omega)
  obtain ⟨r2, d2, e2, a2, b2, h2⟩ := next_ok (n := 5) h1 (by omega) (by omega) (by omega)
  have p9 : (10 : Int) ^ 9 = 1000000000 := by decide
  by_cases c7 : r1 = 7
  · exact ⟨1000000000 - r2, d2, by simp [m__law_number, b__law_number, e1, e2, c7, p9], by omega, by omega, h2.mono (by omega)⟩
  · by_cases c6 : r1 = 6
    · obtain ⟨r3, d3, e3, a3, b3, h3⟩ := next_ok (n := 1000000000) h2 (by omega) (by omega) (by omega)
      exact ⟨r3, d3, by simp [m__law_number, b__law_number, e1, e2, e3, c6, p9], a3, by omega, h3⟩
    · exact ⟨r2, d2, by simp [m__law_number, b__law_number, e1, e2, c7, c6], a2, by omega, h2.mono (by omega)⟩
def MarkOk (m : Str) : Prop := SOk 6 m ∧ isWord zGreat zSmall m = true
theorem small_ok : SOk 1000 zSmall := ⟨by decide +kernel, by decide +kernel⟩
theorem great_ok : SOk 1000 zGreat := ⟨by decide +kernel, by decide +kernel⟩
theorem zSmall_len : zSmall.length = 26 := by decide +kernel
theorem zGreat_len : zGreat.length = 26 := by decide +kernel
theorem oAdd_strs {a b : Str} {m n : Nat} (ha : SOk m a) (hb : SOk n b) (h : m + n ≤ 100000) : oAdd (.str a) (.str b) = some (.str (a ++ b)) := by
  have h1 := ha.2
  have h2 := hb.2
  rw [oAdd_str, if_pos (Nat.le_trans (show a.length + b.length ≤ 100000 by omega) (by decide))]
theorem oIx_sign {z : Str} {i : Int} (hz : z.length ≤ 100000) (h0 : 0 ≤ i) (h1 : i < z.length) : ∃ c, c ∈ z.cps.toList ∧ oIx (.str z) (.int i) = some (.str ⟨#[c]⟩) := by
  obtain ⟨c, h2, h3⟩ := atI_mem (xs := z.cps.toList) h0 h1
  exact ⟨c, h2, by rw [oIx_str, if_pos (Nat.le_trans hz (by decide)), h3]; rfl⟩
theorem mark_made {c : Nat} {cs : List Nat} (hc : c ∈ zGreat.cps.toList) (h : ∀ d ∈ cs, d ∈ zSmall.cps.toList) (hl : cs.length ≤ 5) : MarkOk (⟨#[c]⟩ ++ ⟨cs.toArray⟩) := by
  have o1 : SOk 1 ⟨#[c]⟩ := great_ok.sign hc
  have o2 : SOk 5 ⟨cs.toArray⟩ := sOk_of (fun d hd => strOkI.mp small_ok.1 d (h d hd)) hl
  have e : ((⟨#[c]⟩ : Str) ++ ⟨cs.toArray⟩).cps.toList = c :: cs := by rw [app_list]; rfl
  refine ⟨(o1.app o2).mono (by omega), ?_⟩
  have ha : allIn zSmall cs = true := by
    unfold allIn
    rw [List.all_eq_true]
    exact fun d hd => decide_eq_true (h d hd)
  unfold isWord
  rw [str_len, e]
  simp only [List.length_cons, ha, Bool.and_true, decide_eq_true hc]
  exact decide_eq_true ⟨by omega, by omega⟩
mutual
/-- a thing of so many points -/
inductive Th : Nat → D → Prop
  | num {i : Int} : 0 ≤ i → i ≤ 1000000000 → Th 1 (.int i)
  | mk {m : Str} {n : Nat} {ps : List D} : MarkOk m → ps.length ≤ 4 → Ths n ps → Th (n + 1) (.tup [.str m, .tup ps])
inductive Ths : Nat → List D → Prop
  | nil : Ths 0 []
  | cons {m n : Nat} {x : D} {xs : List D} : Th m x → Ths n xs → Ths (m + n) (x :: xs)
end
theorem Ths.app : ∀ {m n : Nat} {xs ys : List D}, Ths m xs → Ths n ys → Ths (m + n) (xs ++ ys)
  | _, _, _, _, .nil, h => by simpa using h
  | _, _, _, _, .cons h hs, h' => by
    rw [Nat.add_assoc]
    exact .cons h (Ths.app hs h')
theorem Ths.split : ∀ {n : Nat} (xs : List D) {ys : List D}, Ths n (xs ++ ys) → ∃ a b, Ths a xs ∧ Ths b ys ∧ a + b = n
  | _, [], _, h => ⟨0, _, .nil, h, by omega⟩
  | _, x :: xs, _, h => by
    cases h with
    | cons h hs =>
      obtain ⟨a, b, h1, h2, h3⟩ := Ths.split xs hs
      exact ⟨_, b, .cons h h1, h2, by omega⟩
theorem Ths.one {n : Nat} {x : D} (h : Th n x) : Ths n [x] := by
  have := Ths.cons h .nil
  simpa using this
theorem Ths.turn {n : Nat} {xs : List D} (t : Nat) (h : Ths n xs) : Ths n (xs.drop t ++ xs.take t) := by
  rw [← List.take_append_drop t xs] at h
  obtain ⟨a, b, h1, h2, h3⟩ := Ths.split (xs.take t) h
  have := h2.app h1
  rwa [show b + a = n by omega] at this
theorem mark_ok {k : Nat} {ds : List D} (h : Dr k ds) (hk : k + 10 ≤ 10000000) : ∃ m ds', m__law_mark [.lst ds] = .ok (.d (.str m)) [.lst ds'] ∧ MarkOk m ∧ Dr (k + 7) ds' := by
  obtain ⟨r1, d1, e1, a1, b1, h1⟩ := next_ok (n := 26) h (by omega) (by omega) (by omega)
  obtain ⟨c, hc, ec⟩ := oIx_sign (z := zGreat) (Nat.le_trans great_ok.2 (by omega)) a1 (by rw [zGreat_len]; omega)
  obtain ⟨x, d2, e2, a2, h2⟩ := pickL_ok (xs := [.int 0, .int 1, .int 5, .int 3]) h1 (by simp) (by simp) (by omega)
  obtain ⟨n, hn, hx⟩ : ∃ n : Nat, n ≤ 5 ∧ x = .int n := by
    simp only [List.mem_cons, List.not_mem_nil, or_false] at a2
    rcases a2 with rfl | rfl | rfl | rfl
    · exact ⟨0, by omega, rfl⟩
    · exact ⟨1, by omega, rfl⟩
    · exact ⟨5, by omega, rfl⟩
    · exact ⟨3, by omega, rfl⟩
  subst hx
  obtain ⟨ys, d3, q1, q2, q3, q4⟩ := lcR_thread (h := putD 3) (t := gYes) (e := (g2 oIx (gVar 1) (gToD (gCall m__law_next (gcCons (gcS 0) (gcCons (gcD (gC (.int 26))) gcNil)))))) (vs := [3]) (fun ds => [some (.lst ds), some (.d (.str zSmall)), some (.d (.str ⟨#[c]⟩)), none]) Dr (fun y => ∃ c, c ∈ zSmall.cps.toList ∧ y = .str ⟨#[c]⟩) 1 10000000 ((List.range n).map fun (i : Nat) => D.int (i : Int)) [] (k + 2) d2 (by simp; omega) h2 (by simp; omega) (by
    intro k s x hx hB hI
    obtain ⟨r, s', e, a, b, hd⟩ := next_ok (n := 26) hI (by omega) (by omega) (by omega)
    obtain ⟨c', hc', ec'⟩ := oIx_sign (z := zSmall) (Nat.le_trans small_ok.2 (by omega)) a (by rw [zSmall_len]; omega)
    exact ⟨[some (.lst s), some (.d (.str zSmall)), some (.d (.str ⟨#[c]⟩)), some (.d x)], .str ⟨#[c']⟩, s', [some (.lst s'), some (.d (.str zSmall)), some (.d (.str ⟨#[c]⟩)), some (.d x)], rfl, rfl, by simp [-oIx_str, e, ec'], rfl, ⟨c', hc', rfl⟩, hd⟩)
  simp only [List.length_map, List.length_range, Nat.one_mul] at q2 q4
  obtain ⟨cs, w1, w2, w3⟩ := joinD_signs (zs := zSmall.cps.toList) (strOkI.mp small_ok.1) q3 (by omega)
  have hm := mark_made hc w3 (by omega)
  have w0 : PySem.Str.ofString "" = (⟨#[]⟩ : Str) := rfl
  have o1 : SOk 1 ⟨#[c]⟩ := great_ok.sign hc
  have o2 : SOk 5 ⟨cs.toArray⟩ := sOk_of (fun d hd => strOkI.mp small_ok.1 d (w3 d hd)) (by omega)
  refine ⟨_, d3, ?_, hm, q4.mono (by omega)⟩
  simp at q1
  simp [m__law_mark, b__law_mark, -oIx_str, -oAdd_str, e1, e2, ec, q1, w0, w1, oAdd_strs o1 o2 (by omega), show (-100000 : Int) ≤ n ∧ (n : Int) ≤ 100000 by omega]
theorem mark_alone_ok {k : Nat} {ds : List D} (h : Dr k ds) (hk : k + 10 ≤ 10000000) : ∃ x ds', m__law_mark_alone [.lst ds] = .ok (.d x) [.lst ds'] ∧ Th 1 x ∧ Dr (k + 7) ds' := by
  obtain ⟨m, d1, e1, hm, h1⟩ := mark_ok h hk
  exact ⟨.tup [.str m, .tup []], d1, by simp [m__law_mark_alone, b__law_mark_alone, e1], .mk hm (by simp) .nil, h1⟩
theorem of_points_ok : ∀ (f many k : Nat) (ds : List D), 1 ≤ many → many ≤ f → many ≤ 1000 → Dr k ds → k + 20 * many ≤ 10000000 → ∃ x ds', mm__law_of_points f [.lst ds, .d (.int many)] = .ok (.d x) [.lst ds', .d (.int many)] ∧ Th many x ∧ Dr (k + 20 * many) ds' := by
  intro f
  induction f with
  | zero => intro many k ds h1 h2; omega
  | succ f ih =>
    intro many k ds h1 h2 h3 h hk
    by_cases c1 : many = 1
    · subst c1
      obtain ⟨r, d1, e1, a1, b1, g1⟩ := next_ok (n := 3) h (by omega) (by omega) (by omega)
      by_cases c0 : r = 0
      · obtain ⟨x, d2, e2, hx, g2⟩ := mark_alone_ok g1 (by omega)
        exact ⟨x, d2, by simp [mm__law_of_points, b__law_of_points, e1, c0, e2], hx, g2.mono (by omega)⟩
      · obtain ⟨x, d2, e2, hx, hx2, g2⟩ := number_ok g1 (by omega)
        exact ⟨.int x, d2, by simp [mm__law_of_points, b__law_of_points, e1, c0, e2], .num hx hx2, g2.mono (by omega)⟩
    · obtain ⟨p0, hp0, hp1, hp2, hp3⟩ : ∃ p0 : Nat, (if (many : Int) - 1 < 4 then (many : Int) - 1 else 4) = p0 ∧ 1 ≤ p0 ∧ p0 ≤ 4 ∧ p0 ≤ many - 1 := by
        by_cases c : (many : Int) - 1 < 4
        · exact ⟨many - 1, by rw [if_pos c]; omega, by omega, by omega, by omega⟩
        · exact ⟨4, by rw [if_neg c]; rfl, by omega, by omega, by omega⟩
      obtain ⟨r1, d1, e1, a1, b1, g1⟩ := next_ok (n := p0) h (by omega) (by omega) (by omega)
      obtain ⟨P, hP⟩ : ∃ P : Nat, 1 + r1 = P := ⟨(1 + r1).toNat, by omega⟩
      have hPa : 1 ≤ P := by omega
      have hPb : P ≤ 4 := by omega
      have hPc : P ≤ many - 1 := by omega
      obtain ⟨R, hR⟩ : ∃ R : Nat, (many : Int) - 1 - P = R := ⟨many - 1 - P, by omega⟩
      have loop := forR_rng (S := List D × Nat × List D × Option Ob × Option Ob) (h := putD 5)
        (b := (gSeq (gAsg 8 (gIfE (gTest (g2 oEq (gVar 5) (g2 oSub (gVar 2) (gC (.int 1))))) (gVar 3) (gToD (gCall m__law_next (gcCons (gcS 0) (gcCons (gcD (g2 oAdd (gVar 3) (gC (.int 1)))) gcNil))))))
  (gSeq (gAsg 3 (g2 oSub (gVar 3) (gVar 8)))
  (gApp 4 (gToD (gCall (mm__law_of_points f) (gcCons (gcS 0) (gcCons (gcD (g2 oAdd (gC (.int 1)) (gVar 8))) gcNil))))))))
        (fun s => [some (.lst s.1), some (.d (.int many)), some (.d (.int P)), some (.d (.int s.2.1)), some (.lst s.2.2.1), s.2.2.2.1, none, none, s.2.2.2.2])
        (fun i s => i ≤ P ∧ s.2.2.1.length = i ∧ ∃ t, Ths t s.2.2.1 ∧ t + (P - i) + s.2.1 = many - 1 ∧ (i = P → s.2.1 = 0) ∧ Dr (k + 2 + 20 * t + i) s.1) P (by
        rintro i ⟨ds, r, found, o5, o8⟩ hi ⟨hi2, hl, t, ht, hs, hz, hd⟩
        simp only at hl ht hs hz hd
        obtain ⟨more, d2, em, hm, hm2, gm⟩ : ∃ (more : Nat) (d2 : List D), (gIfE (gTest (g2 oEq (gVar 5) (g2 oSub (gVar 2) (gC (.int 1))))) (gVar 3) (gToD (gCall m__law_next (gcCons (gcS 0) (gcCons (gcD (g2 oAdd (gVar 3) (gC (.int 1)))) gcNil))))) [some (.lst ds), some (.d (.int many)), some (.d (.int P)), some (.d (.int r)), some (.lst found), some (.d (.int i)), none, none, o8] = .ok (.int more) [some (.lst d2), some (.d (.int many)), some (.d (.int P)), some (.d (.int r)), some (.lst found), some (.d (.int i)), none, none, o8] ∧ more ≤ r ∧ (i + 1 = P → more = r) ∧ Dr (k + 2 + 20 * t + i + 1) d2 := by
          by_cases c : i + 1 = P
          · have c' : (i : Int) = P - 1 := by omega
            exact ⟨r, ds, by simp [c'], Nat.le_refl _, fun _ => rfl, hd.mono (by omega)⟩
          · obtain ⟨r2, d2, e2, a2, b2, g2⟩ := next_ok (n := (r : Int) + 1) hd (by omega) (by omega) (by omega)
            obtain ⟨n2, rfl⟩ := Int.eq_ofNat_of_zero_le a2
            have c' : ¬ (i : Int) = P - 1 := by omega
            exact ⟨n2, d2, by simp [c', e2], by omega, fun z => absurd z c, g2⟩
        obtain ⟨x, d3, e3, hx, g3⟩ := ih (1 + more) _ d2 (by omega) (by omega) (by omega) gm (by omega)
        have e3' : mm__law_of_points f [.lst d2, .d (.int (1 + (more : Int)))] = .ok (.d x) [.lst d3, .d (.int (1 + (more : Int)))] := by
          rw [show (1 + (more : Int)) = ((1 + more : Nat) : Int) by omega]
          exact e3
        refine ⟨[some (.lst ds), some (.d (.int many)), some (.d (.int P)), some (.d (.int r)), some (.lst found), some (.d (.int i)), none, none, o8], (d3, r - more, found ++ [x], some (.d (.int i)), some (.d (.int more))), rfl, .inl ?_, by omega, by simp [hl], t + (1 + more), ht.app (Ths.one hx), by simp only; omega, fun z => by have := hm2 z; simp only; omega, g3.mono (by omega)⟩
        rw [gSeq_ap, gAsg_ap, em]
        simp [e3', show found.length ≤ 100000 by omega]
        omega)
      obtain ⟨⟨d2, r2, found, o5, o8⟩, q1, q2, q3, t, ht, q4, q5, q6⟩ := loop P 0 (d1, R, [], none, none) (by omega) ⟨by omega, rfl, 0, .nil, by simp only; omega, fun z => by omega, g1.mono (by omega)⟩
      simp only at q1 q3 ht q4 q5 q6
      obtain ⟨r3, d3, e3, a3, b3, g3⟩ := next_ok (n := P) q6 (by omega) (by omega) (by omega)
      obtain ⟨t3, rfl⟩ := Int.eq_ofNat_of_zero_le a3
      obtain ⟨m, d4, e4, hm, g4⟩ := mark_ok g3 (by omega)
      have hr2 := q5 trivial
      clear loop
      have hl1 : (found.drop t3).length + (found.take t3).length ≤ sizeLine := Nat.le_trans (show _ ≤ 100 by simp; omega) (by decide)
      refine ⟨.tup [.str m, .tup (found.drop t3 ++ found.take t3)], d4, ?_, ?_, g4.mono (by omega)⟩
      · have c1' : ¬ (many : Int) = 1 := by omega
        simp only [List.length_drop, List.length_take] at hl1
        simp [mm__law_of_points, b__law_of_points, c1', hp0, e1, hP, hR, rng_range, q1, e3, e4, cutD_drop, cutD_take, hl1, show (-100000 : Int) ≤ P ∧ (P : Int) ≤ 100000 by omega]
      · have := Th.mk hm (by simp; omega) (ht.turn t3)
        rwa [show t + 1 = many by omega] at this
/-! ### what is a thing -/
def shape : D → Option (List D)
  | .tup [m, .tup ps] => if isMarkD m && decide (ps.length ≤ 4) then some ps else none
  | _ => none
mutual
def dp : D → Nat
  | .tup xs => dps xs + 1
  | _ => 0
def dps : List D → Nat
  | [] => 0
  | x :: xs => max (dp x) (dps xs)
end
theorem dps_mem {x : D} : ∀ {xs : List D}, x ∈ xs → dp x ≤ dps xs
  | [], h => by cases h
  | y :: ys, h => by
    rw [dps]
    rcases List.mem_cons.mp h with rfl | h
    · exact Nat.le_max_left _ _
    · exact Nat.le_trans (dps_mem h) (Nat.le_max_right _ _)
theorem dps_le {n : Nat} : ∀ {xs : List D}, (∀ x ∈ xs, dp x ≤ n) → dps xs ≤ n
  | [], _ => by rw [dps]; omega
  | y :: ys, h => by
    rw [dps]
    exact Nat.max_le.mpr ⟨h y List.mem_cons_self, dps_le fun x hx => h x (List.mem_cons_of_mem _ hx)⟩
mutual
def TxOk : D → Prop
  | .str s => SOk 100000 s
  | .tup xs => TxOks xs
  | _ => True
def TxOks : List D → Prop
  | [] => True
  | x :: xs => TxOk x ∧ TxOks xs
end
theorem txOks_iff : ∀ {xs : List D}, TxOks xs ↔ ∀ x ∈ xs, TxOk x
  | [] => by simp [TxOks]
  | x :: xs => by simp [TxOks, txOks_iff (xs := xs)]
theorem TxOk.text {x : D} (h : TxOk x) : TextOk x := by
  cases x <;> first | exact trivial | (rw [TxOk] at h; exact h)
mutual
def pts : D → Nat
  | .int i => if 0 ≤ i ∧ i ≤ 1000000000 then 1 else 1000
  | .tup [m, .tup ps] => if isMarkD m && decide (ps.length ≤ 4) then 1 + ptss ps else 1000
  | _ => 1000
def ptss : List D → Nat
  | [] => 0
  | x :: xs => pts x + ptss xs
end
theorem ptss_app : ∀ xs ys : List D, ptss (xs ++ ys) = ptss xs + ptss ys
  | [], ys => by simp [ptss]
  | x :: xs, ys => by
    rw [List.cons_append, ptss, ptss, ptss_app xs ys]
    omega
theorem pts_shape {x : D} {ps : List D} (h : shape x = some ps) : pts x = 1 + ptss ps := by
  unfold shape at h
  split at h
  · split at h
    · cases h
      rename_i c
      simp only [pts, c, if_true]
    · cases h
  · cases h
theorem shape_len {x : D} {ps : List D} (h : shape x = some ps) : ps.length ≤ 4 := by
  unfold shape at h
  split at h
  · split at h
    · cases h
      rename_i c
      simp at c
      exact c.2
    · cases h
  · cases h
theorem shape_dp {x : D} {ps : List D} (h : shape x = some ps) : dps ps + 2 ≤ dp x := by
  unfold shape at h
  split at h
  · split at h
    · cases h
      simp only [dp, dps]
      omega
    · cases h
  · cases h
theorem shape_tx {x : D} {ps : List D} (h : shape x = some ps) (t : TxOk x) : TxOks ps := by
  unfold shape at h
  split at h
  · split at h
    · cases h
      simp only [TxOk, TxOks] at t
      exact t.2.1
    · cases h
  · cases h
theorem pts_none {x : D} (h : shape x = none) (hi : ∀ i, x ≠ .int i) : pts x = 1000 := by
  unfold pts
  split
  · exact absurd rfl (hi _)
  · split
    · rename_i c
      simp only [shape, c, if_true] at h
      cases h
    · rfl
  · rfl
theorem pts_pos (x : D) : 1 ≤ pts x := by
  unfold pts
  split
  · split <;> omega
  · split <;> omega
  · omega
theorem number_is {x : D} {a b : Int} : m_is_number [.d x, .d (.int a), .d (.int b)] = .ok (.d (.bl (match x with | .int i => decide (a ≤ i ∧ i ≤ b) | _ => false))) [.d x, .d (.int a), .d (.int b)] := by
  cases x with
  | int i =>
    by_cases h1 : a ≤ i
    · by_cases h2 : i ≤ b <;> simp [m_is_number, b_is_number, h1, h2]
    · simp [m_is_number, b_is_number, h1]
  | _ => simp [m_is_number, b_is_number]
def worthD : D → Bool
  | .int i => decide (0 ≤ i ∧ i ≤ 1000000000)
  | _ => false
theorem worth_is {x : D} : m_is_worth [.d x] = .ok (.d (.bl (worthD x))) [.d x] := by
  simp only [m_is_worth, b_is_worth, c_MOST_NUMBER]
  cases x <;> simp [number_is, worthD]
theorem row_is {x : D} : m_is_row [.d x] = .ok (.d (.bl (match x with | .tup ps => decide (ps.length ≤ 4) | _ => false))) [.d x] := by
  cases x with
  | tup ps =>
    have e : decide ((ps.length : Int) ≤ 4) = decide (ps.length ≤ 4) := by
      by_cases h : ps.length ≤ 4
      · rw [decide_eq_true h, decide_eq_true (by omega)]
      · rw [decide_eq_false h, decide_eq_false (by omega)]
    simp [m_is_row, b_is_row, c_MOST_PARTS, e]
  | _ => simp [m_is_row, b_is_row]
/-- the test whether a thing bears a mark and a row -/
theorem shape_test {x : D} (hx : TxOk x) {i : Nat} {Γ : Gm.Env} (h : Γ[i]? = some (some (.d x))) :
    (gOr (gNot (gTruth (gIsi "tuple" (gVar i)))) (gOr (gTest (g2 oNe (gCal oLen (gConsA (gVar i) gNilA)) (gC (.int 2)))) (gOr (gNot (gTruth (gToD (gCall m_is_mark (gcCons (gcD (g2 oIx (gVar i) (gC (.int 0)))) gcNil))))) (gNot (gTruth (gToD (gCall m_is_row (gcCons (gcD (g2 oIx (gVar i) (gC (.int 1)))) gcNil)))))))) Γ = .ok (shape x).isNone Γ := by
  cases x with
  | tup xs =>
    rw [TxOk] at hx
    match xs, hx with
    | [], _ => simp [h, shape]
    | [a], _ => simp [h, shape]
    | [m, p], hx =>
      have tm := (txOks_iff.mp hx m (by simp)).text
      cases hm : isMarkD m with
      | false => cases p <;> simp [h, is_mark_ok tm, hm, shape]
      | true =>
        cases p with
        | tup ps => by_cases hl : ps.length ≤ 4 <;> simp [h, is_mark_ok tm, hm, row_is, shape, hl]
        | _ => simp [h, is_mark_ok tm, hm, row_is, shape]
    | a :: b :: c :: r, _ =>
      have e : ¬ ((r.length : Int) + 1 + 1 + 1 = 2) := by omega
      simp [h, shape, e]
  | _ => simp [h, shape]
theorem shape_part {x : D} {ps : List D} (h : shape x = some ps) : ∃ m, x = .tup [m, .tup ps] ∧ isMarkD m = true := by
  unfold shape at h
  split at h
  · split at h
    · cases h
      rename_i c
      simp at c
      exact ⟨_, rfl, c.1⟩
    · cases h
  · cases h
theorem thing_loop {x0 : Option Ob} : ∀ (n many : Nat) (rest : List D) (o3 : Option Ob), many ≤ 60 → 61 - many < n → rest.length ≤ 4 * many + 1 → TxOks rest → ∃ Γ',
    whileR (gTest (gCmpS oNe (gSlot 1) (gOwnS (gLst gNilA)))) (gSeq (gAsg 3 (gPop 1))
  (gSeq (gAug (oI0 fun a b => .int (a + b)) 2 (gC (.int 1)))
  (gSeq (gIf (gTest (g2 oGt (gVar 2) (gC c_MOST_POINTS))) (gRetD (gC (.bl false))) gPass)
  (gSeq (gIf (gTruth (gToD (gCall m_is_worth (gcCons (gcD (gVar 3)) gcNil)))) gCt gPass)
  (gSeq (gIf (gOr (gNot (gTruth (gIsi "tuple" (gVar 3)))) (gOr (gTest (g2 oNe (gCal oLen (gConsA (gVar 3) gNilA)) (gC (.int 2)))) (gOr (gNot (gTruth (gToD (gCall m_is_mark (gcCons (gcD (g2 oIx (gVar 3) (gC (.int 0)))) gcNil))))) (gNot (gTruth (gToD (gCall m_is_row (gcCons (gcD (g2 oIx (gVar 3) (gC (.int 1)))) gcNil)))))))) (gRetD (gC (.bl false))) gPass)
  (gExt 1 (gDat (g2 oIx (gVar 3) (gC (.int 1)))))))))) n [x0, some (.lst rest), some (.d (.int many)), o3] = .ok (if many + ptss rest < 61 then .nx else .rt (.d (.bl false))) (x0 :: Γ') := by
  intro n
  induction n with
  | zero => intro many rest o3 h1 h2; omega
  | succ n ih =>
    intro many rest o3 h1 h2 h3 h4
    rcases nil_or_snoc rest with rfl | ⟨r, x, rfl⟩
    · refine ⟨[some (.lst []), some (.d (.int many)), o3], ?_⟩
      rw [whileR_end (Γ1 := [x0, some (.lst []), some (.d (.int many)), o3]) (by simp)]
      rw [if_pos (by rw [ptss]; omega)]
    · have hx : TxOk x := txOks_iff.mp h4 x (by simp)
      have hr : TxOks r := txOks_iff.mpr fun y hy => txOks_iff.mp h4 y (by simp [hy])
      have hl : r.length ≤ 4 * many := by simp at h3; omega
      have hp := pts_pos x
      have hs : ptss (r ++ [x]) = ptss r + pts x := by rw [ptss_app]; simp [ptss]
      rw [hs]
      by_cases c : many = 60
      · refine ⟨[some (.lst r), some (.d (.int 61)), some (.d x)], ?_⟩
        rw [whileR_ret (Γ1 := [x0, some (.lst (r ++ [x])), some (.d (.int many)), o3]) (Γ2 := [x0, some (.lst r), some (.d (.int 61)), some (.d x)]) (o := .d (.bl false)) (by simp) (by subst c; simp [c_MOST_POINTS])]
        rw [if_neg (by omega)]
      · have c2 : ¬ (60 : Int) < (many : Int) + 1 := by omega
        cases hw : worthD x with
        | true =>
          obtain ⟨Γ', q⟩ := ih (many + 1) r (some (.d x)) (by omega) (by omega) (by omega) hr
          refine ⟨Γ', ?_⟩
          rw [whileR_step (Γ1 := [x0, some (.lst (r ++ [x])), some (.d (.int many)), o3]) (Γ2 := [x0, some (.lst r), some (.d (.int ((many + 1 : Nat) : Int))), some (.d x)]) (fl := .ct) (by simp) (by simp [c_MOST_POINTS, c2, worth_is, hw]) (.inr rfl), q]
          have e : pts x = 1 := by
            cases x <;> simp [worthD] at hw
            simp [pts, hw]
          rw [e, show many + 1 + ptss r = many + (ptss r + 1) by omega]
        | false =>
          have ht := fun (Γ : Gm.Env) (h : Γ[3]? = some (some (.d x))) => shape_test hx h
          cases hsh : shape x with
          | none =>
            have e : pts x = 1000 := by
              by_cases hi : ∃ i, x = .int i
              · obtain ⟨i, rfl⟩ := hi
                simp [worthD] at hw
                simp [pts]
                omega
              · exact pts_none hsh fun i hi' => hi ⟨i, hi'⟩
            refine ⟨[some (.lst r), some (.d (.int ((many + 1 : Nat) : Int))), some (.d x)], ?_⟩
            rw [whileR_ret (Γ1 := [x0, some (.lst (r ++ [x])), some (.d (.int many)), o3]) (Γ2 := [x0, some (.lst r), some (.d (.int ((many + 1 : Nat) : Int))), some (.d x)]) (o := .d (.bl false)) (by simp) (by
              have ht' := ht [x0, some (.lst r), some (.d (.int ((many : Int) + 1))), some (.d x)] rfl
              rw [hsh] at ht'
              simp [-gOr_ap, c_MOST_POINTS, c2, worth_is, hw, ht'])]
            rw [if_neg (by omega)]
          | some ps =>
            have hpl := shape_len hsh
            obtain ⟨Γ', q⟩ := ih (many + 1) (r ++ ps) (some (.d x)) (by omega) (by omega) (by simp; omega) (txOks_iff.mpr fun y hy => (List.mem_append.mp hy).elim (txOks_iff.mp hr y) (txOks_iff.mp (shape_tx hsh hx) y))
            refine ⟨Γ', ?_⟩
            have hz : r.length + ps.length ≤ sizeLine := Nat.le_trans (show _ ≤ 1000 by omega) (by decide)
            rw [whileR_step (Γ1 := [x0, some (.lst (r ++ [x])), some (.d (.int many)), o3]) (Γ2 := [x0, some (.lst (r ++ ps)), some (.d (.int ((many + 1 : Nat) : Int))), some (.d x)]) (fl := .nx) (by simp) (by
              have ht' := ht [x0, some (.lst r), some (.d (.int ((many : Int) + 1))), some (.d x)] rfl
              rw [hsh] at ht'
              obtain ⟨m, rfl, hm⟩ := shape_part hsh
              simp [-gOr_ap, c_MOST_POINTS, c2, worth_is, hw, ht', hz]) (.inl rfl), q]
            rw [pts_shape hsh, ptss_app, show many + 1 + (ptss r + ptss ps) = many + (ptss r + (1 + ptss ps)) by omega]
theorem is_thing_ok {x : D} (h : TxOk x) : m_is_thing [.d x] = .ok (.d (.bl (decide (pts x < 61)))) [.d x] := by
  obtain ⟨Γ', q⟩ := thing_loop (x0 := some (.d x)) 70 0 [x] none (by omega) (by omega) (by simp) (by simp [TxOks, h])
  have hs : ptss [x] = pts x := by simp [ptss]
  rw [hs, Nat.zero_add] at q
  by_cases c : pts x < 61
  · rw [if_pos c] at q
    simp at q
    simp [m_is_thing, b_is_thing, q, c]
  · rw [if_neg c] at q
    simp at q
    simp [m_is_thing, b_is_thing, q, c]
/-! ### calls and answers -/
def isCallD : D → Bool
  | .tup [n, .tup ps] => isNameD n && decide (ps.length ≤ 4) && ps.all fun x => decide (pts x < 61)
  | _ => false
theorem is_call_ok {x : D} (t : TxOk x) : m_is_call [.d x] = .ok (.d (.bl (isCallD x))) [.d x] := by
  cases x with
  | tup xs =>
    match xs, t with
    | [], _ => simp [m_is_call, b_is_call, isCallD]
    | [a], _ => simp [m_is_call, b_is_call, isCallD]
    | a :: b :: c :: r, _ =>
      have e : ¬ ((r.length : Int) + 1 + 1 + 1 = 2) := by omega
      simp [m_is_call, b_is_call, isCallD, e]
    | [m, p], hx =>
      rw [TxOk] at hx
      have tm := (txOks_iff.mp hx m (by simp)).text
      cases hm : isNameD m with
      | false => cases p <;> simp [m_is_call, b_is_call, isCallD, is_name_ok tm, hm]
      | true =>
        cases p with
        | tup ps =>
          by_cases hl : ps.length ≤ 4
          · have ht : ∀ x ∈ ps, TxOk x := fun x hx' => by
              have h2 := txOks_iff.mp hx (.tup ps) (by simp)
              rw [TxOk] at h2
              exact txOks_iff.mp h2 x hx'
            have q := lcR_pure (h := putD 1) (t := gYes) (e := (gToD (gCall m_is_thing (gcCons (gcD (gVar 1)) gcNil)))) (vs := [1]) (Γ := [some (.d (.tup [m, .tup ps])), none]) (fun _ => true) (fun x => .bl (decide (pts x < 61))) ps [] (by simp; omega) (fun x hx' => ⟨[some (.d (.tup [m, .tup ps])), some (.d x)], _, rfl, rfl, fun _ => ⟨_, by simp [is_thing_ok (ht x hx')]; rfl, rfl⟩, fun z => by cases z⟩)
            rw [List.filter_eq_self.mpr fun _ _ => rfl, List.nil_append] at q
            simp [m_is_call, b_is_call, isCallD, is_name_ok tm, hm, row_is, hl, q, blsD_map, List.all_map]
          · simp [m_is_call, b_is_call, isCallD, is_name_ok tm, hm, row_is, hl]
        | _ => simp [m_is_call, b_is_call, isCallD, is_name_ok tm, hm, row_is]
  | _ => simp [m_is_call, b_is_call, isCallD]
/-! ### the two ways of reading, over codes -/
abbrev zFig : Str := PySem.Str.ofString "0123456789"
def isDig (c : Nat) : Bool := decide (c ∈ zFig.cps.toList)
def isGr (c : Nat) : Bool := decide (c ∈ zGreat.cps.toList)
def isSm (c : Nat) : Bool := decide (c ∈ zSmall.cps.toList)
def ofC (w : List Nat) : Str := ⟨w.toArray⟩
def valOf (w : List Nat) : Int := (PySem.intText? (ofC w)).getD 0
/-- one to ten figures, no nought ahead -/
def numOk (w : List Nat) : Bool := decide (w.length ≤ 10) && !(decide (w.head? = some 48) && decide (1 < w.length))
abbrev Rd := Option (D × List Nat)
def pMore (one : List Nat → Rd) : Nat → List Nat → Option (List D × List Nat)
  | 0, _ => none
  | k + 1, s => if s.take 2 = [44, 32] then (one (s.drop 2)).bind fun p => (pMore one k p.2).map fun q => (p.1 :: q.1, q.2)
    else if s.take 1 = [41] then some ([], s.drop 1) else none
def pRow (one : List Nat → Rd) (s : List Nat) : Option (List D × List Nat) := (one s).bind fun p => (pMore one 3000 p.2).map fun q => (p.1 :: q.1, q.2)
def markOf (c : Nat) (r : List Nat) : Str := ofC (c :: r.takeWhile isSm)
def oneP (one : List Nat → Rd) : List Nat → Rd
  | [] => none
  | c :: r => if isDig c then (if numOk ((c :: r).takeWhile isDig) then some (.int (valOf ((c :: r).takeWhile isDig)), (c :: r).dropWhile isDig) else none)
    else if isGr c then (if (r.dropWhile isSm).take 1 = [40] then (pRow one ((r.dropWhile isSm).drop 1)).map fun p => (.tup [.str (markOf c r), .tup p.1], p.2) else some (.tup [.str (markOf c r), .tup []], r.dropWhile isSm))
    else none
def pOne : Nat → List Nat → Rd
  | 0 => fun _ => none
  | d + 1 => oneP (pOne d)
def lRow (one : List Nat → Rd) (s : List Nat) : Option (List D × List Nat) := (pRow one s).bind fun p => if p.1.length < 5 then some p else none
def oneL (zero : Bool) (one : List Nat → Rd) : List Nat → Rd
  | [] => none
  | c :: r => if isDig c then (if numOk ((c :: r).takeWhile isDig) && decide (valOf ((c :: r).takeWhile isDig) ≤ 1000000000) then some (.int (valOf ((c :: r).takeWhile isDig)), (c :: r).dropWhile isDig) else none)
    else if isGr c && !zero then (if (markOf c r).length ≤ 6 then (if (r.dropWhile isSm).take 1 = [40] then (lRow one ((r.dropWhile isSm).drop 1)).map fun p => (.tup [.str (markOf c r), .tup p.1], p.2) else some (.tup [.str (markOf c r), .tup []], r.dropWhile isSm)) else none)
    else none
def lOne : Nat → List Nat → Rd
  | 0 => oneL true fun _ => none
  | d + 1 => oneL false (lOne d)
theorem tw_mem {p : Nat → Bool} {x : Nat} : ∀ {l : List Nat}, x ∈ l.takeWhile p → p x = true
  | [], h => by cases h
  | y :: l, h => by
    cases c : p y with
    | true =>
      rw [List.takeWhile_cons_of_pos c] at h
      rcases List.mem_cons.mp h with rfl | h
      · exact c
      · exact tw_mem h
    | false => rw [List.takeWhile_cons_of_neg (by simp [c])] at h; cases h
mutual
def okB : D → Bool
  | .int n => decide (0 ≤ n ∧ n ≤ 1000000000)
  | .tup [.str m, .tup ps] => decide (m.length ≤ 6) && decide (ps.length ≤ 4) && okBs ps
  | _ => false
def okBs : List D → Bool
  | [] => true
  | x :: xs => okB x && okBs xs
end
mutual
def hg : D → Nat
  | .tup [_, .tup ps] => 1 + hgs ps
  | _ => 1
def hgs : List D → Nat
  | [] => 0
  | x :: xs => max (hg x) (hgs xs)
end
mutual
def cn : D → Nat
  | .tup [_, .tup ps] => 1 + cns ps
  | _ => 1
def cns : List D → Nat
  | [] => 0
  | x :: xs => cn x + cns xs
end
mutual
/-- as it is read -/
def wfB : D → Bool
  | .int n => decide (0 ≤ n)
  | .tup [.str m, .tup ps] => (match m.cps.toList with | [] => false | c :: r => isGr c && r.all isSm) && wfBs ps
  | _ => false
def wfBs : List D → Bool
  | [] => true
  | x :: xs => wfB x && wfBs xs
end
theorem okBs_all : ∀ xs : List D, okBs xs = xs.all okB
  | [] => rfl
  | x :: xs => by rw [okBs, List.all_cons, okBs_all xs]
theorem wfBs_all : ∀ xs : List D, wfBs xs = xs.all wfB
  | [] => rfl
  | x :: xs => by rw [wfBs, List.all_cons, wfBs_all xs]
theorem hgs_le {n : Nat} : ∀ {xs : List D}, hgs xs ≤ n ↔ ∀ x ∈ xs, hg x ≤ n
  | [] => by simp [hgs]
  | x :: xs => by simp [hgs, Nat.max_le, hgs_le (xs := xs)]
/-- what the row's items are by two readers -/
theorem more_map {lo po : List Nat → Rd} {C : D → Prop} (h : ∀ s T r, lo s = some (T, r) → C T → po s = some (T, r)) : ∀ (k : Nat) (s : List Nat) (Ts : List D) (r : List Nat), pMore lo k s = some (Ts, r) → (∀ T ∈ Ts, C T) → pMore po k s = some (Ts, r) := by
  intro k
  induction k with
  | zero => intro s Ts r e _; cases e
  | succ k ih =>
    intro s Ts r e hC
    unfold pMore at e ⊢
    by_cases c : s.take 2 = [44, 32]
    · rw [if_pos c] at e ⊢
      obtain ⟨⟨T, r1⟩, e1, e2⟩ := Option.bind_eq_some_iff.mp e
      obtain ⟨⟨Ts', r2⟩, e3, e4⟩ := Option.map_eq_some_iff.mp e2
      cases e4
      rw [h _ _ _ e1 (hC T List.mem_cons_self)]
      show Option.map _ (pMore po k r1) = _
      rw [ih _ _ _ e3 fun T hT => hC T (List.mem_cons_of_mem _ hT)]
      rfl
    · rw [if_neg c] at e ⊢
      exact e
theorem more_all {lo : List Nat → Rd} {C : D → Prop} (h : ∀ s T r, lo s = some (T, r) → C T) : ∀ (k : Nat) (s : List Nat) (Ts : List D) (r : List Nat), pMore lo k s = some (Ts, r) → ∀ T ∈ Ts, C T := by
  intro k
  induction k with
  | zero => intro s Ts r e; cases e
  | succ k ih =>
    intro s Ts r e
    unfold pMore at e
    by_cases c : s.take 2 = [44, 32]
    · rw [if_pos c] at e
      obtain ⟨⟨T, r1⟩, e1, e2⟩ := Option.bind_eq_some_iff.mp e
      obtain ⟨⟨Ts', r2⟩, e3, e4⟩ := Option.map_eq_some_iff.mp e2
      cases e4
      intro T' hT
      rcases List.mem_cons.mp hT with rfl | hT
      · exact h _ _ _ e1
      · exact ih _ _ _ e3 T' hT
    · rw [if_neg c] at e
      split at e
      · cases e; intro T hT; cases hT
      · cases e
theorem row_map {lo po : List Nat → Rd} {C : D → Prop} (h : ∀ s T r, lo s = some (T, r) → C T → po s = some (T, r)) {s : List Nat} {Ts : List D} {r : List Nat} (e : pRow lo s = some (Ts, r)) (hC : ∀ T ∈ Ts, C T) : pRow po s = some (Ts, r) := by
  unfold pRow at e ⊢
  obtain ⟨⟨T, r1⟩, e1, e2⟩ := Option.bind_eq_some_iff.mp e
  obtain ⟨⟨Ts', r2⟩, e3, e4⟩ := Option.map_eq_some_iff.mp e2
  cases e4
  rw [h _ _ _ e1 (hC T List.mem_cons_self)]
  show Option.map _ (pMore po 3000 r1) = _
  rw [more_map h _ _ _ _ e3 fun T hT => hC T (List.mem_cons_of_mem _ hT)]
  rfl
theorem row_all {lo : List Nat → Rd} {C : D → Prop} (h : ∀ s T r, lo s = some (T, r) → C T) {s : List Nat} {Ts : List D} {r : List Nat} (e : pRow lo s = some (Ts, r)) : ∀ T ∈ Ts, C T := by
  unfold pRow at e
  obtain ⟨⟨T, r1⟩, e1, e2⟩ := Option.bind_eq_some_iff.mp e
  obtain ⟨⟨Ts', r2⟩, e3, e4⟩ := Option.map_eq_some_iff.mp e2
  cases e4
  intro T' hT
  rcases List.mem_cons.mp hT with rfl | hT
  · exact h _ _ _ e1
  · exact more_all h _ _ _ _ e3 T' hT
theorem okB_mark {m : Str} {ps : List D} (h1 : m.length ≤ 6) (h2 : ps.length ≤ 4) (h3 : ∀ p ∈ ps, okB p = true) : okB (.tup [.str m, .tup ps]) = true := by
  simp only [okB, okBs_all, Bool.and_eq_true, decide_eq_true_eq, List.all_eq_true]
  exact ⟨⟨h1, h2⟩, h3⟩
section
variable (hv : ∀ w : List Nat, w ≠ [] → w.all isDig = true → numOk w = true → 0 ≤ valOf w)
include hv
theorem dig_nonneg {c : Nat} {r : List Nat} (hc : isDig c = true) (hn : numOk ((c :: r).takeWhile isDig) = true) : 0 ≤ valOf ((c :: r).takeWhile isDig) := by
  refine hv _ ?_ ?_ hn
  · rw [List.takeWhile_cons_of_pos hc]; exact List.cons_ne_nil _ _
  · rw [List.all_eq_true]
    intro x hx
    exact tw_mem hx
/-- what the law reads, the program reads -/
theorem readA : ∀ (d : Nat) (s : List Nat) (T : D) (r : List Nat), lOne d s = some (T, r) → okB T = true ∧ (hg T ≤ d → pOne d s = some (T, r)) := by
  intro d
  induction d with
  | zero =>
    intro s T r e
    cases s with
    | nil => cases e
    | cons c s =>
      simp only [lOne, oneL] at e
      cases hc : isDig c with
      | true =>
        rw [hc] at e
        simp only [if_true] at e
        split at e
        · rename_i h
          cases e
          simp only [Bool.and_eq_true, decide_eq_true_eq] at h
          exact ⟨by simp only [okB, decide_eq_true_eq]; exact ⟨dig_nonneg hv hc h.1, h.2⟩, fun z => by simp [hg] at z⟩
        · cases e
      | false =>
        rw [hc] at e
        simp at e
  | succ d ih =>
    intro s T r e
    cases s with
    | nil => cases e
    | cons c s =>
      simp only [lOne, oneL] at e
      simp only [pOne, oneP]
      cases hc : isDig c with
      | true =>
        rw [hc] at e
        simp only [if_true] at e ⊢
        split at e
        · rename_i h
          cases e
          simp only [Bool.and_eq_true, decide_eq_true_eq] at h
          exact ⟨by simp only [okB, decide_eq_true_eq]; exact ⟨dig_nonneg hv hc h.1, h.2⟩, fun _ => by rw [if_pos h.1]⟩
        · cases e
      | false =>
        rw [hc] at e
        simp only [Bool.false_eq_true, if_false] at e ⊢
        cases hg1 : isGr c with
        | false => rw [hg1] at e; simp at e
        | true =>
          rw [hg1] at e
          simp only [Bool.not_false, Bool.and_self, if_true] at e ⊢
          split at e
          · rename_i hm
            split at e
            · rename_i hp
              obtain ⟨⟨Ts, r2⟩, e1, e2⟩ := Option.map_eq_some_iff.mp e
              cases e2
              unfold lRow at e1
              obtain ⟨⟨Ts2, r3⟩, e3, e4⟩ := Option.bind_eq_some_iff.mp e1
              split at e4
              · rename_i hl
                cases e4
                refine ⟨okB_mark hm (by omega) (row_all (fun s T r e => (ih s T r e).1) e3), fun z => ?_⟩
                rw [if_pos hp]
                rw [row_map (C := fun T => hg T ≤ d) (fun s T r e z => (ih s T r e).2 z) e3 (hgs_le.mp (by simp only [hg] at z; omega))]
                rfl
              · cases e4
            · rename_i hp
              cases e
              exact ⟨okB_mark hm (by simp) (by simp), fun _ => by rw [if_neg hp]⟩
          · cases e
omit hv in
/-- .. and what the program reads, where it is a thing but for its points, the law reads -/
theorem readB : ∀ (d : Nat) (s : List Nat) (T : D) (r : List Nat), pOne d s = some (T, r) → okB T = true → lOne d s = some (T, r) := by
  intro d
  induction d with
  | zero => intro s T r e; cases e
  | succ d ih =>
    intro s T r e ok
    cases s with
    | nil => cases e
    | cons c s =>
      simp only [pOne, oneP] at e
      simp only [lOne, oneL]
      cases hc : isDig c with
      | true =>
        rw [hc] at e
        simp only [if_true] at e ⊢
        split at e
        · rename_i h
          cases e
          simp only [okB, decide_eq_true_eq] at ok
          rw [if_pos (by simp only [Bool.and_eq_true, decide_eq_true_eq]; exact ⟨h, ok.2⟩)]
        · cases e
      | false =>
        rw [hc] at e
        simp only [Bool.false_eq_true, if_false] at e ⊢
        cases hg1 : isGr c with
        | false => rw [hg1] at e; simp at e
        | true =>
          rw [hg1] at e
          simp only [Bool.not_false, Bool.and_self, if_true] at e ⊢
          split at e
          · rename_i hp
            obtain ⟨⟨Ts, r2⟩, e1, e2⟩ := Option.map_eq_some_iff.mp e
            cases e2
            simp only [okB, okBs_all, Bool.and_eq_true, decide_eq_true_eq, List.all_eq_true] at ok
            rw [if_pos ok.1.1, if_pos hp]
            have q := row_map (C := fun T => okB T = true) (fun s T r e z => ih s T r e z) e1 ok.2
            unfold lRow
            rw [q]
            show Option.map _ (if Ts.length < 5 then some (Ts, r2) else none) = _
            rw [if_pos (by have := ok.1.2; omega)]
            rfl
          · rename_i hp
            cases e
            simp only [okB, Bool.and_eq_true, decide_eq_true_eq] at ok
            rw [if_pos ok.1.1, if_neg hp]
theorem read_wf : ∀ (d : Nat) (s : List Nat) (T : D) (r : List Nat), pOne d s = some (T, r) → wfB T = true := by
  intro d
  induction d with
  | zero => intro s T r e; cases e
  | succ d ih =>
    intro s T r e
    cases s with
    | nil => cases e
    | cons c s =>
      simp only [pOne, oneP] at e
      have mk : isGr c = true → ∀ Ts : List D, (∀ T ∈ Ts, wfB T = true) → wfB (.tup [.str (markOf c s), .tup Ts]) = true := fun hg Ts h => by
        simp only [wfB, wfBs_all, markOf, ofC, hg, Bool.true_and, Bool.and_eq_true, List.all_eq_true]
        exact ⟨fun x hx => tw_mem hx, h⟩
      cases hc : isDig c with
      | true =>
        rw [hc] at e
        simp only [if_true] at e
        split at e
        · rename_i h
          cases e
          simp only [wfB, decide_eq_true_eq]
          exact dig_nonneg hv hc h
        · cases e
      | false =>
        rw [hc] at e
        simp only [Bool.false_eq_true, if_false] at e
        cases hg1 : isGr c with
        | false => rw [hg1] at e; simp at e
        | true =>
          rw [hg1] at e
          simp only [if_true] at e
          split at e
          · obtain ⟨⟨Ts, r2⟩, e1, e2⟩ := Option.map_eq_some_iff.mp e
            cases e2
            exact mk hg1 _ (row_all (C := fun T => wfB T = true) (fun s T r e => ih s T r e) e1)
          · cases e
            exact mk hg1 _ (by simp)
end
/-! ### the reader -/
def sg (z : Str) : List Nat := z.cps.toList
theorem sg_len (z : Str) : (sg z).length = z.length := rfl
abbrev rd (cs : Cs) (z : Str) (i : Int) : Ob := .ins cs.ThingSigns [(PySem.Str.ofString "signs", .d (.str z)), (PySem.Str.ofString "here", .d (.int i))]
theorem ne_hs : (PySem.Str.ofString "here" == PySem.Str.ofString "signs") = false := by decide +kernel
theorem ne_sh : ¬ (PySem.Str.ofString "signs" = PySem.Str.ofString "here") := by decide +kernel
section
variable {a b c : Ob}
@[simp] theorem lk_signs : List.lookup (PySem.Str.ofString "signs") [(PySem.Str.ofString "signs", a), (PySem.Str.ofString "here", b)] = some a := by simp only [List.lookup, beq_self_eq_true]
@[simp] theorem lk_here : List.lookup (PySem.Str.ofString "here") [(PySem.Str.ofString "signs", a), (PySem.Str.ofString "here", b)] = some b := by simp only [List.lookup, ne_hs, beq_self_eq_true]
theorem lk_no {m : Str} (h1 : (m == PySem.Str.ofString "signs") = false) (h2 : (m == PySem.Str.ofString "here") = false) : List.lookup m [(PySem.Str.ofString "signs", a), (PySem.Str.ofString "here", b)] = none := by simp only [List.lookup, h1, h2]
@[simp] theorem lk_coming : List.lookup (PySem.Str.ofString "coming") [(PySem.Str.ofString "signs", a), (PySem.Str.ofString "here", b)] = none := lk_no (by decide +kernel) (by decide +kernel)
@[simp] theorem lk_is_over : List.lookup (PySem.Str.ofString "is_over") [(PySem.Str.ofString "signs", a), (PySem.Str.ofString "here", b)] = none := lk_no (by decide +kernel) (by decide +kernel)
@[simp] theorem lk_take_all : List.lookup (PySem.Str.ofString "take_all") [(PySem.Str.ofString "signs", a), (PySem.Str.ofString "here", b)] = none := lk_no (by decide +kernel) (by decide +kernel)
@[simp] theorem lk_has_text : List.lookup (PySem.Str.ofString "has_text") [(PySem.Str.ofString "signs", a), (PySem.Str.ofString "here", b)] = none := lk_no (by decide +kernel) (by decide +kernel)
@[simp] theorem lk_take_text : List.lookup (PySem.Str.ofString "take_text") [(PySem.Str.ofString "signs", a), (PySem.Str.ofString "here", b)] = none := lk_no (by decide +kernel) (by decide +kernel)
@[simp] theorem lk_take_number : List.lookup (PySem.Str.ofString "take_number") [(PySem.Str.ofString "signs", a), (PySem.Str.ofString "here", b)] = none := lk_no (by decide +kernel) (by decide +kernel)
@[simp] theorem lk_take_mark : List.lookup (PySem.Str.ofString "take_mark") [(PySem.Str.ofString "signs", a), (PySem.Str.ofString "here", b)] = none := lk_no (by decide +kernel) (by decide +kernel)
@[simp] theorem lk_take_one : List.lookup (PySem.Str.ofString "take_one") [(PySem.Str.ofString "signs", a), (PySem.Str.ofString "here", b)] = none := lk_no (by decide +kernel) (by decide +kernel)
@[simp] theorem lk_take_row : List.lookup (PySem.Str.ofString "take_row") [(PySem.Str.ofString "signs", a), (PySem.Str.ofString "here", b)] = none := lk_no (by decide +kernel) (by decide +kernel)
@[simp] theorem put_here : putO (PySem.Str.ofString "here") c [(PySem.Str.ofString "signs", a), (PySem.Str.ofString "here", b)] = [(PySem.Str.ofString "signs", a), (PySem.Str.ofString "here", c)] := by simp only [putO, if_neg ne_sh, if_true]
@[simp] theorem put_signs0 : putO (PySem.Str.ofString "signs") c [] = [(PySem.Str.ofString "signs", c)] := rfl
@[simp] theorem put_here0 : putO (PySem.Str.ofString "here") c [(PySem.Str.ofString "signs", a)] = [(PySem.Str.ofString "signs", a), (PySem.Str.ofString "here", c)] := by simp only [putO, if_neg ne_sh]
end
theorem ofC_sg (z : Str) : ofC (sg z) = z := str_ext (by simp [ofC, sg])
theorem sg_ofC (w : List Nat) : sg (ofC w) = w := by simp [ofC, sg]
theorem ofC_inj {a b : List Nat} : ofC a = ofC b ↔ a = b := ⟨fun h => by rw [← sg_ofC a, h, sg_ofC], fun h => by rw [h]⟩
/-- a slice from i on -/
theorem cut_at (z : Str) {i : Nat} (hi : i ≤ z.length) (k : Nat) {h h2 : Int} (e : h = (i : Int)) (e2 : h2 = ((i + k : Nat) : Int)) : cutS z (some h) (some h2) = ofC (((sg z).drop i).take k) := by
  subst e e2
  refine str_ext ?_
  rw [cutS_cps, HT.sIx_nat, HT.sIx_nat, Nat.min_eq_left hi]
  show ((sg z).drop i).take (min (i + k) z.length - i) = sg (ofC _)
  rw [sg_ofC]
  have hl : ((sg z).drop i).length = z.length - i := by rw [List.length_drop, sg_len]
  by_cases c : i + k ≤ z.length
  · rw [Nat.min_eq_left c, Nat.add_sub_cancel_left]
  · rw [Nat.min_eq_right (by omega), List.take_of_length_le (by omega), List.take_of_length_le (by omega)]
theorem sz_ok {z : Str} (h : z.length ≤ 10000) : z.length ≤ sizeLine := Nat.le_trans h (by decide)
theorem coming_ok (cs : Cs) {z : Str} (hz : z.length ≤ 10000) {i : Nat} (hi : i ≤ z.length) {h : Int} (e : h = (i : Int)) : m_ThingSigns_coming cs [rd cs z h] = .ok (.d (.str (ofC (((sg z).drop i).take 1)))) [rd cs z h] := by
  have c := cut_at z hi 1 e (show h + 1 = ((i + 1 : Nat) : Int) by omega)
  have s := sz_ok hz
  simp [m_ThingSigns_coming, b_ThingSigns_coming, c, s]
theorem over_ok (cs : Cs) {z : Str} (hz : z.length ≤ 10000) {i : Nat} (hi : i ≤ z.length) {h : Int} (e : h = (i : Int)) : m_ThingSigns_is_over cs [rd cs z h] = .ok (.d (.bl ((sg z).drop i).isEmpty)) [rd cs z h] := by
  have s := sz_ok hz
  have d : decide (h = (z.length : Int)) = ((sg z).drop i).isEmpty := by
    have hl : ((sg z).drop i).length = z.length - i := by rw [List.length_drop, sg_len]
    cases hd : (sg z).drop i with
    | nil => rw [hd] at hl; simp at hl; exact decide_eq_true (by omega)
    | cons c r => rw [hd] at hl; simp at hl; exact decide_eq_false (by omega)
  obtain ⟨L, hL⟩ : ∃ L : Int, (z.length : Int) = L := ⟨_, rfl⟩
  rw [hL] at d
  simp [m_ThingSigns_is_over, b_ThingSigns_is_over, s, hL, d]
theorem drop_succ {z : Str} {i c : Nat} {r : List Nat} (h : (sg z).drop i = c :: r) : (sg z).drop (i + 1) = r ∧ i + 1 ≤ z.length := by
  refine ⟨by rw [← List.drop_drop, h]; rfl, ?_⟩
  have hl : ((sg z).drop i).length = z.length - i := by rw [List.length_drop, sg_len]
  rw [h] at hl
  simp at hl
  omega
theorem all_loop (cs : Cs) {z w : Str} (hz : z.length ≤ 10000) (p : Nat → Bool) (hp : ∀ c, inStr (ofC [c]) w = p c) : ∀ (n i : Nat) (h : Int) (b : Option Ob), i ≤ z.length → h = (i : Int) → ((sg z).drop i).length < n →
    whileR (gAnd (gTest (g2 oNe (gToD (gMeth cs.ThingSigns 0 "coming" (m_ThingSigns_coming cs) gcNil)) (gC (.str (PySem.Str.ofString ""))))) (gTest (g2 oIn (gToD (gMeth cs.ThingSigns 0 "coming" (m_ThingSigns_coming cs) gcNil)) (gVar 1)))) (gAugF cs.ThingSigns (oI0 fun a b => .int (a + b)) 0 "here" (gC (.int 1))) n [some (rd cs z h), some (.d (.str w)), b] =
      .ok .nx [some (rd cs z ((i + (((sg z).drop i).takeWhile p).length : Nat) : Int)), some (.d (.str w)), b] := by
  intro n
  induction n with
  | zero => intro i h b hi e hn; omega
  | succ n ih =>
    intro i h b hi e hn
    have cm := coming_ok cs hz hi e
    cases hd : (sg z).drop i with
    | nil =>
      rw [hd] at cm
      have e0 : ofC (List.take 1 []) = PySem.Str.ofString "" := by decide +kernel
      rw [e0] at cm
      rw [whileR_end (Γ1 := [some (rd cs z h), some (.d (.str w)), b]) (by simp [cm])]
      simp [e]
    | cons c r =>
      rw [hd] at cm hn
      simp only [List.length_cons] at hn
      have e1 : ofC (List.take 1 (c :: r)) = ofC [c] := rfl
      rw [e1] at cm
      have ne : ofC [c] ≠ PySem.Str.ofString "" := fun q => by
        have := congrArg Str.length q
        rw [show (ofC [c]).length = 1 from rfl, show (PySem.Str.ofString "").length = 0 by decide +kernel] at this
        cases this
      obtain ⟨d1, d2⟩ := drop_succ hd
      cases hc : p c with
      | true =>
        have i1 := hp c
        rw [hc] at i1
        rw [whileR_step (Γ1 := [some (rd cs z h), some (.d (.str w)), b]) (Γ2 := [some (rd cs z (h + 1)), some (.d (.str w)), b]) (fl := .nx) (by simp [cm, ne, i1]) (by simp) (.inl rfl)]
        rw [ih (i + 1) (h + 1) b d2 (by omega) (by rw [d1]; omega), d1, List.takeWhile_cons_of_pos hc]
        simp only [List.length_cons]
        rw [show i + 1 + (List.takeWhile p r).length = i + ((List.takeWhile p r).length + 1) by omega]
      | false =>
        have i1 := hp c
        rw [hc] at i1
        rw [whileR_end (Γ1 := [some (rd cs z h), some (.d (.str w)), b]) (by simp [cm, ne, i1])]
        rw [List.takeWhile_cons_of_neg (by simp [hc])]
        simp [e]
theorem take_tw {p : Nat → Bool} : ∀ l : List Nat, l.take (l.takeWhile p).length = l.takeWhile p
  | [] => rfl
  | c :: l => by
    cases h : p c with
    | true => rw [List.takeWhile_cons_of_pos h]; simp [take_tw l]
    | false => rw [List.takeWhile_cons_of_neg (by simp [h])]; rfl
theorem drop_tw {p : Nat → Bool} : ∀ l : List Nat, l.drop (l.takeWhile p).length = l.dropWhile p
  | [] => rfl
  | c :: l => by
    cases h : p c with
    | true => rw [List.takeWhile_cons_of_pos h, List.dropWhile_cons_of_pos h]; simp [drop_tw l]
    | false => rw [List.takeWhile_cons_of_neg (by simp [h]), List.dropWhile_cons_of_neg (by simp [h])]; rfl
theorem tw_le {p : Nat → Bool} (l : List Nat) : (l.takeWhile p).length ≤ l.length := by
  have := congrArg List.length (take_tw (p := p) l)
  rw [List.length_take] at this
  omega
/-- take_all: the next position, its rest -/
theorem take_all_ok (cs : Cs) {z w : Str} (hz : z.length ≤ 2900) (p : Nat → Bool) (hp : ∀ c, inStr (ofC [c]) w = p c) {i : Nat} (hi : i ≤ z.length) {h : Int} (e : h = (i : Int)) :
    ∃ i' : Nat, i' ≤ z.length ∧ (sg z).drop i' = ((sg z).drop i).dropWhile p ∧ m_ThingSigns_take_all cs [rd cs z h, .d (.str w)] = .ok (.d (.str (ofC (((sg z).drop i).takeWhile p)))) [rd cs z (i' : Int), .d (.str w)] := by
  have hl : ((sg z).drop i).length = z.length - i := by rw [List.length_drop, sg_len]
  have tl := tw_le (p := p) ((sg z).drop i)
  have lp := all_loop cs (by omega : z.length ≤ 10000) p hp 3000 i h (some (.d (.int h))) hi e (by omega)
  refine ⟨i + (((sg z).drop i).takeWhile p).length, by omega, by rw [← List.drop_drop, drop_tw], ?_⟩
  have ct := cut_at z hi (((sg z).drop i).takeWhile p).length e (rfl : ((i + (((sg z).drop i).takeWhile p).length : Nat) : Int) = _)
  rw [take_tw] at ct
  have s := sz_ok (by omega : z.length ≤ 10000)
  generalize ((i + (((sg z).drop i).takeWhile p).length : Nat) : Int) = h2 at lp ct ⊢
  simp [m_ThingSigns_take_all, b_ThingSigns_take_all, lp, ct, s]
theorem has_text_ok (cs : Cs) {z t : Str} (hz : z.length ≤ 10000) (ht : t.length ≤ 100) {i : Nat} (hi : i ≤ z.length) {h : Int} (e : h = (i : Int)) :
    m_ThingSigns_has_text cs [rd cs z h, .d (.str t)] = if ((sg z).drop i).take t.length = sg t then .ok (.d (.bl true)) [rd cs z (h + t.length), .d (.str t)] else .ok (.d (.bl false)) [rd cs z h, .d (.str t)] := by
  have s := sz_ok hz
  have st := sz_ok (by omega : t.length ≤ 10000)
  have ct := cut_at z hi t.length e (show h + (t.length : Int) = ((i + t.length : Nat) : Int) by omega)
  obtain ⟨L, hL⟩ : ∃ L : Int, (t.length : Int) = L := ⟨_, rfl⟩
  rw [hL] at ct ⊢
  by_cases c : ((sg z).drop i).take t.length = sg t
  · rw [if_pos c]
    rw [c, ofC_sg] at ct
    simp [m_ThingSigns_has_text, b_ThingSigns_has_text, s, st, hL, ct]
  · rw [if_neg c]
    have ne : ofC (((sg z).drop i).take t.length) ≠ t := fun q => c (by have := congrArg sg q; rwa [sg_ofC] at this)
    simp [m_ThingSigns_has_text, b_ThingSigns_has_text, s, st, hL, ct, ne]
theorem whileR_ex {c : G Bool} {b : G Fl} {n : Nat} {Γ Γ1 Γ2 : Gm.Env} {x : Ex} (h1 : c Γ = .ok true Γ1) (h2 : b Γ1 = .ex x Γ2) : whileR c b (n + 1) Γ = .ex x Γ2 := by
  simp [whileR, h1, h2]
abbrev XN : Ex := ⟨PySem.Str.ofString "NoText", some (PySem.Str.ofString "row", 0)⟩
theorem tell0 : tellOk (PySem.Str.ofString "row ") 0 = true := by decide +kernel
theorem dig_range {c : Nat} (h : isDig c = true) : 48 ≤ c ∧ c ≤ 57 := by
  have e : zFig.cps.toList = [48, 49, 50, 51, 52, 53, 54, 55, 56, 57] := by decide +kernel
  simp only [isDig, e, decide_eq_true_eq, List.mem_cons, List.not_mem_nil, or_false] at h
  omega
theorem int_of {w : List Nat} (h : w.all isDig = true) (hn : w ≠ []) (hl : w.length ≤ 640) : PySem.intText? (ofC w) = some (valOf w) ∧ 0 ≤ valOf w := by
  have q := PySem.intText_digits (x := ofC w) (fun c hc => dig_range (List.all_eq_true.mp h c (by simpa [ofC] using hc))) (by simpa [ofC] using hn) (by show (ofC w).cps.toList.length ≤ 4300; simp [ofC]; omega)
  unfold valOf
  rw [q]
  exact ⟨rfl, by simp⟩
theorem val_ok : ∀ w : List Nat, w ≠ [] → w.all isDig = true → numOk w = true → 0 ≤ valOf w := fun w h1 h2 h3 => by
  simp only [numOk, Bool.and_eq_true, decide_eq_true_eq] at h3
  exact (int_of h2 h1 (by omega)).2
theorem in_fig (c : Nat) : inStr (ofC [c]) zFig = isDig c := rfl
theorem in_small (c : Nat) : inStr (ofC [c]) zSmall = isSm c := rfl
theorem in_great (c : Nat) : inStr (ofC [c]) zGreat = isGr c := rfl
theorem c_fig : c_FIGURES = .str zFig := rfl
theorem c_great : c_GREAT_LETTERS = .str zGreat := rfl
theorem c_small : c_LETTERS = .str zSmall := rfl
theorem len_ofC (w : List Nat) : (ofC w).length = w.length := by simp [ofC, Str.length]
theorem take_text_ok (cs : Cs) {z t : Str} (hz : z.length ≤ 10000) (ht : t.length ≤ 100) {i : Nat} (hi : i ≤ z.length) {h : Int} (e : h = (i : Int)) :
    m_ThingSigns_take_text cs [rd cs z h, .d (.str t)] = if ((sg z).drop i).take t.length = sg t then .ok (.d .non) [rd cs z (h + t.length), .d (.str t)] else .ex XN [rd cs z h, .d (.str t)] := by
  have q := has_text_ok cs hz ht hi e
  have t0 := tell0
  by_cases c : ((sg z).drop i).take t.length = sg t
  · rw [if_pos c] at q ⊢
    generalize h + (t.length : Int) = h2 at q ⊢
    simp [m_ThingSigns_take_text, b_ThingSigns_take_text, q]
  · rw [if_neg c] at q ⊢
    simp [m_ThingSigns_take_text, b_ThingSigns_take_text, q, t0]
/-- what a word of figures comes to -/
def numR (w : List Nat) : Option Int := if numOk w then some (valOf w) else none
theorem take_number_ok (cs : Cs) {z : Str} (hz : z.length ≤ 2900) {i : Nat} (hi : i ≤ z.length) {h : Int} (e : h = (i : Int)) {c : Nat} {r : List Nat} (hd : (sg z).drop i = c :: r) (hc : isDig c = true) :
    ∃ i' : Nat, i' ≤ z.length ∧ (sg z).drop i' = (c :: r).dropWhile isDig ∧ m_ThingSigns_take_number cs [rd cs z h] = (match numR ((c :: r).takeWhile isDig) with | some v => .ok (.d (.int v)) [rd cs z (i' : Int)] | none => .ex XN [rd cs z (i' : Int)]) := by
  obtain ⟨i', h1, h2, h3⟩ := take_all_ok cs hz isDig in_fig hi e
  rw [hd] at h2 h3
  refine ⟨i', h1, h2, ?_⟩
  have t0 := tell0
  have hw : (c :: r).takeWhile isDig = c :: r.takeWhile isDig := List.takeWhile_cons_of_pos hc
  have hall : ((c :: r).takeWhile isDig).all isDig = true := List.all_eq_true.mpr fun x hx => tw_mem hx
  generalize hg : r.takeWhile isDig = w at hw
  rw [hw] at h3 hall ⊢
  have ll : (ofC (c :: w)).length = w.length + 1 := by rw [len_ofC]; rfl
  generalize (i' : Int) = h' at h3 ⊢
  have hsz : (ofC (c :: w)).length ≤ sizeLine := by
    rw [ll]
    have := tw_le (p := isDig) r
    have hl : ((sg z).drop i).length = z.length - i := by rw [List.length_drop, sg_len]
    rw [hd] at hl
    simp at hl
    rw [hg] at this
    exact Nat.le_trans (show w.length + 1 ≤ 2900 by omega) (by decide)
  have i0 : oIx (.str (ofC (c :: w))) (.int 0) = some (.str (ofC [c])) := by
    rw [oIx_str, if_pos hsz]
    simp [ofC]
  have e0 : PySem.Str.ofString "0" = ofC [48] := by decide +kernel
  have q1 : oEq (.str (ofC [c])) (.str (PySem.Str.ofString "0")) = some (.bl (decide (c = 48))) := by
    rw [e0]
    show some (D.bl (decide (ofC [c] = ofC [48]))) = _
    rw [show decide (ofC [c] = ofC [48]) = decide (c = 48) from decide_eq_decide.mpr (by rw [ofC_inj]; simp)]
  have q2 : c = 48 → oNe (.str (ofC (c :: w))) (.str (PySem.Str.ofString "0")) = some (.bl (!decide (w = []))) := fun hc => by
    rw [e0]
    show some (D.bl (!decide (ofC (c :: w) = ofC [48]))) = _
    rw [show decide (ofC (c :: w) = ofC [48]) = decide (w = []) from decide_eq_decide.mpr (by rw [ofC_inj, hc]; simp)]
  have ln : oLen [.str (ofC (c :: w))] = some (.int ((w.length + 1 : Nat) : Int)) := by
    rw [oLen_str, if_pos hsz, ll]
  have is10 : c_MOST_FIGURES = .int 10 := rfl
  by_cases l10 : w.length + 1 ≤ 10
  · have iv := (int_of hall (by simp) (by simp; omega)).1
    have e1 : (1 : Int) ≤ ((w.length + 1 : Nat) : Int) := by omega
    have e2 : ((w.length + 1 : Nat) : Int) ≤ 10 := by omega
    have hl640 : (ofC (c :: w)).length ≤ 640 := by rw [ll]; omega
    have oi : oIntS [.str (ofC (c :: w))] = some (.int (valOf (c :: w))) := by simp [hl640, iv]
    have nk : numR (c :: w) = if c = 48 ∧ w ≠ [] then none else some (valOf (c :: w)) := by
      by_cases c48 : c = 48
      · cases w with
        | nil => simp [numR, numOk]
        | cons y ys => simp [numR, numOk, c48]
      · simp [numR, numOk, l10, c48]
    generalize ((w.length + 1 : Nat) : Int) = L at e1 e2 ln
    rw [nk]
    by_cases c48 : c = 48
    · have q2 := q2 c48
      rw [decide_eq_true c48] at q1
      by_cases hw0 : w = []
      · rw [if_neg (fun z => z.2 hw0)]
        rw [decide_eq_true hw0] at q2
        generalize ofC (c :: w) = B at h3 i0 q2 ln oi
        generalize ofC [c] = A at i0 q1
        simp [m_ThingSigns_take_number, b_ThingSigns_take_number, c_fig, h3, ln, e1, e2, is10, i0, q1, q2, oi, -oEq_str, -oNe_str, -oIx_str, -oLen_str, -oIntS]
      · rw [if_pos ⟨c48, hw0⟩]
        rw [decide_eq_false hw0] at q2
        generalize ofC (c :: w) = B at h3 i0 q2 ln oi
        generalize ofC [c] = A at i0 q1
        simp [m_ThingSigns_take_number, b_ThingSigns_take_number, c_fig, h3, ln, e1, e2, is10, i0, q1, q2, t0, -oEq_str, -oNe_str, -oIx_str, -oLen_str, -oIntS]
    · rw [if_neg (fun z => c48 z.1)]
      rw [decide_eq_false c48] at q1
      generalize ofC (c :: w) = B at h3 i0 ln oi
      generalize ofC [c] = A at i0 q1
      simp [m_ThingSigns_take_number, b_ThingSigns_take_number, c_fig, h3, ln, e1, e2, is10, i0, q1, oi, -oEq_str, -oNe_str, -oIx_str, -oLen_str, -oIntS]
  · have hn : numR (c :: w) = none := by simp [numR, numOk, l10]
    rw [hn]
    have e1 : (1 : Int) ≤ ((w.length + 1 : Nat) : Int) := by omega
    have e2 : ¬ ((w.length + 1 : Nat) : Int) ≤ 10 := by omega
    generalize ((w.length + 1 : Nat) : Int) = L at e1 e2 ln
    generalize ofC (c :: w) = B at h3 ln
    simp [m_ThingSigns_take_number, b_ThingSigns_take_number, c_fig, h3, ln, e1, e2, is10, t0, -oLen_str]
theorem take_mark_ok (cs : Cs) {z : Str} (hz : z.length ≤ 2900) {i : Nat} (hi : i ≤ z.length) {h : Int} (e : h = (i : Int)) {c : Nat} {r : List Nat} (hd : (sg z).drop i = c :: r) :
    ∃ i' : Nat, i' ≤ z.length ∧ (sg z).drop i' = r.dropWhile isSm ∧ m_ThingSigns_take_mark cs [rd cs z h] = .ok (.d (.str (markOf c r))) [rd cs z (i' : Int)] := by
  have cm := coming_ok cs (by omega : z.length ≤ 10000) hi e
  rw [hd] at cm
  obtain ⟨d1, d2⟩ := drop_succ hd
  obtain ⟨i', h1, h2, h3⟩ := take_all_ok cs hz isSm in_small d2 (show h + 1 = ((i + 1 : Nat) : Int) by omega)
  rw [d1] at h2 h3
  refine ⟨i', h1, h2, ?_⟩
  have e1 : ofC (List.take 1 (c :: r)) = ofC [c] := rfl
  rw [e1] at cm
  have tl := tw_le (p := isSm) r
  have hl : ((sg z).drop i).length = z.length - i := by rw [List.length_drop, sg_len]
  rw [hd] at hl
  simp at hl
  have ad : oAdd (.str (ofC [c])) (.str (ofC (r.takeWhile isSm))) = some (.str (markOf c r)) := by
    rw [oAdd_str, if_pos (by rw [len_ofC, len_ofC]; exact Nat.le_trans (show [c].length + (r.takeWhile isSm).length ≤ 3000 by simp; omega) (by decide))]
    have : ofC [c] ++ ofC (r.takeWhile isSm) = markOf c r := str_ext (by
      rw [app_list]
      show sg (ofC [c]) ++ sg (ofC _) = sg (ofC _)
      rw [sg_ofC, sg_ofC, sg_ofC]
      rfl)
    rw [this]
  generalize (i' : Int) = h' at h3 ⊢
  simp [m_ThingSigns_take_mark, b_ThingSigns_take_mark, cm, c_small, h3, ad]
def rowC (cs : Cs) : G Bool := (gTruth (gToD (gMeth cs.ThingSigns 0 "has_text" (m_ThingSigns_has_text cs) (gcCons (gcD (gC (.str (PySem.Str.ofString ", ")))) gcNil))))
def rowB (cs : Cs) (mo : Mf) : G Fl := (gApp 2 (gToD (gMeth cs.ThingSigns 0 "take_one" mo (gcCons (gcD (gVar 1)) gcNil))))
def rowT (cs : Cs) : G Fl := gSeq (gDrop (gToD (gMeth cs.ThingSigns 0 "take_text" (m_ThingSigns_take_text cs) (gcCons (gcD (gC (.str (PySem.Str.ofString ")")))) gcNil)))) (gRetD (gTupS (gSlot 2)))
theorem trow_is (cs : Cs) (mr mo : Mf) : b_ThingSigns_take_row cs mr mo = gSeq (gAsgO 2 (gLst (gConsA (gToD (gMeth cs.ThingSigns 0 "take_one" mo (gcCons (gcD (gVar 1)) gcNil))) gNilA))) (gSeq (whileR (rowC cs) (rowB cs mo) 3000) (rowT cs)) := rfl
def one1 (cs : Cs) : G Fl := (gIf (gOr (gTest (g2 oEq (gVar 1) (gC (.int 0)))) (gTruth (gToD (gMeth cs.ThingSigns 0 "is_over" (m_ThingSigns_is_over cs) gcNil)))) (gRaiseI "NoText" "row" "row " (gC (.int 0))) gPass)
def one2 (cs : Cs) : G Fl := (gIf (gTest (g2 oIn (gToD (gMeth cs.ThingSigns 0 "coming" (m_ThingSigns_coming cs) gcNil)) (gC c_FIGURES))) (gRetD (gToD (gMeth cs.ThingSigns 0 "take_number" (m_ThingSigns_take_number cs) gcNil))) gPass)
def one3 (cs : Cs) : G Fl := (gIf (gTest (g2 oNotIn (gToD (gMeth cs.ThingSigns 0 "coming" (m_ThingSigns_coming cs) gcNil)) (gC c_GREAT_LETTERS))) (gRaiseI "NoText" "row" "row " (gC (.int 0))) gPass)
def one4 (cs : Cs) (mr : Mf) : G Fl := gSeq (gAsg 2 (gToD (gMeth cs.ThingSigns 0 "take_mark" (m_ThingSigns_take_mark cs) gcNil))) (gSeq (gIf (gNot (gTruth (gToD (gMeth cs.ThingSigns 0 "has_text" (m_ThingSigns_has_text cs) (gcCons (gcD (gC (.str (PySem.Str.ofString "(")))) gcNil))))) (gRetD (gTup (gConsA (gVar 2) (gConsA (gTup gNilA) gNilA)))) gPass) (gRetD (gTup (gConsA (gVar 2) (gConsA (gToD (gMeth cs.ThingSigns 0 "take_row" mr (gcCons (gcD (g2 oSub (gVar 1) (gC (.int 1)))) gcNil))) gNilA)))))
theorem tone_is (cs : Cs) (mr mo : Mf) : b_ThingSigns_take_one cs mr mo = gSeq (one1 cs) (gSeq (one2 cs) (gSeq (one3 cs) (one4 cs mr))) := rfl
/-! ### the program's reading -/
def OneP (cs : Cs) (z : Str) (d : Nat) (mo : Mf) : Prop := ∀ (i : Nat) (h q : Int), i ≤ z.length → h = (i : Int) → q = (d : Int) →
  match pOne d ((sg z).drop i) with
  | some (T, r) => ∃ i' : Nat, i' ≤ z.length ∧ (sg z).drop i' = r ∧ mo [rd cs z h, .d (.int q)] = .ok (.d T) [rd cs z (i' : Int), .d (.int q)]
  | none => ∃ h', mo [rd cs z h, .d (.int q)] = .ex XN [rd cs z h', .d (.int q)]
def RowP (cs : Cs) (z : Str) (d : Nat) (mr : Mf) : Prop := ∀ (i : Nat) (h q : Int), i ≤ z.length → h = (i : Int) → q = (d : Int) →
  match pRow (pOne d) ((sg z).drop i) with
  | some (Ts, r) => ∃ i' : Nat, i' ≤ z.length ∧ (sg z).drop i' = r ∧ mr [rd cs z h, .d (.int q)] = .ok (.d (.tup Ts)) [rd cs z (i' : Int), .d (.int q)]
  | none => ∃ h', mr [rd cs z h, .d (.int q)] = .ex XN [rd cs z h', .d (.int q)]
theorem dw_le {p : Nat → Bool} (l : List Nat) : (l.dropWhile p).length ≤ l.length := by rw [← drop_tw, List.length_drop]; omega
theorem more_le {one : List Nat → Rd} (h : ∀ s T r, one s = some (T, r) → r.length < s.length) : ∀ (k : Nat) (s : List Nat) (Ts : List D) (r : List Nat), pMore one k s = some (Ts, r) → r.length ≤ s.length := by
  intro k
  induction k with
  | zero => intro s Ts r e; cases e
  | succ k ih =>
    intro s Ts r e
    unfold pMore at e
    by_cases c : s.take 2 = [44, 32]
    · rw [if_pos c] at e
      obtain ⟨⟨T, r1⟩, e1, e2⟩ := Option.bind_eq_some_iff.mp e
      obtain ⟨⟨Ts', r2⟩, e3, e4⟩ := Option.map_eq_some_iff.mp e2
      cases e4
      have h1 := h _ _ _ e1
      have h2 := ih _ _ _ e3
      rw [List.length_drop] at h1
      show r2.length ≤ _
      have h2 : r2.length ≤ r1.length := h2
      omega
    · rw [if_neg c] at e
      split at e
      · cases e; rw [List.length_drop]; omega
      · cases e
theorem one_lt : ∀ (d : Nat) (s : List Nat) (T : D) (r : List Nat), pOne d s = some (T, r) → r.length < s.length := by
  intro d
  induction d with
  | zero => intro s T r e; cases e
  | succ d ih =>
    intro s T r e
    cases s with
    | nil => cases e
    | cons c s =>
      simp only [pOne, oneP] at e
      cases hc : isDig c with
      | true =>
        rw [hc] at e
        simp only [if_true] at e
        split at e
        · cases e
          rw [List.dropWhile_cons_of_pos hc]
          have := dw_le (p := isDig) s
          simp; omega
        · cases e
      | false =>
        rw [hc] at e
        simp only [Bool.false_eq_true, if_false] at e
        cases hg1 : isGr c with
        | false => rw [hg1] at e; simp at e
        | true =>
          rw [hg1] at e
          simp only [if_true] at e
          have hw := dw_le (p := isSm) s
          split at e
          · obtain ⟨⟨Ts, r2⟩, e1, e2⟩ := Option.map_eq_some_iff.mp e
            cases e2
            unfold pRow at e1
            obtain ⟨⟨T, r1⟩, e3, e4⟩ := Option.bind_eq_some_iff.mp e1
            obtain ⟨⟨Ts', r3⟩, e5, e6⟩ := Option.map_eq_some_iff.mp e4
            cases e6
            have h1 := ih _ _ _ e3
            have h2 := more_le ih _ _ _ _ e5
            rw [List.length_drop] at h1
            have h2 : r3.length ≤ r1.length := h2
            simp only [List.length_cons]
            show r3.length < _
            omega
          · cases e
            simp only [List.length_cons]; omega
theorem comma : sg (PySem.Str.ofString ", ") = [44, 32] := by decide +kernel
theorem comma_len : (PySem.Str.ofString ", ").length = 2 := by decide +kernel
theorem close_sg : sg (PySem.Str.ofString ")") = [41] := by decide +kernel
theorem close_len : (PySem.Str.ofString ")").length = 1 := by decide +kernel
theorem open_sg : sg (PySem.Str.ofString "(") = [40] := by decide +kernel
theorem open_len : (PySem.Str.ofString "(").length = 1 := by decide +kernel
theorem take_room {z : Str} {i k : Nat} {w : List Nat} (hi : i ≤ z.length) (h : ((sg z).drop i).take k = w) (hw : w.length = k) : i + k ≤ z.length := by
  have hl : ((sg z).drop i).length = z.length - i := by rw [List.length_drop, sg_len]
  have := congrArg List.length h
  rw [List.length_take, hw] at this
  omega
theorem row_loop (cs : Cs) {z : Str} (hz : z.length ≤ 2900) {d : Nat} {mo : Mf} (ho : OneP cs z d mo) {q : Int} (hq : q = (d : Int)) : ∀ (n i : Nat) (h : Int) (acc : List D), i ≤ z.length → h = (i : Int) → ((sg z).drop i).length < n → acc.length + ((sg z).drop i).length ≤ 6000 →
    (∃ (Ts : List D) (i' : Nat), i' ≤ z.length ∧ whileR (rowC cs) (rowB cs mo) n [some (rd cs z h), some (.d (.int q)), some (.lst acc)] = .ok .nx [some (rd cs z (i' : Int)), some (.d (.int q)), some (.lst (acc ++ Ts))] ∧
      pMore (pOne d) n ((sg z).drop i) = (if ((sg z).drop i').take 1 = [41] then some (Ts, ((sg z).drop i').drop 1) else none) ∧ acc.length + Ts.length ≤ 6000) ∨
    (∃ (h' : Int) (acc' : List D), whileR (rowC cs) (rowB cs mo) n [some (rd cs z h), some (.d (.int q)), some (.lst acc)] = .ex XN [some (rd cs z h'), some (.d (.int q)), some (.lst acc')] ∧ pMore (pOne d) n ((sg z).drop i) = none) := by
  intro n
  induction n with
  | zero => intro i h acc hi e hn; omega
  | succ n ih =>
    intro i h acc hi e hn ha
    have ht := has_text_ok cs (by omega : z.length ≤ 10000) (t := PySem.Str.ofString ", ") (by rw [comma_len]; omega) hi e
    rw [comma_len, comma] at ht
    by_cases c : ((sg z).drop i).take 2 = [44, 32]
    · rw [if_pos c] at ht
      have hi2 := take_room hi c rfl
      have o := ho (i + 2) (h + 2) q hi2 (by omega) hq
      rw [← List.drop_drop] at o
      have hl : ((sg z).drop i).length = z.length - i := by rw [List.length_drop, sg_len]
      cases hp : pOne d (((sg z).drop i).drop 2) with
      | some p =>
        obtain ⟨T, r⟩ := p
        rw [hp] at o
        obtain ⟨i', k1, k2, k3⟩ := o
        have lt := one_lt _ _ _ _ hp
        rw [List.length_drop] at lt
        have hr : ((sg z).drop i').length = r.length := by rw [k2]
        have sm : acc.length ≤ 100000 := by omega
        have step := whileR_step (c := rowC cs) (b := rowB cs mo) (n := n) (Γ := [some (rd cs z h), some (.d (.int q)), some (.lst acc)]) (Γ1 := [some (rd cs z (h + 2)), some (.d (.int q)), some (.lst acc)]) (Γ2 := [some (rd cs z (i' : Int)), some (.d (.int q)), some (.lst (acc ++ [T]))]) (fl := .nx)
          (by
            have ht : m_ThingSigns_has_text cs [rd cs z h, .d (.str (PySem.Str.ofString ", "))] = .ok (.d (.bl true)) [rd cs z (h + 2), .d (.str (PySem.Str.ofString ", "))] := ht
            generalize h + 2 = h2 at ht ⊢
            simp [rowC, ht]) (by
            generalize h + 2 = h2 at k3 ⊢
            generalize (i' : Int) = h3 at k3 ⊢
            simp [rowB, k3, sm, small]) (.inl rfl)
        rw [step]
        rcases ih i' (i' : Int) (acc ++ [T]) k1 rfl (by omega) (by rw [List.length_append, hr]; show acc.length + 1 + r.length ≤ 6000; omega) with ⟨Ts, i2, q1, q2, q3, q4⟩ | ⟨h', acc', q1, q2⟩
        · refine .inl ⟨T :: Ts, i2, q1, by rw [q2]; simp, ?_, by simp at q4; simp; omega⟩
          unfold pMore
          rw [if_pos c, hp]
          show Option.map _ (pMore (pOne d) n r) = _
          rw [← k2, q3]
          split <;> rfl
        · refine .inr ⟨h', acc', q1, ?_⟩
          unfold pMore
          rw [if_pos c, hp]
          show Option.map _ (pMore (pOne d) n r) = _
          rw [← k2, q2]
          rfl
      | none =>
        rw [hp] at o
        obtain ⟨h', k3⟩ := o
        refine .inr ⟨h', acc, ?_, ?_⟩
        · refine whileR_ex (Γ1 := [some (rd cs z (h + 2)), some (.d (.int q)), some (.lst acc)]) (by
            have ht : m_ThingSigns_has_text cs [rd cs z h, .d (.str (PySem.Str.ofString ", "))] = .ok (.d (.bl true)) [rd cs z (h + 2), .d (.str (PySem.Str.ofString ", "))] := ht
            generalize h + 2 = h2 at ht ⊢
            simp [rowC, ht]) (by
            generalize h + 2 = h2 at k3 ⊢
            simp [rowB, k3])
        · unfold pMore
          rw [if_pos c, hp]
          rfl
    · rw [if_neg c] at ht
      refine .inl ⟨[], i, hi, ?_, ?_, by simp; omega⟩
      · rw [whileR_end (Γ1 := [some (rd cs z h), some (.d (.int q)), some (.lst acc)]) (by simp [rowC, ht])]
        simp [e]
      · unfold pMore
        rw [if_neg c]
theorem row_ok (cs : Cs) {z : Str} (hz : z.length ≤ 2900) {d : Nat} {mr mo : Mf} (ho : OneP cs z d mo) : RowP cs z d (gBody [true, false] 3 (b_ThingSigns_take_row cs mr mo)) := by
  intro i h q hi e hq
  have hl : ((sg z).drop i).length = z.length - i := by rw [List.length_drop, sg_len]
  have o := ho i h q hi e hq
  unfold gBody
  rw [trow_is]
  show match pRow (pOne d) ((sg z).drop i) with
    | some (Ts, r) => ∃ i' : Nat, i' ≤ z.length ∧ (sg z).drop i' = r ∧ fin [true, false] [rd cs z h, .d (.int q)] ((gSeq (gAsgO 2 (gLst (gConsA (gToD (gMeth cs.ThingSigns 0 "take_one" mo (gcCons (gcD (gVar 1)) gcNil))) gNilA))) (gSeq (whileR (rowC cs) (rowB cs mo) 3000) (rowT cs))) [some (rd cs z h), some (.d (.int q)), none]) = .ok (.d (.tup Ts)) [rd cs z (i' : Int), .d (.int q)]
    | none => ∃ h', fin [true, false] [rd cs z h, .d (.int q)] ((gSeq (gAsgO 2 (gLst (gConsA (gToD (gMeth cs.ThingSigns 0 "take_one" mo (gcCons (gcD (gVar 1)) gcNil))) gNilA))) (gSeq (whileR (rowC cs) (rowB cs mo) 3000) (rowT cs))) [some (rd cs z h), some (.d (.int q)), none]) = .ex XN [rd cs z h', .d (.int q)]
  unfold pRow
  cases hp : pOne d ((sg z).drop i) with
  | none =>
    rw [hp] at o
    obtain ⟨h', k⟩ := o
    exact ⟨h', by simp [k]⟩
  | some p =>
    obtain ⟨T, r⟩ := p
    rw [hp] at o
    obtain ⟨i', k1, k2, k3⟩ := o
    have hl2 : ((sg z).drop i').length = z.length - i' := by rw [List.length_drop, sg_len]
    have first : gSeq (gAsgO 2 (gLst (gConsA (gToD (gMeth cs.ThingSigns 0 "take_one" mo (gcCons (gcD (gVar 1)) gcNil))) gNilA))) (gSeq (whileR (rowC cs) (rowB cs mo) 3000) (rowT cs)) [some (rd cs z h), some (.d (.int q)), none] = (gSeq (whileR (rowC cs) (rowB cs mo) 3000) (rowT cs)) [some (rd cs z (i' : Int)), some (.d (.int q)), some (.lst [T])] := by
      generalize gSeq (whileR (rowC cs) (rowB cs mo) 3000) (rowT cs) = rest
      generalize (i' : Int) = h3 at k3 ⊢
      simp [k3]
    rw [first]
    show match Option.map (fun q => (T :: q.1, q.2)) (pMore (pOne d) 3000 r) with
      | some (Ts, r) => _
      | none => _
    rcases row_loop cs hz ho hq 3000 i' (i' : Int) [T] k1 rfl (by omega) (by rw [hl2]; show 1 + (z.length - i') ≤ 6000; omega) with ⟨Ts, i2, q1, q2, q3, q4⟩ | ⟨h', acc', q1, q2⟩
    · rw [← k2, q3]
      have tt := take_text_ok cs (by omega : z.length ≤ 10000) (t := PySem.Str.ofString ")") (by rw [close_len]; omega) q1 (rfl : (i2 : Int) = (i2 : Int))
      rw [close_len, close_sg] at tt
      have after : gSeq (whileR (rowC cs) (rowB cs mo) 3000) (rowT cs) [some (rd cs z (i' : Int)), some (.d (.int q)), some (.lst [T])] = rowT cs [some (rd cs z (i2 : Int)), some (.d (.int q)), some (.lst ([T] ++ Ts))] := by
        unfold gSeq
        rw [q2]
        rfl
      rw [after]
      by_cases c : ((sg z).drop i2).take 1 = [41]
      · rw [if_pos c] at tt ⊢
        have hi3 := take_room q1 c rfl
        refine ⟨i2 + 1, hi3, by rw [← List.drop_drop], ?_⟩
        have tt : m_ThingSigns_take_text cs [rd cs z (i2 : Int), .d (.str (PySem.Str.ofString ")"))] = .ok (.d .non) [rd cs z ((i2 + 1 : Nat) : Int), .d (.str (PySem.Str.ofString ")"))] := tt
        generalize ((i2 + 1 : Nat) : Int) = h4 at tt ⊢
        generalize (i2 : Int) = h3 at tt ⊢
        have sz : Ts.length + 1 ≤ sizeLine := by simp at q4; exact Nat.le_trans (show Ts.length + 1 ≤ 6001 by omega) (by decide)
        simp [rowT, tt, sz]
      · rw [if_neg c] at tt ⊢
        refine ⟨(i2 : Int), ?_⟩
        generalize (i2 : Int) = h3 at tt ⊢
        simp [rowT, tt]
    · rw [← k2, q2]
      refine ⟨h', ?_⟩
      unfold gSeq
      rw [q1]
      rfl
theorem one_zero (cs : Cs) {z : Str} {mr mo : Mf} : OneP cs z 0 (gBody [true, false] 3 (b_ThingSigns_take_one cs mr mo)) := by
  intro i h q hi e hq
  have t0 := tell0
  refine ⟨h, ?_⟩
  subst hq
  unfold gBody
  rw [tone_is]
  generalize gSeq (one2 cs) (gSeq (one3 cs) (one4 cs mr)) = rest
  simp [one1, t0]
theorem one_succ (cs : Cs) {z : Str} (hz : z.length ≤ 2900) {d : Nat} (hd : d ≤ 3000) {mr mo : Mf} (hr : RowP cs z d mr) : OneP cs z (d + 1) (gBody [true, false] 3 (b_ThingSigns_take_one cs mr mo)) := by
  intro i h q hi e hq
  have t0 := tell0
  have q0 : q ≠ 0 := by omega
  have ov := over_ok cs (by omega : z.length ≤ 10000) hi e
  have cm := coming_ok cs (by omega : z.length ≤ 10000) hi e
  unfold gBody
  rw [tone_is]
  show match oneP (pOne d) ((sg z).drop i) with
    | some (T, r) => ∃ i' : Nat, i' ≤ z.length ∧ (sg z).drop i' = r ∧ fin [true, false] [rd cs z h, .d (.int q)] ((gSeq (one1 cs) (gSeq (one2 cs) (gSeq (one3 cs) (one4 cs mr)))) [some (rd cs z h), some (.d (.int q)), none]) = .ok (.d T) [rd cs z (i' : Int), .d (.int q)]
    | none => ∃ h', fin [true, false] [rd cs z h, .d (.int q)] ((gSeq (one1 cs) (gSeq (one2 cs) (gSeq (one3 cs) (one4 cs mr)))) [some (rd cs z h), some (.d (.int q)), none]) = .ex XN [rd cs z h', .d (.int q)]
  cases hd0 : (sg z).drop i with
  | nil =>
    rw [hd0] at ov
    simp only [oneP]
    refine ⟨h, ?_⟩
    generalize gSeq (one2 cs) (gSeq (one3 cs) (one4 cs mr)) = rest
    simp [one1, q0, ov, t0]
  | cons c r =>
    rw [hd0] at ov cm
    have e1 : ofC (List.take 1 (c :: r)) = ofC [c] := rfl
    rw [e1] at cm
    have s1 : ∀ rest : G Fl, gSeq (one1 cs) rest [some (rd cs z h), some (.d (.int q)), none] = rest [some (rd cs z h), some (.d (.int q)), none] := fun rest => by
      simp [one1, q0, ov]
    rw [s1]
    simp only [oneP]
    cases hc : isDig c with
    | true =>
      simp only [if_true]
      obtain ⟨i', k1, k2, k3⟩ := take_number_ok cs hz hi e hd0 hc
      have i1 := in_fig c
      rw [hc] at i1
      cases hn : numOk ((c :: r).takeWhile isDig) with
      | true =>
        simp only [if_true]
        rw [show numR ((c :: r).takeWhile isDig) = some (valOf ((c :: r).takeWhile isDig)) by simp only [numR, hn, if_true]] at k3
        refine ⟨i', k1, k2, ?_⟩
        have k3 : m_ThingSigns_take_number cs [rd cs z h] = .ok (.d (.int (valOf ((c :: r).takeWhile isDig)))) [rd cs z (i' : Int)] := k3
        generalize valOf ((c :: r).takeWhile isDig) = v at k3 ⊢
        generalize (i' : Int) = h3 at k3 ⊢
        generalize gSeq (one3 cs) (one4 cs mr) = rest
        simp [one2, cm, c_fig, i1, k3]
      | false =>
        simp only [Bool.false_eq_true, if_false]
        rw [show numR ((c :: r).takeWhile isDig) = none by simp only [numR, hn, Bool.false_eq_true, if_false]] at k3
        have k3 : m_ThingSigns_take_number cs [rd cs z h] = .ex XN [rd cs z (i' : Int)] := k3
        refine ⟨(i' : Int), ?_⟩
        generalize (i' : Int) = h3 at k3 ⊢
        generalize gSeq (one3 cs) (one4 cs mr) = rest
        simp [one2, cm, c_fig, i1, k3]
    | false =>
      simp only [Bool.false_eq_true, if_false]
      have i1 := in_fig c
      rw [hc] at i1
      have s2 : ∀ rest : G Fl, gSeq (one2 cs) rest [some (rd cs z h), some (.d (.int q)), none] = rest [some (rd cs z h), some (.d (.int q)), none] := fun rest => by
        simp [one2, cm, c_fig, i1]
      rw [s2]
      have i2 := in_great c
      cases hg : isGr c with
      | false =>
        simp only [Bool.false_eq_true, if_false]
        rw [hg] at i2
        refine ⟨h, ?_⟩
        generalize one4 cs mr = rest
        simp [one3, cm, c_great, i2, t0]
      | true =>
        simp only [if_true]
        rw [hg] at i2
        have s3 : ∀ rest : G Fl, gSeq (one3 cs) rest [some (rd cs z h), some (.d (.int q)), none] = rest [some (rd cs z h), some (.d (.int q)), none] := fun rest => by
          simp [one3, cm, c_great, i2]
        rw [s3]
        obtain ⟨i', k1, k2, k3⟩ := take_mark_ok cs hz hi e hd0
        have ht := has_text_ok cs (by omega : z.length ≤ 10000) (t := PySem.Str.ofString "(") (by rw [open_len]; omega) k1 (rfl : (i' : Int) = (i' : Int))
        rw [open_len, open_sg, k2] at ht
        by_cases c40 : (r.dropWhile isSm).take 1 = [40]
        · rw [if_pos c40] at ht
          rw [if_pos c40]
          have hi2 := take_room (k := 1) (w := [40]) k1 (by rw [k2]; exact c40) rfl
          have rr := hr (i' + 1) ((i' : Int) + (1 : Nat)) (q - 1) hi2 (by omega) (by omega)
          rw [← List.drop_drop, k2] at rr
          generalize markOf c r = m at k3 ⊢
          generalize hh : (i' : Int) + (1 : Nat) = h2 at ht rr
          generalize (i' : Int) = h3 at k3 ht
          cases hp : pRow (pOne d) ((r.dropWhile isSm).drop 1) with
          | some p =>
            obtain ⟨Ts, r2⟩ := p
            rw [hp] at rr
            obtain ⟨i4, j1, j2, j3⟩ := rr
            refine ⟨i4, j1, j2, ?_⟩
            generalize (i4 : Int) = h4 at j3 ⊢
            simp [one4, k3, ht, j3]
          | none =>
            rw [hp] at rr
            obtain ⟨h4, j3⟩ := rr
            refine ⟨h4, ?_⟩
            simp [one4, k3, ht, j3]
        · rw [if_neg c40] at ht
          rw [if_neg c40]
          refine ⟨i', k1, k2, ?_⟩
          generalize markOf c r = m at k3 ⊢
          generalize (i' : Int) = h3 at k3 ht ⊢
          simp [one4, k3, ht]
theorem take_one_ok (cs : Cs) {z : Str} (hz : z.length ≤ 2900) : ∀ (d n : Nat), 2 * d + 1 ≤ n → d ≤ 3000 → OneP cs z d (mm_ThingSigns_take_one cs n) := by
  intro d
  induction d with
  | zero =>
    intro n hn _
    obtain ⟨k, rfl⟩ : ∃ k, n = k + 1 := ⟨n - 1, by omega⟩
    exact one_zero cs
  | succ d ih =>
    intro n hn hd
    obtain ⟨k, rfl⟩ : ∃ k, n = k + 2 := ⟨n - 2, by omega⟩
    exact one_succ cs hz (by omega) (row_ok cs hz (ih k (by omega) (by omega)))
/-- what a text is read as -/
def readD (z : Str) : Option D := match pOne 60 (sg z) with
  | some (T, []) => if pts T < 61 then some T else none
  | _ => none
theorem init_ok (cs : Cs) (z : Str) : m_ThingSigns___init__ cs [.ins cs.ThingSigns [], .d (.str z)] = .ok (.d .non) [rd cs z 0, .d (.str z)] := by
  simp [m_ThingSigns___init__, b_ThingSigns___init__]
theorem init_no (cs : Cs) {x : D} (h : ∀ z, x ≠ .str z) : m_ThingSigns___init__ cs [.ins cs.ThingSigns [], .d x] = .ex XN [.ins cs.ThingSigns [], .d x] := by
  have t0 := tell0
  cases x with
  | str z => exact absurd rfl (h z)
  | _ => simp [m_ThingSigns___init__, b_ThingSigns___init__, t0]
theorem more_allN {lo : List Nat → Rd} {C : D → Prop} {N : Nat} (h : ∀ s T r, s.length ≤ N → lo s = some (T, r) → C T ∧ r.length ≤ s.length) : ∀ (k : Nat) (s : List Nat) (Ts : List D) (r : List Nat), s.length ≤ N → pMore lo k s = some (Ts, r) → ∀ T ∈ Ts, C T := by
  intro k
  induction k with
  | zero => intro s Ts r _ e; cases e
  | succ k ih =>
    intro s Ts r hs e
    unfold pMore at e
    by_cases c : s.take 2 = [44, 32]
    · rw [if_pos c] at e
      obtain ⟨⟨T, r1⟩, e1, e2⟩ := Option.bind_eq_some_iff.mp e
      obtain ⟨⟨Ts', r2⟩, e3, e4⟩ := Option.map_eq_some_iff.mp e2
      cases e4
      have q := h _ _ _ (by rw [List.length_drop]; omega) e1
      have q2 := q.2
      rw [List.length_drop] at q2
      intro T' hT
      rcases List.mem_cons.mp hT with rfl | hT
      · exact q.1
      · exact ih _ _ _ (by show r1.length ≤ N; omega) e3 T' hT
    · rw [if_neg c] at e
      split at e
      · cases e; intro T hT; cases hT
      · cases e
theorem great_128 : zGreat.cps.toList.all (fun c => decide (c < 128)) = true := by decide +kernel
theorem small_128 : zSmall.cps.toList.all (fun c => decide (c < 128)) = true := by decide +kernel
theorem mark_sok {c : Nat} {r : List Nat} (hc : isGr c = true) (hl : r.length ≤ 2900) : SOk 3000 (markOf c r) := by
  refine ⟨strOkI.mpr fun x hx => ?_, ?_⟩
  · have hx : x ∈ c :: r.takeWhile isSm := by simpa [markOf, ofC] using hx
    rcases List.mem_cons.mp hx with rfl | hx
    · have := List.all_eq_true.mp great_128 x (of_decide_eq_true hc)
      simp at this; omega
    · have := List.all_eq_true.mp small_128 x (of_decide_eq_true (tw_mem hx))
      simp at this; omega
  · unfold markOf
    rw [len_ofC]
    have := tw_le (p := isSm) r
    simp; omega
theorem read_tx : ∀ (d : Nat) (s : List Nat) (T : D) (r : List Nat), s.length ≤ 2900 → pOne d s = some (T, r) → TxOk T := by
  intro d
  induction d with
  | zero => intro s T r _ e; cases e
  | succ d ih =>
    intro s T r hs e
    cases s with
    | nil => cases e
    | cons c s =>
      simp only [List.length_cons] at hs
      simp only [pOne, oneP] at e
      have mk : isGr c = true → ∀ Ts : List D, (∀ T ∈ Ts, TxOk T) → TxOk (.tup [.str (markOf c s), .tup Ts]) := fun hg Ts h => by
        simp only [TxOk, TxOks]
        exact ⟨(mark_sok hg (by omega)).mono (by omega), txOks_iff.mpr h, trivial⟩
      cases hc : isDig c with
      | true =>
        rw [hc] at e
        simp only [if_true] at e
        split at e
        · cases e; simp [TxOk]
        · cases e
      | false =>
        rw [hc] at e
        simp only [Bool.false_eq_true, if_false] at e
        cases hg1 : isGr c with
        | false => rw [hg1] at e; simp at e
        | true =>
          rw [hg1] at e
          simp only [if_true] at e
          have hw := dw_le (p := isSm) s
          split at e
          · obtain ⟨⟨Ts, r2⟩, e1, e2⟩ := Option.map_eq_some_iff.mp e
            cases e2
            unfold pRow at e1
            obtain ⟨⟨T, r1⟩, e3, e4⟩ := Option.bind_eq_some_iff.mp e1
            obtain ⟨⟨Ts', r3⟩, e5, e6⟩ := Option.map_eq_some_iff.mp e4
            cases e6
            have l1 := one_lt _ _ _ _ e3
            have hs2 : ((s.dropWhile isSm).drop 1).length ≤ 2900 := by rw [List.length_drop]; omega
            refine mk hg1 _ fun T' hT => ?_
            rcases List.mem_cons.mp hT with rfl | hT
            · exact ih _ _ _ hs2 e3
            · exact more_allN (N := 2900) (fun s T r hs e => ⟨ih s T r hs e, Nat.le_of_lt (one_lt _ _ _ _ e)⟩) _ _ _ _ (by show r1.length ≤ 2900; omega) e5 T' hT
          · cases e
            exact mk hg1 _ (by simp)
def scanC (w : Str) : G Bool := (gAnd (gTest (g2 oLt (gVar 3) (gCal oLen (gConsA (gVar 0) gNilA)))) (gTest (g2 oIn (g2 oIx (gVar 0) (gVar 3)) (gC (.str w)))))
def scanB : G Fl := (gAsg 3 (g2 oAdd (gVar 3) (gC (.int 1))))
def at2 : G Fl := (gIf (gTest (g2 oGt (gVar 3) (gVar 1))) (gSeq (gAsg 5 (gSl oSl (gVar 0) (gP (gVar 1)) (gP (gVar 3)))) (gSeq (gIf (gOr (gTest (g2 oGt (gCal oLen (gConsA (gVar 5) gNilA)) (gC (.int 10)))) (gOr (gAnd (gTest (g2 oEq (g2 oIx (gVar 5) (gC (.int 0))) (gC (.str (PySem.Str.ofString "0"))))) (gTest (g2 oGt (gCal oLen (gConsA (gVar 5) gNilA)) (gC (.int 1))))) (gTest (g2 oGt (gCal oIntS (gConsA (gVar 5) gNilA)) (g2 oPow (gC (.int 10)) (gC (.int 9))))))) (gRetD (gC .non)) gPass) (gRetD (gTup (gConsA (gCal oIntS (gConsA (gVar 5) gNilA)) (gConsA (gVar 3) gNilA)))))) gPass)
def at3 : G Fl := (gIf (gOr (gTest (g2 oEq (gVar 1) (gCal oLen (gConsA (gVar 0) gNilA)))) (gOr (gTest (g2 oNotIn (g2 oIx (gVar 0) (gVar 1)) (gC (.str (PySem.Str.ofString "ABCDEFGHIJKLMNOPQRSTUVWXYZ"))))) (gTest (g2 oEq (gVar 2) (gC (.int 0)))))) (gRetD (gC .non)) gPass)
def at6 : G Fl := (gIf (gTest (g2 oGt (g2 oSub (gVar 3) (gVar 1)) (gC (.int 6)))) (gRetD (gC .non)) gPass)
def at7 : G Fl := (gIf (gTest (g2 oNe (gSl oSl (gVar 0) (gP (gVar 3)) (gP (g2 oAdd (gVar 3) (gC (.int 1))))) (gC (.str (PySem.Str.ofString "("))))) (gRetD (gTup (gConsA (gTup (gConsA (gSl oSl (gVar 0) (gP (gVar 1)) (gP (gVar 3))) (gConsA (gTup gNilA) gNilA))) (gConsA (gVar 3) gNilA)))) gPass)
def at8 (mr : Mf) : G Fl := gSeq (gAsg 4 (gToD (gCall mr (gcCons (gcD (gVar 0)) (gcCons (gcD (g2 oAdd (gVar 3) (gC (.int 1)))) (gcCons (gcD (g2 oSub (gVar 2) (gC (.int 1)))) gcNil)))))) (gRetD (gIfE (gTest (g2 oIsN (gVar 4) (gC .non))) (gC .non) (gTup (gConsA (gTup (gConsA (gSl oSl (gVar 0) (gP (gVar 1)) (gP (gVar 3))) (gConsA (g2 oIx (gVar 4) (gC (.int 0))) gNilA))) (gConsA (g2 oIx (gVar 4) (gC (.int 1))) gNilA)))))
theorem at_is (mo mr : Mf) : b__law_thing_at mo mr = gSeq (gAsg 3 (gVar 1)) (gSeq (whileR (scanC zFig) scanB 3000) (gSeq at2 (gSeq at3 (gSeq (gAsg 3 (g2 oAdd (gVar 1) (gC (.int 1)))) (gSeq (whileR (scanC zSmall) scanB 3000) (gSeq at6 (gSeq at7 (at8 mr)))))))) := rfl
def lb0 (mo : Mf) : G Fl := (gAsg 4 (gToD (gCall mo (gcCons (gcD (gVar 0)) (gcCons (gcD (gVar 1)) (gcCons (gcD (gVar 2)) gcNil))))))
def lb1 : G Fl := (gIf (gTest (g2 oIsN (gVar 4) (gC .non))) (gRetD (gC .non)) gPass)
def lb2 : G Fl := (gApp 3 (g2 oIx (gVar 4) (gC (.int 0))))
def lb3 : G Fl := (gIf (gTest (g2 oEq (gSl oSl (gVar 0) (gP (g2 oIx (gVar 4) (gC (.int 1)))) (gP (g2 oAdd (g2 oIx (gVar 4) (gC (.int 1))) (gC (.int 1))))) (gC (.str (PySem.Str.ofString ")"))))) (gRetD (gIfE (gTest (g2 oLt (gLenS (gSlot 3)) (gC (.int 5)))) (gTup (gConsA (gTupS (gSlot 3)) (gConsA (g2 oAdd (g2 oIx (gVar 4) (gC (.int 1))) (gC (.int 1))) gNilA))) (gC .non))) gPass)
def lb4 : G Fl := (gIf (gTest (g2 oNe (gSl oSl (gVar 0) (gP (g2 oIx (gVar 4) (gC (.int 1)))) (gP (g2 oAdd (g2 oIx (gVar 4) (gC (.int 1))) (gC (.int 2))))) (gC (.str (PySem.Str.ofString ", "))))) (gRetD (gC .non)) gPass)
def lb5 : G Fl := (gAsg 1 (g2 oAdd (g2 oIx (gVar 4) (gC (.int 1))) (gC (.int 2))))
def lrow (mo : Mf) : G Fl := gSeq (lb0 mo) (gSeq lb1 (gSeq lb2 (gSeq lb3 (gSeq lb4 lb5))))
theorem lrow_is (mo mr : Mf) : b__law_row_at mo mr = gSeq (gAsgO 3 (gLst gNilA)) (whileR (gTruth (gC (.bl true))) (lrow mo) 3001) := rfl
/-! ### the law's reading -/
def ThingL (z : Str) (d : Nat) (mo : Mf) : Prop := ∀ (i : Nat) (h q : Int), i ≤ z.length → h = (i : Int) → q = (d : Int) →
  match lOne d ((sg z).drop i) with
  | some (T, r) => ∃ i' : Nat, i' ≤ z.length ∧ (sg z).drop i' = r ∧ mo [.d (.str z), .d (.int h), .d (.int q)] = .ok (.d (.tup [T, .int (i' : Int)])) [.d (.str z), .d (.int h), .d (.int q)]
  | none => mo [.d (.str z), .d (.int h), .d (.int q)] = .ok (.d .non) [.d (.str z), .d (.int h), .d (.int q)]
def RowL (z : Str) (d : Nat) (mr : Mf) : Prop := ∀ (i : Nat) (h q : Int), i ≤ z.length → h = (i : Int) → q = (d : Int) →
  match lRow (lOne d) ((sg z).drop i) with
  | some (Ts, r) => ∃ i' : Nat, i' ≤ z.length ∧ (sg z).drop i' = r ∧ mr [.d (.str z), .d (.int h), .d (.int q)] = .ok (.d (.tup [.tup Ts, .int (i' : Int)])) [.d (.str z), .d (.int h), .d (.int q)]
  | none => mr [.d (.str z), .d (.int h), .d (.int q)] = .ok (.d .non) [.d (.str z), .d (.int h), .d (.int q)]
theorem lone_lt : ∀ (d : Nat) (s : List Nat) (T : D) (r : List Nat), lOne d s = some (T, r) → r.length < s.length := by
  have key : ∀ (zero : Bool) (one : List Nat → Rd), (∀ s T r, one s = some (T, r) → r.length < s.length) → ∀ (s : List Nat) (T : D) (r : List Nat), oneL zero one s = some (T, r) → r.length < s.length := by
    intro zero one ih s T r e
    cases s with
    | nil => cases e
    | cons c s =>
      simp only [oneL] at e
      cases hc : isDig c with
      | true =>
        rw [hc] at e
        simp only [if_true] at e
        split at e
        · cases e
          rw [List.dropWhile_cons_of_pos hc]
          have := dw_le (p := isDig) s
          simp; omega
        · cases e
      | false =>
        rw [hc] at e
        simp only [Bool.false_eq_true, if_false] at e
        have hw := dw_le (p := isSm) s
        split at e
        · split at e
          · split at e
            · obtain ⟨⟨Ts, r2⟩, e1, e2⟩ := Option.map_eq_some_iff.mp e
              cases e2
              unfold lRow at e1
              obtain ⟨⟨Ts2, r4⟩, e3, e4⟩ := Option.bind_eq_some_iff.mp e1
              split at e4
              · cases e4
                unfold pRow at e3
                obtain ⟨⟨T, r1⟩, f1, f2⟩ := Option.bind_eq_some_iff.mp e3
                obtain ⟨⟨Ts', r3⟩, e5, e6⟩ := Option.map_eq_some_iff.mp f2
                cases e6
                have h1 := ih _ _ _ f1
                have h2 := more_le ih _ _ _ _ e5
                rw [List.length_drop] at h1
                have h2 : r3.length ≤ r1.length := h2
                simp only [List.length_cons]
                show r3.length < _
                omega
              · cases e4
            · cases e
              simp only [List.length_cons]; omega
          · cases e
        · cases e
  intro d
  induction d with
  | zero => exact key true _ fun _ _ _ e => by cases e
  | succ d ih => exact key false _ ih
theorem scan_ok {z w : Str} (hz : z.length ≤ 10000) (p : Nat → Bool) (hp : ∀ c, inStr (ofC [c]) w = p c) : ∀ (n i : Nat) (h : Int) (a b x y : Option Ob), i ≤ z.length → h = (i : Int) → ((sg z).drop i).length < n →
    whileR (scanC w) scanB n [some (.d (.str z)), a, b, some (.d (.int h)), x, y] = .ok .nx [some (.d (.str z)), a, b, some (.d (.int ((i + (((sg z).drop i).takeWhile p).length : Nat) : Int))), x, y] := by
  intro n
  induction n with
  | zero => intro i h a b x y hi e hn; omega
  | succ n ih =>
    intro i h a b x y hi e hn
    have s := sz_ok hz
    have hl : ((sg z).drop i).length = z.length - i := by rw [List.length_drop, sg_len]
    have ln : oLen [.str z] = some (.int (z.length : Int)) := by rw [oLen_str, if_pos s]
    cases hd : (sg z).drop i with
    | nil =>
      rw [hd] at hl
      simp at hl
      have lt : ¬ h < (z.length : Int) := by omega
      generalize (z.length : Int) = L at ln lt
      rw [whileR_end (Γ1 := [some (.d (.str z)), a, b, some (.d (.int h)), x, y]) (by simp [scanC, ln, lt, -oLen_str])]
      simp [e]
    | cons c r =>
      rw [hd] at hl hn
      simp only [List.length_cons] at hn hl
      have lt : h < (z.length : Int) := by omega
      have ix : oIx (.str z) (.int h) = some (.str (ofC [c])) := by
        rw [oIx_str, if_pos s]
        have : (sg z)[i]? = some c := by
          have := congrArg (fun l => l[0]?) hd
          simpa using this
        show Option.map _ (atI (sg z) h) = _
        rw [e, atI_nat (j := i) this]
        rfl
      obtain ⟨d1, d2⟩ := drop_succ hd
      generalize (z.length : Int) = L at ln lt
      have i1 := hp c
      cases hc : p c with
      | true =>
        rw [hc] at i1
        rw [whileR_step (Γ1 := [some (.d (.str z)), a, b, some (.d (.int h)), x, y]) (Γ2 := [some (.d (.str z)), a, b, some (.d (.int (h + 1))), x, y]) (fl := .nx) (by simp [scanC, ln, lt, ix, i1, -oLen_str, -oIx_str]) (by simp [scanB]) (.inl rfl)]
        rw [ih (i + 1) (h + 1) a b x y d2 (by omega) (by rw [d1]; omega), d1, List.takeWhile_cons_of_pos hc]
        simp only [List.length_cons]
        rw [show i + 1 + (List.takeWhile p r).length = i + ((List.takeWhile p r).length + 1) by omega]
      | false =>
        rw [hc] at i1
        rw [whileR_end (Γ1 := [some (.d (.str z)), a, b, some (.d (.int h)), x, y]) (by simp [scanC, ln, lt, ix, i1, -oLen_str, -oIx_str])]
        rw [List.takeWhile_cons_of_neg (by simp [hc])]
        simp [e]
theorem seq_nx {A B : G Fl} {Γ Γ1 : Gm.Env} (h : A Γ = .ok .nx Γ1) : gSeq A B Γ = B Γ1 := by
  unfold gSeq
  rw [h]
  rfl
theorem seq_rt {A B : G Fl} {Γ Γ1 : Gm.Env} {o : Ob} (h : A Γ = .ok (.rt o) Γ1) : gSeq A B Γ = .ok (.rt o) Γ1 := by
  unfold gSeq
  rw [h]
  rfl
/-- the law's look at a word of figures -/
theorem at2_ok {z : Str} (hz : z.length ≤ 2900) {i : Nat} (hi : i ≤ z.length) {h : Int} (e : h = (i : Int)) {c : Nat} {r : List Nat} (hd : (sg z).drop i = c :: r) (hc : isDig c = true) (q x y : Option Ob) {h2 : Int} (e2 : h2 = ((i + ((c :: r).takeWhile isDig).length : Nat) : Int)) :
    ∃ Γ4 : Option Ob, at2 [some (.d (.str z)), some (.d (.int h)), q, some (.d (.int h2)), x, y] = .ok (.rt (.d (if numOk ((c :: r).takeWhile isDig) && decide (valOf ((c :: r).takeWhile isDig) ≤ 1000000000) then .tup [.int (valOf ((c :: r).takeWhile isDig)), .int h2] else .non))) [some (.d (.str z)), some (.d (.int h)), q, some (.d (.int h2)), x, Γ4] := by
  have ct := cut_at z hi ((c :: r).takeWhile isDig).length e e2
  rw [hd, take_tw] at ct
  have s := sz_ok (by omega : z.length ≤ 10000)
  have hw : (c :: r).takeWhile isDig = c :: r.takeWhile isDig := List.takeWhile_cons_of_pos hc
  have hall : ((c :: r).takeWhile isDig).all isDig = true := List.all_eq_true.mpr fun x hx => tw_mem hx
  have hl : ((sg z).drop i).length = z.length - i := by rw [List.length_drop, sg_len]
  rw [hd] at hl
  simp only [List.length_cons] at hl
  have tl := tw_le (p := isDig) r
  generalize hg : r.takeWhile isDig = w at hw tl
  rw [hw] at ct hall e2 ⊢
  have gt : h < h2 := by rw [e2, e]; simp only [List.length_cons]; omega
  have ll : (ofC (c :: w)).length = w.length + 1 := by rw [len_ofC]; rfl
  have hsz : (ofC (c :: w)).length ≤ sizeLine := by rw [ll]; exact Nat.le_trans (show w.length + 1 ≤ 3000 by omega) (by decide)
  have i0 : oIx (.str (ofC (c :: w))) (.int 0) = some (.str (ofC [c])) := by
    rw [oIx_str, if_pos hsz]
    simp [ofC]
  have e0 : PySem.Str.ofString "0" = ofC [48] := by decide +kernel
  have q1 : oEq (.str (ofC [c])) (.str (PySem.Str.ofString "0")) = some (.bl (decide (c = 48))) := by
    rw [e0]
    show some (D.bl (decide (ofC [c] = ofC [48]))) = _
    rw [show decide (ofC [c] = ofC [48]) = decide (c = 48) from decide_eq_decide.mpr (by rw [ofC_inj]; simp)]
  have ln : oLen [.str (ofC (c :: w))] = some (.int ((w.length + 1 : Nat) : Int)) := by rw [oLen_str, if_pos hsz, ll]
  refine ⟨some (.d (.str (ofC (c :: w)))), ?_⟩
  by_cases l10 : w.length + 1 ≤ 10
  · have iv := (int_of hall (by simp) (by simp; omega)).1
    have e1 : ¬ (10 : Int) < ((w.length + 1 : Nat) : Int) := by omega
    have hl640 : (ofC (c :: w)).length ≤ 640 := by rw [ll]; omega
    have oi : oIntS [.str (ofC (c :: w))] = some (.int (valOf (c :: w))) := by simp [hl640, iv]
    have nk : numOk (c :: w) = !(decide (c = 48) && decide (1 < ((w.length + 1 : Nat) : Int))) := by
      have : decide (1 < ((w.length + 1 : Nat) : Int)) = decide (1 < (c :: w).length) := decide_eq_decide.mpr (by simp; omega)
      rw [this]
      simp [numOk, l10]
    rw [nk]
    generalize ((w.length + 1 : Nat) : Int) = L at e1 ln
    generalize valOf (c :: w) = v at oi
    generalize ofC (c :: w) = B at ct i0 ln oi
    generalize ofC [c] = A at i0 q1
    cases h48 : decide (c = 48) with
    | true =>
      rw [h48] at q1
      by_cases l1 : 1 < L
      · simp [at2, gt, ct, s, ln, e1, i0, q1, l1, -oEq_str, -oNe_str, -oIx_str, -oLen_str, -oIntS]
      · by_cases lv : v ≤ 1000000000
        · have lv2 : ¬ 1000000000 < v := by omega
          simp [at2, gt, ct, s, ln, e1, i0, q1, l1, oi, lv, lv2, -oEq_str, -oNe_str, -oIx_str, -oLen_str, -oIntS]
        · have lv2 : 1000000000 < v := by omega
          simp [at2, gt, ct, s, ln, e1, i0, q1, l1, oi, lv, lv2, -oEq_str, -oNe_str, -oIx_str, -oLen_str, -oIntS]
    | false =>
      rw [h48] at q1
      by_cases lv : v ≤ 1000000000
      · have lv2 : ¬ 1000000000 < v := by omega
        simp [at2, gt, ct, s, ln, e1, i0, q1, oi, lv, lv2, -oEq_str, -oNe_str, -oIx_str, -oLen_str, -oIntS]
      · have lv2 : 1000000000 < v := by omega
        simp [at2, gt, ct, s, ln, e1, i0, q1, oi, lv, lv2, -oEq_str, -oNe_str, -oIx_str, -oLen_str, -oIntS]
  · have e1 : (10 : Int) < ((w.length + 1 : Nat) : Int) := by omega
    have nk : numOk (c :: w) = false := by simp [numOk, l10]
    rw [nk]
    generalize ((w.length + 1 : Nat) : Int) = L at e1 ln
    generalize ofC (c :: w) = B at ct i0 ln
    simp [at2, gt, ct, s, ln, e1, -oEq_str, -oNe_str, -oIx_str, -oLen_str, -oIntS]
theorem at2_no {z : Str} {h : Int} (q x y : Option Ob) : at2 [some (.d (.str z)), some (.d (.int h)), q, some (.d (.int h)), x, y] = .ok .nx [some (.d (.str z)), some (.d (.int h)), q, some (.d (.int h)), x, y] := by
  simp [at2]
theorem ix_at {z : Str} (hz : z.length ≤ 10000) {i : Nat} {h : Int} (e : h = (i : Int)) {c : Nat} {r : List Nat} (hd : (sg z).drop i = c :: r) : oIx (.str z) (.int h) = some (.str (ofC [c])) := by
  rw [oIx_str, if_pos (sz_ok hz)]
  have : (sg z)[i]? = some c := by
    have := congrArg (fun l => l[0]?) hd
    simpa using this
  show Option.map _ (atI (sg z) h) = _
  rw [e, atI_nat (j := i) this]
  rfl
/-- thing_at from the mark on -/
def atMark (mr : Mf) : G Fl := gSeq (gAsg 3 (g2 oAdd (gVar 1) (gC (.int 1)))) (gSeq (whileR (scanC zSmall) scanB 3000) (gSeq at6 (gSeq at7 (at8 mr))))
theorem mark_at {z : Str} (hz : z.length ≤ 2900) {d : Nat} {mr : Mf} (hr : RowL z d mr) {i : Nat} (hi : i ≤ z.length) {h q : Int} (e : h = (i : Int)) (hq : q = ((d + 1 : Nat) : Int)) {c : Nat} {r : List Nat} (hd : (sg z).drop i = c :: r) (x y w : Option Ob) :
    match (if (markOf c r).length ≤ 6 then (if (r.dropWhile isSm).take 1 = [40] then (lRow (lOne d) ((r.dropWhile isSm).drop 1)).map fun p => (D.tup [.str (markOf c r), .tup p.1], p.2) else some (D.tup [.str (markOf c r), .tup []], r.dropWhile isSm)) else none : Rd) with
    | some (T, r) => ∃ (i' : Nat) (a b c : Option Ob), i' ≤ z.length ∧ (sg z).drop i' = r ∧ atMark mr [some (.d (.str z)), some (.d (.int h)), some (.d (.int q)), w, x, y] = .ok (.rt (.d (.tup [T, .int (i' : Int)]))) [some (.d (.str z)), some (.d (.int h)), some (.d (.int q)), a, b, c]
    | none => ∃ (a b c : Option Ob), atMark mr [some (.d (.str z)), some (.d (.int h)), some (.d (.int q)), w, x, y] = .ok (.rt (.d .non)) [some (.d (.str z)), some (.d (.int h)), some (.d (.int q)), a, b, c] := by
  obtain ⟨d1, d2⟩ := drop_succ hd
  have hl : ((sg z).drop i).length = z.length - i := by rw [List.length_drop, sg_len]
  rw [hd] at hl
  simp only [List.length_cons] at hl
  have tl := tw_le (p := isSm) r
  have sc := scan_ok (by omega : z.length ≤ 10000) isSm in_small 3000 (i + 1) (h + 1) (some (.d (.int h))) (some (.d (.int q))) x y d2 (by omega) (by rw [d1]; omega)
  rw [d1] at sc
  have s := sz_ok (by omega : z.length ≤ 10000)
  have hm : i + 1 + (r.takeWhile isSm).length ≤ z.length := by omega
  have hdr : (sg z).drop (i + 1 + (r.takeWhile isSm).length) = r.dropWhile isSm := by rw [← List.drop_drop, d1, drop_tw]
  have ct := cut_at z hi (1 + (r.takeWhile isSm).length) e (show ((i + 1 + (r.takeWhile isSm).length : Nat) : Int) = ((i + (1 + (r.takeWhile isSm).length) : Nat) : Int) by omega)
  rw [hd, show List.take (1 + (r.takeWhile isSm).length) (c :: r) = c :: r.takeWhile isSm by rw [Nat.add_comm, List.take_succ_cons, take_tw]] at ct
  have ct : cutS z (some h) (some ((i + 1 + (r.takeWhile isSm).length : Nat) : Int)) = markOf c r := ct
  have co := cut_at z hm 1 (rfl : ((i + 1 + (r.takeWhile isSm).length : Nat) : Int) = _) (show ((i + 1 + (r.takeWhile isSm).length : Nat) : Int) + 1 = ((i + 1 + (r.takeWhile isSm).length + 1 : Nat) : Int) by omega)
  rw [hdr] at co
  have ml : (markOf c r).length = 1 + (r.takeWhile isSm).length := by unfold markOf; rw [len_ofC]; simp; omega
  have dl : ((i + 1 + (r.takeWhile isSm).length : Nat) : Int) - h = (((markOf c r).length : Nat) : Int) := by rw [ml, e]; omega
  have lg6 : (6 : Int) < (((markOf c r).length : Nat) : Int) ↔ ¬ (markOf c r).length ≤ 6 := by omega
  have rr := fun hi2 : i + 1 + (r.takeWhile isSm).length + 1 ≤ z.length => hr (i + 1 + (r.takeWhile isSm).length + 1) (((i + 1 + (r.takeWhile isSm).length : Nat) : Int) + 1) (q - 1) hi2 (by omega) (by omega)
  have room := fun c40 : (r.dropWhile isSm).take 1 = [40] => take_room (k := 1) (w := [40]) hm (by rw [hdr]; exact c40) rfl
  rw [← List.drop_drop, hdr] at rr
  have ih1 : ∃ i' : Nat, i' = i + 1 + (r.takeWhile isSm).length := ⟨_, rfl⟩
  obtain ⟨i', hi'⟩ := ih1
  rw [← hi'] at sc hm hdr ct co dl rr room
  have e0 : PySem.Str.ofString "(" = ofC [40] := by decide +kernel
  have nq : oNe (.str (ofC ((r.dropWhile isSm).take 1))) (.str (PySem.Str.ofString "(")) = some (.bl (!decide ((r.dropWhile isSm).take 1 = [40]))) := by
    rw [e0]
    show some (D.bl (!decide (ofC _ = ofC [40]))) = _
    rw [show decide (ofC ((r.dropWhile isSm).take 1) = ofC [40]) = decide ((r.dropWhile isSm).take 1 = [40]) from decide_eq_decide.mpr ofC_inj]
  generalize hh : ((i' : Nat) : Int) = h3 at sc ct co dl rr
  by_cases c6 : (markOf c r).length ≤ 6
  · rw [if_pos c6]
    have lt6 : ¬ (6 : Int) < h3 - h := by rw [dl]; omega
    by_cases c40 : (r.dropWhile isSm).take 1 = [40]
    · rw [if_pos c40]
      rw [decide_eq_true c40] at nq
      have rr := rr (room c40)
      generalize markOf c r = m at ct ⊢
      generalize ofC ((r.dropWhile isSm).take 1) = O at co nq
      cases hp : lRow (lOne d) ((r.dropWhile isSm).drop 1) with
      | some p =>
        obtain ⟨Ts, r2⟩ := p
        rw [hp] at rr
        obtain ⟨i4, j1, j2, j3⟩ := rr
        refine ⟨i4, some (.d (.int h3)), some (.d (.tup [.tup Ts, .int (i4 : Int)])), y, j1, j2, ?_⟩
        generalize (i4 : Int) = h4 at j3 ⊢
        simp [atMark, sc, at6, lt6, at7, co, s, nq, at8, j3, ct, -oNe_str]
      | none =>
        rw [hp] at rr
        refine ⟨some (.d (.int h3)), some (.d .non), y, ?_⟩
        have rr : mr [.d (.str z), .d (.int (h3 + 1)), .d (.int (q - 1))] = .ok (.d .non) [.d (.str z), .d (.int (h3 + 1)), .d (.int (q - 1))] := rr
        simp [atMark, sc, at6, lt6, at7, co, s, nq, at8, rr, -oNe_str]
    · rw [if_neg c40]
      rw [decide_eq_false c40] at nq
      refine ⟨i', some (.d (.int h3)), x, y, hm, hdr, ?_⟩
      rw [hh]
      generalize markOf c r = m at ct ⊢
      generalize ofC ((r.dropWhile isSm).take 1) = O at co nq
      simp [atMark, sc, at6, lt6, at7, co, s, nq, ct, -oNe_str]
  · rw [if_neg c6]
    have lt6 : (6 : Int) < h3 - h := by rw [dl]; omega
    refine ⟨some (.d (.int h3)), x, y, ?_⟩
    simp [atMark, sc, at6, lt6]
theorem at3_no (z : Str) (hz : z.length ≤ 10000) {i : Nat} (hi : i ≤ z.length) {h : Int} (e : h = (i : Int)) (q : Int) (w x y : Option Ob) :
    at3 [some (.d (.str z)), some (.d (.int h)), some (.d (.int q)), w, x, y] = (match (sg z).drop i with
      | [] => .ok (.rt (.d .non)) [some (.d (.str z)), some (.d (.int h)), some (.d (.int q)), w, x, y]
      | c :: _ => if isGr c && !decide (q = 0) then .ok .nx [some (.d (.str z)), some (.d (.int h)), some (.d (.int q)), w, x, y] else .ok (.rt (.d .non)) [some (.d (.str z)), some (.d (.int h)), some (.d (.int q)), w, x, y]) := by
  have s := sz_ok hz
  have ln : oLen [.str z] = some (.int (z.length : Int)) := by rw [oLen_str, if_pos s]
  have hl : ((sg z).drop i).length = z.length - i := by rw [List.length_drop, sg_len]
  cases hd : (sg z).drop i with
  | nil =>
    rw [hd] at hl
    simp at hl
    have eq : h = (z.length : Int) := by omega
    generalize (z.length : Int) = L at ln eq
    subst eq
    simp [at3, ln, -oLen_str]
  | cons c r =>
    have ix := ix_at hz e hd
    rw [hd] at hl
    simp only [List.length_cons] at hl
    have ne : ¬ h = (z.length : Int) := by omega
    generalize (z.length : Int) = L at ln ne
    have i1 := in_great c
    cases hg : isGr c with
    | false =>
      rw [hg] at i1
      simp [at3, ln, ne, ix, i1, hg, -oLen_str, -oIx_str]
    | true =>
      rw [hg] at i1
      by_cases q0 : q = 0
      · simp [at3, ln, ne, ix, i1, hg, q0, -oLen_str, -oIx_str]
      · simp [at3, ln, ne, ix, i1, hg, q0, -oLen_str, -oIx_str]
/-- one step of the law's reader -/
theorem thing_step {z : Str} (hz : z.length ≤ 2900) {d : Nat} {mo mr : Mf} (hr : ∀ k, d = k + 1 → RowL z k mr) : ThingL z d (gBody [false, false, false] 6 (b__law_thing_at mo mr)) := by
  intro i h q hi e hq
  have hl : ((sg z).drop i).length = z.length - i := by rw [List.length_drop, sg_len]
  have sc := scan_ok (by omega : z.length ≤ 10000) isDig in_fig 3000 i h (some (.d (.int h))) (some (.d (.int q))) none none hi e (by omega)
  have a3 := fun w => at3_no z (by omega : z.length ≤ 10000) hi e q w none none
  unfold gBody
  rw [at_is]
  have start : (gSeq (gAsg 3 (gVar 1)) (gSeq (whileR (scanC zFig) scanB 3000) (gSeq at2 (gSeq at3 (atMark mr))))) ([Ob.d (.str z), .d (.int h), .d (.int q)].map some ++ List.replicate (6 - [Ob.d (.str z), .d (.int h), .d (.int q)].length) none) = (gSeq at2 (gSeq at3 (atMark mr))) [some (.d (.str z)), some (.d (.int h)), some (.d (.int q)), some (.d (.int ((i + (((sg z).drop i).takeWhile isDig).length : Nat) : Int))), none, none] := by
    rw [seq_nx (Γ1 := [some (.d (.str z)), some (.d (.int h)), some (.d (.int q)), some (.d (.int h)), none, none]) (by simp), seq_nx sc]
  have start2 : fin [false, false, false] [.d (.str z), .d (.int h), .d (.int q)] ((gSeq (gAsg 3 (gVar 1)) (gSeq (whileR (scanC zFig) scanB 3000) (gSeq at2 (gSeq at3 (atMark mr))))) ([Ob.d (.str z), .d (.int h), .d (.int q)].map some ++ List.replicate (6 - [Ob.d (.str z), .d (.int h), .d (.int q)].length) none)) = _ := congrArg _ start
  show match lOne d ((sg z).drop i) with
    | some (T, r) => ∃ i' : Nat, i' ≤ z.length ∧ (sg z).drop i' = r ∧ fin [false, false, false] [.d (.str z), .d (.int h), .d (.int q)] ((gSeq (gAsg 3 (gVar 1)) (gSeq (whileR (scanC zFig) scanB 3000) (gSeq at2 (gSeq at3 (atMark mr))))) ([Ob.d (.str z), .d (.int h), .d (.int q)].map some ++ List.replicate (6 - [Ob.d (.str z), .d (.int h), .d (.int q)].length) none)) = .ok (.d (.tup [T, .int (i' : Int)])) [.d (.str z), .d (.int h), .d (.int q)]
    | none => fin [false, false, false] [.d (.str z), .d (.int h), .d (.int q)] ((gSeq (gAsg 3 (gVar 1)) (gSeq (whileR (scanC zFig) scanB 3000) (gSeq at2 (gSeq at3 (atMark mr))))) ([Ob.d (.str z), .d (.int h), .d (.int q)].map some ++ List.replicate (6 - [Ob.d (.str z), .d (.int h), .d (.int q)].length) none)) = .ok (.d .non) [.d (.str z), .d (.int h), .d (.int q)]
  rw [start2]
  have hq0 : decide (q = 0) = decide (d = 0) := decide_eq_decide.mpr (by omega)
  cases hd : (sg z).drop i with
  | nil =>
    have n0 : lOne d [] = none := by cases d <;> rfl
    rw [n0]
    have a3 := a3 (some (.d (.int h)))
    rw [hd] at a3
    have e0 : ((i + (List.takeWhile isDig []).length : Nat) : Int) = h := by rw [e]; rfl
    show fin _ _ (gSeq at2 _ [_, _, _, some (.d (.int ((i + (List.takeWhile isDig []).length : Nat) : Int))), _, _]) = _
    rw [e0, seq_nx (at2_no _ _ _), seq_rt a3]
    simp
  | cons c r =>
    have lo : lOne d (c :: r) = oneL (decide (d = 0)) (lOne (d - 1)) (c :: r) := by
      cases d with
      | zero => simp [lOne, oneL]
      | succ d => simp [lOne]
    rw [lo]
    simp only [oneL]
    cases hc : isDig c with
    | true =>
      obtain ⟨Γ4, a2⟩ := at2_ok hz hi e hd hc (some (.d (.int q))) none none (rfl : ((i + ((c :: r).takeWhile isDig).length : Nat) : Int) = _)
      have hdr : (sg z).drop (i + ((c :: r).takeWhile isDig).length) = (c :: r).dropWhile isDig := by rw [← List.drop_drop, hd, drop_tw]
      have tl := tw_le (p := isDig) (c :: r)
      rw [hd] at hl
      simp only [if_true]
      rw [seq_rt a2]
      cases hk : (numOk ((c :: r).takeWhile isDig) && decide (valOf ((c :: r).takeWhile isDig) ≤ 1000000000)) with
      | true =>
        simp only [if_true]
        refine ⟨i + ((c :: r).takeWhile isDig).length, by omega, hdr, ?_⟩
        generalize ((i + ((c :: r).takeWhile isDig).length : Nat) : Int) = h5
        simp
      | false =>
        simp
    | false =>
      have tw0 : (c :: r).takeWhile isDig = [] := List.takeWhile_cons_of_neg (by simp [hc])
      rw [tw0]
      have e0 : ((i + ([] : List Nat).length : Nat) : Int) = h := by rw [e]; rfl
      rw [e0, seq_nx (at2_no _ _ _)]
      have a3 := a3 (some (.d (.int h)))
      rw [hd, hq0] at a3
      have a3 : at3 [some (.d (.str z)), some (.d (.int h)), some (.d (.int q)), some (.d (.int h)), none, none] = if (isGr c && !decide (d = 0)) = true then .ok .nx [some (.d (.str z)), some (.d (.int h)), some (.d (.int q)), some (.d (.int h)), none, none] else .ok (.rt (.d .non)) [some (.d (.str z)), some (.d (.int h)), some (.d (.int q)), some (.d (.int h)), none, none] := a3
      simp only [Bool.false_eq_true, if_false]
      by_cases cg : (isGr c && !decide (d = 0)) = true
      · rw [if_pos cg] at a3 ⊢
        rw [seq_nx a3]
        have hd0 : d ≠ 0 := by
          simp only [Bool.and_eq_true, Bool.not_eq_true', decide_eq_false_iff_not] at cg
          exact cg.2
        obtain ⟨k, rfl⟩ : ∃ k, d = k + 1 := ⟨d - 1, by omega⟩
        have mk := mark_at hz (hr k rfl) hi e hq hd none none (some (.d (.int h)))
        rw [Nat.add_sub_cancel]
        revert mk
        generalize (if (markOf c r).length ≤ 6 then (if (r.dropWhile isSm).take 1 = [40] then (lRow (lOne k) ((r.dropWhile isSm).drop 1)).map fun p => (D.tup [.str (markOf c r), .tup p.1], p.2) else some (D.tup [.str (markOf c r), .tup []], r.dropWhile isSm)) else none : Rd) = res
        intro mk
        cases res with
        | some p =>
          obtain ⟨T, r2⟩ := p
          obtain ⟨i', a, b, c', k1, k2, k3⟩ := mk
          refine ⟨i', k1, k2, ?_⟩
          rw [k3]
          simp
        | none =>
          obtain ⟨a, b, c', k3⟩ := mk
          show fin _ _ (atMark mr _) = _
          rw [k3]
          simp
      · rw [if_neg cg] at a3 ⊢
        rw [seq_rt a3]
        simp
/-! ### the law's row -/
def pRowN (one : List Nat → Rd) (n : Nat) (s : List Nat) : Option (List D × List Nat) := (one s).bind fun p => (pMore one n p.2).map fun q => (p.1 :: q.1, q.2)
theorem lrow_none {z : Str} {h q : Int} {mo : Mf} {acc : List D} {b : Option Ob} (k : mo [.d (.str z), .d (.int h), .d (.int q)] = .ok (.d .non) [.d (.str z), .d (.int h), .d (.int q)]) :
    lrow mo [some (.d (.str z)), some (.d (.int h)), some (.d (.int q)), some (.lst acc), b] = .ok (.rt (.d .non)) [some (.d (.str z)), some (.d (.int h)), some (.d (.int q)), some (.lst acc), some (.d .non)] := by
  simp [lrow, lb0, lb1, k]
theorem close_eq (w : List Nat) : oEq (.str (ofC w)) (.str (PySem.Str.ofString ")")) = some (.bl (decide (w = [41]))) := by
  rw [show PySem.Str.ofString ")" = ofC [41] by decide +kernel]
  show some (D.bl (decide (ofC w = ofC [41]))) = _
  rw [show decide (ofC w = ofC [41]) = decide (w = [41]) from decide_eq_decide.mpr ofC_inj]
theorem comma_ne (w : List Nat) : oNe (.str (ofC w)) (.str (PySem.Str.ofString ", ")) = some (.bl (!decide (w = [44, 32]))) := by
  rw [show PySem.Str.ofString ", " = ofC [44, 32] by decide +kernel]
  show some (D.bl (!decide (ofC w = ofC [44, 32]))) = _
  rw [show decide (ofC w = ofC [44, 32]) = decide (w = [44, 32]) from decide_eq_decide.mpr ofC_inj]
theorem lrow_some {z : Str} (hz : z.length ≤ 10000) {h q h3 : Int} {mo : Mf} {T : D} {acc : List D} {b : Option Ob} {i' : Nat} (hi : i' ≤ z.length) (e : h3 = (i' : Int)) (ha : acc.length ≤ 6000)
    (k : mo [.d (.str z), .d (.int h), .d (.int q)] = .ok (.d (.tup [T, .int h3])) [.d (.str z), .d (.int h), .d (.int q)]) :
    lrow mo [some (.d (.str z)), some (.d (.int h)), some (.d (.int q)), some (.lst acc), b] =
      if ((sg z).drop i').take 1 = [41] then .ok (.rt (.d (if acc.length + 1 < 5 then .tup [.tup (acc ++ [T]), .int (h3 + 1)] else .non))) [some (.d (.str z)), some (.d (.int h)), some (.d (.int q)), some (.lst (acc ++ [T])), some (.d (.tup [T, .int h3]))]
      else if ((sg z).drop i').take 2 = [44, 32] then .ok .nx [some (.d (.str z)), some (.d (.int (h3 + 2))), some (.d (.int q)), some (.lst (acc ++ [T])), some (.d (.tup [T, .int h3]))]
      else .ok (.rt (.d .non)) [some (.d (.str z)), some (.d (.int h)), some (.d (.int q)), some (.lst (acc ++ [T])), some (.d (.tup [T, .int h3]))] := by
  have s := sz_ok hz
  have c1 := cut_at z hi 1 e (show h3 + 1 = ((i' + 1 : Nat) : Int) by omega)
  have c2 := cut_at z hi 2 e (show h3 + 2 = ((i' + 2 : Nat) : Int) by omega)
  have e1 := close_eq (((sg z).drop i').take 1)
  have e2 := comma_ne (((sg z).drop i').take 2)
  generalize ofC (((sg z).drop i').take 1) = A at c1 e1
  generalize ofC (((sg z).drop i').take 2) = B at c2 e2
  have sm : acc.length ≤ 100000 := by omega
  have szl : acc.length + 1 ≤ sizeLine := Nat.le_trans (show acc.length + 1 ≤ 6001 by omega) (by decide)
  by_cases h1 : ((sg z).drop i').take 1 = [41]
  · rw [if_pos h1]
    rw [decide_eq_true h1] at e1
    by_cases h5 : acc.length + 1 < 5
    · have h5' : (acc.length : Int) + 1 < 5 := by omega
      simp [lrow, lb0, lb1, lb2, lb3, k, sm, small, c1, s, e1, szl, h5, h5', -oEq_str]
    · have h5' : ¬ (acc.length : Int) + 1 < 5 := by omega
      simp [lrow, lb0, lb1, lb2, lb3, k, sm, small, c1, s, e1, szl, h5, h5', -oEq_str]
  · rw [if_neg h1]
    rw [decide_eq_false h1] at e1
    by_cases h2 : ((sg z).drop i').take 2 = [44, 32]
    · rw [if_pos h2]
      rw [decide_eq_true h2] at e2
      simp [lrow, lb0, lb1, lb2, lb3, lb4, lb5, k, sm, small, c1, c2, s, e1, e2, -oEq_str, -oNe_str]
    · rw [if_neg h2]
      rw [decide_eq_false h2] at e2
      simp [lrow, lb0, lb1, lb2, lb3, lb4, lb5, k, sm, small, c1, c2, s, e1, e2, -oEq_str, -oNe_str]
theorem lrow_loop {z : Str} (hz : z.length ≤ 2900) {d : Nat} {mo : Mf} (ho : ThingL z d mo) {q : Int} (hq : q = (d : Int)) : ∀ (n i : Nat) (h : Int) (acc : List D) (b : Option Ob), i ≤ z.length → h = (i : Int) → ((sg z).drop i).length < n → acc.length + ((sg z).drop i).length ≤ 6000 →
    match pRowN (lOne d) n ((sg z).drop i) with
    | some (Ts, r) => ∃ (i' : Nat) (h2 : Int) (acc2 : List D) (b2 : Option Ob), i' ≤ z.length ∧ (sg z).drop i' = r ∧ whileR (gTruth (gC (.bl true))) (lrow mo) (n + 1) [some (.d (.str z)), some (.d (.int h)), some (.d (.int q)), some (.lst acc), b] = .ok (.rt (.d (if acc.length + Ts.length < 5 then .tup [.tup (acc ++ Ts), .int (i' : Int)] else .non))) [some (.d (.str z)), some (.d (.int h2)), some (.d (.int q)), some (.lst acc2), b2]
    | none => ∃ (h2 : Int) (acc2 : List D) (b2 : Option Ob), whileR (gTruth (gC (.bl true))) (lrow mo) (n + 1) [some (.d (.str z)), some (.d (.int h)), some (.d (.int q)), some (.lst acc), b] = .ok (.rt (.d .non)) [some (.d (.str z)), some (.d (.int h2)), some (.d (.int q)), some (.lst acc2), b2] := by
  intro n
  induction n with
  | zero => intro i h acc b hi e hn; omega
  | succ n ih =>
    intro i h acc b hi e hn ha
    have o := ho i h q hi e hq
    have tt : ∀ Γ : Gm.Env, gTruth (gC (.bl true)) Γ = .ok true Γ := fun Γ => by simp
    cases hp : lOne d ((sg z).drop i) with
    | none =>
      rw [hp] at o
      have e0 : pRowN (lOne d) (n + 1) ((sg z).drop i) = none := by unfold pRowN; rw [hp]; rfl
      rw [e0]
      exact ⟨h, acc, some (.d .non), whileR_ret (tt _) (lrow_none o)⟩
    | some p =>
      obtain ⟨T, r⟩ := p
      rw [hp] at o
      obtain ⟨i', k1, k2, k3⟩ := o
      have lt := lone_lt _ _ _ _ hp
      have hr : ((sg z).drop i').length = r.length := by rw [k2]
      have b1 := lrow_some (b := b) (by omega : z.length ≤ 10000) k1 (rfl : (i' : Int) = (i' : Int)) (by omega : acc.length ≤ 6000) k3
      have e0 : pRowN (lOne d) (n + 1) ((sg z).drop i) = (pMore (lOne d) (n + 1) r).map fun q => (T :: q.1, q.2) := by unfold pRowN; rw [hp]; rfl
      rw [e0]
      rw [k2] at b1
      unfold pMore
      by_cases c1 : r.take 1 = [41]
      · have c2 : r.take 2 ≠ [44, 32] := fun z => by
          cases r with
          | nil => cases c1
          | cons x r => simp at c1 z; omega
        rw [if_pos c1] at b1
        rw [if_neg c2, if_pos c1]
        have hi3 := take_room (k := 1) (w := [41]) k1 (by rw [k2]; exact c1) rfl
        refine ⟨i' + 1, h, acc ++ [T], some (.d (.tup [T, .int (i' : Int)])), hi3, by rw [← List.drop_drop, k2], ?_⟩
        exact whileR_ret (tt _) b1
      · rw [if_neg c1] at b1
        by_cases c2 : r.take 2 = [44, 32]
        · rw [if_pos c2] at b1
          rw [if_pos c2]
          have hi3 := take_room (k := 2) (w := [44, 32]) k1 (by rw [k2]; exact c2) rfl
          have hd : (sg z).drop (i' + 2) = r.drop 2 := by rw [← List.drop_drop, k2]
          have hdl : (r.drop 2).length = r.length - 2 := List.length_drop ..
          have j := ih (i' + 2) ((i' : Int) + 2) (acc ++ [T]) (some (.d (.tup [T, .int (i' : Int)]))) hi3 (by omega) (by rw [hd, hdl]; omega) (by rw [hd, hdl, List.length_append]; show acc.length + 1 + (r.length - 2) ≤ 6000; omega)
          rw [hd] at j
          rw [whileR_step (tt _) b1 (.inl rfl)]
          show match Option.map (fun q => (T :: q.1, q.2)) (pRowN (lOne d) n (r.drop 2)) with
            | some (Ts, r) => _
            | none => _
          cases hq2 : pRowN (lOne d) n (r.drop 2) with
          | none =>
            rw [hq2] at j
            exact j
          | some p2 =>
            obtain ⟨Ts, r2⟩ := p2
            rw [hq2] at j
            obtain ⟨i4, h4, a4, b4, j1, j2, j3⟩ := j
            refine ⟨i4, h4, a4, b4, j1, j2, ?_⟩
            rw [j3]
            simp only [List.length_append, List.length_cons, List.length_nil, List.append_assoc, List.cons_append, List.nil_append]
            rw [show acc.length + (0 + 1) + Ts.length = acc.length + (Ts.length + 1) by omega]
        · rw [if_neg c2] at b1
          rw [if_neg c2, if_neg c1]
          exact ⟨h, acc ++ [T], some (.d (.tup [T, .int (i' : Int)])), whileR_ret (tt _) b1⟩
theorem lrow_ok {z : Str} (hz : z.length ≤ 2900) {d : Nat} {mo mr : Mf} (ho : ThingL z d mo) : RowL z d (gBody [false, false, false] 5 (b__law_row_at mo mr)) := by
  intro i h q hi e hq
  have hl : ((sg z).drop i).length = z.length - i := by rw [List.length_drop, sg_len]
  have j := lrow_loop hz ho hq 3000 i h [] none hi e (by omega) (by rw [hl]; show 0 + (z.length - i) ≤ 6000; omega)
  unfold gBody
  rw [lrow_is]
  have start : (gSeq (gAsgO 3 (gLst gNilA)) (whileR (gTruth (gC (.bl true))) (lrow mo) 3001)) ([Ob.d (.str z), .d (.int h), .d (.int q)].map some ++ List.replicate (5 - [Ob.d (.str z), .d (.int h), .d (.int q)].length) none) = whileR (gTruth (gC (.bl true))) (lrow mo) 3001 [some (.d (.str z)), some (.d (.int h)), some (.d (.int q)), some (.lst []), none] := by
    rw [seq_nx (Γ1 := [some (.d (.str z)), some (.d (.int h)), some (.d (.int q)), some (.lst []), none]) (by simp)]
  have start2 : fin [false, false, false] [.d (.str z), .d (.int h), .d (.int q)] ((gSeq (gAsgO 3 (gLst gNilA)) (whileR (gTruth (gC (.bl true))) (lrow mo) 3001)) ([Ob.d (.str z), .d (.int h), .d (.int q)].map some ++ List.replicate (5 - [Ob.d (.str z), .d (.int h), .d (.int q)].length) none)) = _ := congrArg _ start
  show match lRow (lOne d) ((sg z).drop i) with
    | some (Ts, r) => ∃ i' : Nat, i' ≤ z.length ∧ (sg z).drop i' = r ∧ fin [false, false, false] [.d (.str z), .d (.int h), .d (.int q)] ((gSeq (gAsgO 3 (gLst gNilA)) (whileR (gTruth (gC (.bl true))) (lrow mo) 3001)) ([Ob.d (.str z), .d (.int h), .d (.int q)].map some ++ List.replicate (5 - [Ob.d (.str z), .d (.int h), .d (.int q)].length) none)) = .ok (.d (.tup [.tup Ts, .int (i' : Int)])) [.d (.str z), .d (.int h), .d (.int q)]
    | none => fin [false, false, false] [.d (.str z), .d (.int h), .d (.int q)] ((gSeq (gAsgO 3 (gLst gNilA)) (whileR (gTruth (gC (.bl true))) (lrow mo) 3001)) ([Ob.d (.str z), .d (.int h), .d (.int q)].map some ++ List.replicate (5 - [Ob.d (.str z), .d (.int h), .d (.int q)].length) none)) = .ok (.d .non) [.d (.str z), .d (.int h), .d (.int q)]
  rw [start2]
  have e0 : lRow (lOne d) ((sg z).drop i) = (pRowN (lOne d) 3000 ((sg z).drop i)).bind fun p => if p.1.length < 5 then some p else none := rfl
  rw [e0]
  revert j
  generalize pRowN (lOne d) 3000 ((sg z).drop i) = res
  intro j
  cases res with
  | none =>
    obtain ⟨h2, a2, b2, j⟩ := j
    show fin _ _ _ = _
    rw [j]
    simp
  | some p =>
    obtain ⟨Ts, r⟩ := p
    obtain ⟨i', h2, a2, b2, j1, j2, j⟩ := j
    rw [j]
    show match (if Ts.length < 5 then some (Ts, r) else none : Option (List D × List Nat)) with
      | some (Ts, r) => _
      | none => _
    simp only [List.length_nil, Nat.zero_add, List.nil_append]
    by_cases c : Ts.length < 5
    · rw [if_pos c, if_pos c]
      refine ⟨i', j1, j2, ?_⟩
      generalize (i' : Int) = h5
      simp
    · rw [if_neg c, if_neg c]
      simp
theorem thing_at_ok {z : Str} (hz : z.length ≤ 2900) : ∀ (d n : Nat), 2 * d + 1 ≤ n → ThingL z d (mm__law_thing_at n) := by
  intro d
  induction d with
  | zero =>
    intro n hn
    obtain ⟨k, rfl⟩ : ∃ k, n = k + 1 := ⟨n - 1, by omega⟩
    exact thing_step hz fun k h => by omega
  | succ d ih =>
    intro n hn
    obtain ⟨k, rfl⟩ : ∃ k, n = k + 2 := ⟨n - 2, by omega⟩
    refine thing_step hz fun k' h => ?_
    obtain rfl : d = k' := by omega
    exact lrow_ok hz (ih k (by omega))
/-! ### the two readings are one -/
theorem markD_of {m : Str} (h : (match m.cps.toList with | [] => false | c :: r => isGr c && r.all isSm) = true) : isMarkD (.str m) = decide (m.length ≤ 6) := by
  have e0 : isMarkD (.str m) = (decide (0 < m.length ∧ m.length < 7) && (match m.cps.toList with | [] => false | c :: cs => decide (c ∈ zGreat.cps.toList) && allIn zSmall cs)) := rfl
  rw [e0, str_len]
  cases e : m.cps.toList with
  | nil => rw [e] at h; cases h
  | cons c r =>
    rw [e] at h
    have h2 : (decide (c ∈ zGreat.cps.toList) && allIn zSmall r) = true := h
    show (decide (0 < (c :: r).length ∧ (c :: r).length < 7) && (decide (c ∈ zGreat.cps.toList) && allIn zSmall r)) = _
    rw [h2, Bool.and_true]
    exact decide_eq_decide.mpr (by simp only [List.length_cons]; omega)
theorem ptss_cns {P : D → Prop} : ∀ {xs : List D}, (∀ x ∈ xs, (okB x = true → pts x = cn x) ∧ (okB x = false → 1000 ≤ pts x)) → (okBs xs = true → ptss xs = cns xs) ∧ (okBs xs = false → 1000 ≤ ptss xs)
  | [], _ => by simp [okBs, ptss, cns]
  | x :: xs, h => by
    have h1 := h x List.mem_cons_self
    have h2 := ptss_cns (P := P) (xs := xs) fun y hy => h y (List.mem_cons_of_mem _ hy)
    simp only [okBs, ptss, cns]
    cases hx : okB x with
    | true =>
      refine ⟨fun e => ?_, fun e => ?_⟩
      · rw [h1.1 hx, h2.1 (by simpa using e)]
      · have := h2.2 (by simpa using e); omega
    | false =>
      refine ⟨fun e => by simp at e, fun e => ?_⟩
      have := h1.2 hx; omega
theorem pts_cn : ∀ (n : Nat) (T : D), hg T ≤ n → wfB T = true → (okB T = true → pts T = cn T) ∧ (okB T = false → 1000 ≤ pts T) := by
  intro n
  induction n with
  | zero =>
    intro T h
    exfalso
    unfold hg at h
    split at h <;> omega
  | succ n ih =>
    intro T h w
    unfold wfB at w
    split at w
    · rename_i i
      simp only [decide_eq_true_eq] at w
      simp only [okB, pts, cn, decide_eq_true_eq, decide_eq_false_iff_not]
      refine ⟨fun e => by rw [if_pos e], fun e => by rw [if_neg e]; omega⟩
    · rename_i m ps
      rw [Bool.and_eq_true, wfBs_all, List.all_eq_true] at w
      have mk := markD_of w.1
      have hs : ∀ x ∈ ps, hg x ≤ n := hgs_le.mp (by simp only [hg] at h; omega)
      have q := ptss_cns (P := fun _ => True) (xs := ps) fun x hx => ih x (hs x hx) (w.2 x hx)
      simp only [okB, pts, cn, mk]
      by_cases c1 : m.length ≤ 6
      · by_cases c2 : ps.length ≤ 4
        · simp only [c1, c2, decide_true, Bool.true_and, if_true]
          refine ⟨fun e => by rw [q.1 e], fun e => by have := q.2 e; omega⟩
        · simp [c1, c2]
      · simp [c1]
    · cases w
theorem hgs_cns : ∀ {xs : List D}, (∀ x ∈ xs, hg x ≤ cn x) → hgs xs ≤ cns xs
  | [], _ => Nat.le_refl _
  | x :: xs, h => by
    have h1 := h x List.mem_cons_self
    have h2 := hgs_cns (xs := xs) fun y hy => h y (List.mem_cons_of_mem _ hy)
    simp only [hgs, cns]
    omega
theorem hg_cn : ∀ (n : Nat) (T : D), hg T ≤ n → hg T ≤ cn T := by
  intro n
  induction n with
  | zero =>
    intro T h
    exfalso
    unfold hg at h
    split at h <;> omega
  | succ n ih =>
    intro T h
    by_cases c : ∃ m ps, T = .tup [m, .tup ps]
    · obtain ⟨m, ps, rfl⟩ := c
      simp only [hg, cn] at h ⊢
      have hs : ∀ x ∈ ps, hg x ≤ n := hgs_le.mp (by omega)
      have := hgs_cns fun x hx => ih x (hs x hx)
      omega
    · unfold hg cn
      split
      · exact absurd ⟨_, _, rfl⟩ c
      · exact Nat.le_refl _
theorem lone_hg : ∀ (d : Nat) (s : List Nat) (T : D) (r : List Nat), lOne d s = some (T, r) → hg T ≤ d + 1 := by
  intro d
  induction d with
  | zero =>
    intro s T r e
    cases s with
    | nil => cases e
    | cons c s =>
      simp only [lOne, oneL] at e
      cases hc : isDig c with
      | true =>
        rw [hc] at e
        simp only [if_true] at e
        split at e
        · cases e; simp [hg]
        · cases e
      | false =>
        rw [hc] at e
        simp at e
  | succ d ih =>
    intro s T r e
    cases s with
    | nil => cases e
    | cons c s =>
      simp only [lOne, oneL] at e
      cases hc : isDig c with
      | true =>
        rw [hc] at e
        simp only [if_true] at e
        split at e
        · cases e; simp [hg]
        · cases e
      | false =>
        rw [hc] at e
        simp only [Bool.false_eq_true, if_false] at e
        split at e
        · split at e
          · split at e
            · obtain ⟨⟨Ts, r2⟩, e1, e2⟩ := Option.map_eq_some_iff.mp e
              cases e2
              unfold lRow at e1
              obtain ⟨⟨Ts2, r4⟩, e3, e4⟩ := Option.bind_eq_some_iff.mp e1
              split at e4
              · cases e4
                have := hgs_le.mpr (row_all (C := fun T => hg T ≤ d + 1) (fun s T r e => ih s T r e) e3)
                simp only [hg]
                omega
              · cases e4
            · cases e
              simp [hg, hgs]
          · cases e
        · cases e
/-- what a text is by the law -/
def lawD (z : Str) : Option D := match lOne 60 (sg z) with
  | some (T, []) => if cn T ≤ 60 then some T else none
  | _ => none
theorem law_iff {z : Str} {T : D} : lawD z = some T ↔ lOne 60 (sg z) = some (T, []) ∧ cn T ≤ 60 := by
  unfold lawD
  split
  · rename_i T' e
    rw [e]
    by_cases c : cn T' ≤ 60
    · rw [if_pos c]
      exact ⟨fun h => (by cases h; exact ⟨rfl, c⟩), fun h => by cases h.1; rfl⟩
    · rw [if_neg c]
      exact ⟨fun h => (by cases h), fun h => by cases h.1; exact absurd h.2 c⟩
  · rename_i ne
    exact ⟨fun h => (by cases h), fun h => absurd h.1 (ne T)⟩
theorem read_iff {z : Str} {T : D} : readD z = some T ↔ pOne 60 (sg z) = some (T, []) ∧ pts T < 61 := by
  unfold readD
  split
  · rename_i T' e
    rw [e]
    by_cases c : pts T' < 61
    · rw [if_pos c]
      exact ⟨fun h => (by cases h; exact ⟨rfl, c⟩), fun h => by cases h.1; rfl⟩
    · rw [if_neg c]
      exact ⟨fun h => (by cases h), fun h => by cases h.1; exact absurd h.2 c⟩
  · rename_i ne
    exact ⟨fun h => (by cases h), fun h => absurd h.1 (ne T)⟩
theorem same_read (z : Str) : readD z = lawD z := by
  have key : ∀ T, readD z = some T ↔ lawD z = some T := by
    intro T
    rw [law_iff, read_iff]
    constructor
    · rintro ⟨h1, h2⟩
      have w := read_wf val_ok _ _ _ _ h1
      have q := pts_cn (hg T) T (Nat.le_refl _) w
      cases ok : okB T with
      | true => exact ⟨readB _ _ _ _ h1 ok, by have := q.1 ok; omega⟩
      | false => have := q.2 ok; omega
    · rintro ⟨h1, h2⟩
      have a := readA val_ok _ _ _ _ h1
      have hh := hg_cn (hg T) T (Nat.le_refl _)
      have p := a.2 (by omega)
      have w := read_wf val_ok _ _ _ _ p
      have q := pts_cn (hg T) T (Nat.le_refl _) w
      exact ⟨p, by have := q.1 a.1; omega⟩
  cases h : lawD z with
  | some T => exact (key T).mpr h
  | none =>
    cases h2 : readD z with
    | none => rfl
    | some T =>
      rw [(key T).mp h2] at h
      cases h
theorem sum_cns : ∀ ps : List D, (ps.map fun x => ((cn x : Nat) : Int)).sum = ((cns ps : Nat) : Int)
  | [] => rfl
  | x :: ps => by rw [List.map_cons, List.sum_cons, sum_cns ps, cns]; omega
theorem count_ok : ∀ (n : Nat) (T : D), hg T ≤ n → okB T = true → mm__law_count n [.d T] = .ok (.d (.int ((cn T : Nat) : Int))) [.d T] := by
  intro n
  induction n with
  | zero =>
    intro T h
    exfalso
    unfold hg at h
    split at h <;> omega
  | succ n ih =>
    intro T h w
    unfold okB at w
    split at w
    · simp [mm__law_count, b__law_count, cn]
    · rename_i m ps
      simp only [Bool.and_eq_true, decide_eq_true_eq, okBs_all, List.all_eq_true] at w
      have hs : ∀ x ∈ ps, hg x ≤ n := hgs_le.mp (by simp only [hg] at h; omega)
      have e1 : lcR (putD 1) gYes (gToD (gCall (mm__law_count n) (gcCons (gcD (gVar 1)) gcNil))) [1] ps [] [some (.d (.tup [.str m, .tup ps])), none] = .ok ([] ++ (ps.filter fun _ => true).map fun x => .int ((cn x : Nat) : Int)) [some (.d (.tup [.str m, .tup ps])), none] :=
        lcR_pure (fun _ => true) (fun x => .int ((cn x : Nat) : Int)) ps [] (by have := w.1.2; simp; omega) fun x hx =>
          ⟨[some (.d (.tup [.str m, .tup ps])), some (.d x)], [some (.d (.tup [.str m, .tup ps])), some (.d x)], rfl, rfl, fun _ => ⟨[some (.d (.tup [.str m, .tup ps])), some (.d x)], by simp [ih x (hs x hx) (w.2 x hx)], rfl⟩, fun z => by cases z⟩
      rw [List.filter_eq_self.mpr fun _ _ => rfl, List.nil_append] at e1
      have e2 := intsD_map (fun x => ((cn x : Nat) : Int)) ps
      have e3 := sum_cns ps
      have ec : cn (.tup [.str m, .tup ps]) = 1 + cns ps := rfl
      rw [ec]
      generalize (ps.map fun x => D.int ((cn x : Nat) : Int)) = L at e1 e2
      generalize (ps.map fun x => ((cn x : Nat) : Int)) = L2 at e2 e3
      have e4 : ((1 + cns ps : Nat) : Int) = 1 + L2.sum := by omega
      rw [e4]
      simp [mm__law_count, b__law_count, e1, e2]
    · cases w
/-! ### a thing's text -/
mutual
theorem Th.pl : ∀ {n : Nat} {x : D}, Th n x → Pl (2 * n) x
  | _, _, .num _ _ => by simp [Pl]
  | _, _, .mk (n := n) hm hl hs => by
    rw [show 2 * (n + 1) = 2 * n + 1 + 1 by omega]
    simp only [Pl]
    refine ⟨by simp, fun x hx => ?_⟩
    simp only [List.mem_cons, List.not_mem_nil, or_false] at hx
    rcases hx with rfl | rfl
    · simp only [Pl]; exact hm.1.mono (by omega)
    · simp only [Pl]; exact ⟨by omega, Ths.pl hs⟩
theorem Ths.pl : ∀ {n : Nat} {xs : List D}, Ths n xs → ∀ x ∈ xs, Pl (2 * n) x
  | _, _, .nil, _, h => by cases h
  | _, _, .cons h hs, x, hx => by
    rcases List.mem_cons.mp hx with e | hx
    · rw [e]; exact (Th.pl h).mono (by omega)
    · exact (Ths.pl hs x hx).mono (by omega)
end
abbrev zOpen : Str := PySem.Str.ofString "("
abbrev zShut : Str := PySem.Str.ofString ")"
abbrev zComma : Str := PySem.Str.ofString ", "
mutual
def txD : D → Str
  | .int n => PySem.Str.ofString (toString n)
  | .tup [.str m, .tup []] => m
  | .tup [.str m, .tup (p :: ps)] => m ++ zOpen ++ Txt.join zComma (txDs (p :: ps)) ++ zShut
  | _ => ⟨#[]⟩
def txDs : List D → List Str
  | [] => []
  | x :: xs => txD x :: txDs xs
end
theorem txDs_map : ∀ xs : List D, txDs xs = xs.map txD
  | [] => rfl
  | x :: xs => by rw [txDs, List.map_cons, txDs_map xs]
theorem app_len (a b : Str) : (a ++ b).length = a.length + b.length := by
  rw [str_len, str_len, str_len, app_list, List.length_append]
theorem join_len (z : Str) : ∀ ys : List Str, (Txt.join z ys).length ≤ (ys.map (·.length)).sum + ys.length * z.length := by
  intro ys
  rw [TL.join_eq]
  induction ys with
  | nil => show (⟨#[]⟩ : Str).length ≤ _; exact Nat.zero_le _
  | cons y ys ih =>
    cases ys with
    | nil =>
      show y.length ≤ _
      simp
    | cons y2 ys =>
      rw [show PySem.Str.join z (y :: y2 :: ys) = y ++ z ++ PySem.Str.join z (y2 :: ys) from rfl, app_len, app_len, List.map_cons, List.sum_cons, List.length_cons, Nat.succ_mul]
      omega
theorem num_len {i : Int} (h0 : 0 ≤ i) (h1 : i ≤ 1000000000) : (PySem.Str.ofString (toString i)).length ≤ 11 ∧ i.natAbs.log2 < 1920 := by
  have h : i.natAbs < 10 ^ 10 := by omega
  refine ⟨?_, ?_⟩
  · have := int_text_length_le10 (a := i) (k := 10) (by omega) h
    rw [PySem.Str.ofString_eq_toList]
    simp only [PySem.Str.length, List.size_toArray, List.length_map]
    exact this
  · by_cases c : i.natAbs = 0
    · rw [c]; decide
    · have : i.natAbs.log2 < 40 := (Nat.log2_lt c).mpr (Nat.lt_of_lt_of_le h (by decide))
      omega
theorem Ths.mem {n : Nat} {xs : List D} (h : Ths n xs) {x : D} (hx : x ∈ xs) : ∃ k, k ≤ n ∧ Th k x := by
  induction xs generalizing n with
  | nil => cases hx
  | cons y ys ih =>
    cases h with
    | cons h hs =>
      rcases List.mem_cons.mp hx with rfl | hx
      · exact ⟨_, by omega, h⟩
      · obtain ⟨k, h1, h2⟩ := ih hs hx
        exact ⟨k, by omega, h2⟩
theorem open_len1 : zOpen.length = 1 := by decide +kernel
theorem shut_len1 : zShut.length = 1 := by decide +kernel
theorem sum_len {xs : List D} : ∀ {n : Nat}, (∀ x ∈ xs, ∀ k, k ≤ n → Th k x → (txD x).length + 2 ≤ 14 * k) → Ths n xs → ((xs.map txD).map (·.length)).sum + 2 * xs.length ≤ 14 * n := by
  induction xs with
  | nil => intro n _ h; simp
  | cons x xs ih =>
    intro n hx h
    cases h with
    | cons h hs =>
      have h1 := hx x List.mem_cons_self _ (by omega) h
      have h2 := ih (fun y hy k hk => hx y (List.mem_cons_of_mem _ hy) k (by omega)) hs
      simp only [List.map_cons, List.sum_cons, List.length_cons] at h2 ⊢
      omega
theorem tx_len : ∀ (n k : Nat) (x : D), k ≤ n → Th k x → (txD x).length + 2 ≤ 14 * k := by
  intro n
  induction n with
  | zero =>
    intro k x hk h
    cases h <;> omega
  | succ n ih =>
    intro k x hk h
    cases h with
    | num h0 h1 =>
      have := (num_len h0 h1).1
      rw [txD]
      omega
    | mk hm hl hs =>
      rename_i m n1 ps
      have l6 := hm.1.2
      cases ps with
      | nil =>
        rw [txD]
        omega
      | cons p ps =>
        have s := sum_len (fun y hy k hk => ih k y (by omega)) hs
        have j := join_len zComma (txDs (p :: ps))
        rw [txDs_map, show zComma.length = 2 by decide +kernel, List.length_map] at j
        rw [txD, app_len, app_len, app_len, open_len1, shut_len1, txDs_map]
        omega
theorem joinD_txs {xs : List D} {n : Nat} (hs : Ths n xs) (hn : n ≤ 1000) : joinD zComma (xs.map fun x => .str (txD x)) = some (.str (Txt.join zComma (txDs xs))) := by
  have e1 : ∀ xs : List D, strsD (xs.map fun x => D.str (txD x)) = some (xs.map txD) := by
    intro xs
    induction xs with
    | nil => rfl
    | cons x xs ih => rw [List.map_cons, strsD_cons, ih]; rfl
  have s := sum_len (fun y hy k hk => tx_len k k y (Nat.le_refl _)) hs
  unfold joinD
  rw [e1]
  simp only [List.length_map]
  rw [if_pos (by rw [show zComma.length = 2 by decide +kernel]; omega), txDs_map]
theorem glue {m j : Str} (h1 : m.length ≤ 1000) (h2 : j.length ≤ 20000) : oAdd (.str m) (.str zOpen) = some (.str (m ++ zOpen)) ∧ oAdd (.str (m ++ zOpen)) (.str j) = some (.str (m ++ zOpen ++ j)) ∧ oAdd (.str (m ++ zOpen ++ j)) (.str zShut) = some (.str (m ++ zOpen ++ j ++ zShut)) := by
  refine ⟨?_, ?_, ?_⟩
  · rw [oAdd_str, if_pos (Nat.le_trans (show _ ≤ 100000 by rw [open_len1]; omega) (by decide))]
  · rw [oAdd_str, if_pos (Nat.le_trans (show _ ≤ 100000 by rw [app_len, open_len1]; omega) (by decide))]
  · rw [oAdd_str, if_pos (Nat.le_trans (show _ ≤ 100000 by rw [app_len, app_len, open_len1, shut_len1]; omega) (by decide))]
theorem thing_text_ok : ∀ (n k : Nat) (x : D) (f : Nat), k ≤ n → n ≤ 1000 → 2 * n ≤ f → Th k x → mm_thing_text f [.d x] = .ok (.d (.str (txD x))) [.d x] := by
  intro n
  induction n with
  | zero =>
    intro k x f hk hn hf h
    cases h <;> omega
  | succ n ih =>
    intro k x f hk hn hf h
    have tl := tx_len k k x (Nat.le_refl _) h
    obtain ⟨f, rfl⟩ : ∃ g, f = g + 2 := ⟨f - 2, by omega⟩
    cases h with
    | num h0 h1 =>
      have q := (num_len h0 h1).2
      rw [txD]
      simp [mm_thing_text, b_thing_text, q]
    | mk hm hl hs =>
      rename_i m n1 ps
      have l6 := hm.1.2
      cases ps with
      | nil =>
        rw [txD]
        simp [mm_thing_text, b_thing_text]
      | cons p ps =>
        have e1 : lcR (putD 1) gYes (gToD (gCall (mm_thing_text f) (gcCons (gcD (gVar 1)) gcNil))) [1] (p :: ps) [] [some (.d (.tup (p :: ps))), none] = .ok ([] ++ ((p :: ps).filter fun _ => true).map fun x => .str (txD x)) [some (.d (.tup (p :: ps))), none] :=
          lcR_pure (fun _ => true) (fun x => .str (txD x)) (p :: ps) [] (by simp at hl ⊢; omega) fun x hx => by
            obtain ⟨k2, hk2, ht⟩ := hs.mem hx
            have q := ih k2 x f (by omega) (by omega) (by omega) ht
            exact ⟨[some (.d (.tup (p :: ps))), some (.d x)], [some (.d (.tup (p :: ps))), some (.d x)], rfl, rfl, fun _ => ⟨[some (.d (.tup (p :: ps))), some (.d x)], by simp [q], rfl⟩, fun z => by cases z⟩
        rw [List.filter_eq_self.mpr fun _ _ => rfl, List.nil_append] at e1
        have e2 := joinD_txs hs (by omega)
        rw [txD] at tl ⊢
        have jl : (Txt.join zComma (txDs (p :: ps))).length ≤ 20000 := by
          rw [app_len, app_len, app_len] at tl
          omega
        generalize Txt.join zComma (txDs (p :: ps)) = J at e2 jl ⊢
        obtain ⟨g1, g2', g3⟩ := glue (m := m) (j := J) (by omega) jl
        generalize ((p :: ps).map fun x => D.str (txD x)) = L at e1 e2
        have rt : mm_row_text (f + 1) [.d (.tup (p :: ps))] = .ok (.d (.str J)) [.d (.tup (p :: ps))] := by
          simp [mm_row_text, b_row_text, e1, e2]
        generalize hA : m ++ zOpen = A at g1 g2' g3 ⊢
        generalize hB : A ++ J = B at g2' g3 ⊢
        generalize hM : mm_row_text (f + 1) = M at rt
        simp [mm_thing_text, b_thing_text, hM, rt, g1, g2', g3, -oAdd_str]
/-! ### calls of any text -/
def nmC (z : Str) : D := .str (ofC ((sg z).takeWhile isSm))
def afC (z : Str) : List Nat := (sg z).dropWhile isSm
def resC (z : Str) : Option (List D × List Nat) :=
  if (afC z).take 1 = [40] then (if ((afC z).drop 1).take 1 = [41] then some ([], (afC z).drop 2) else pRow (pOne 60) ((afC z).drop 1)) else none
def callZ (z : Str) : Option D := match resC z with
  | some (Ts, []) => if isCallD (.tup [nmC z, .tup Ts]) = true then some (.tup [nmC z, .tup Ts]) else none
  | _ => none
def cOne (cs : Cs) : G Fl := (gAsg 1 (gToD (gMeth cs.ThingSigns 0 "take_all" (m_ThingSigns_take_all cs) (gcCons (gcD (gC c_LETTERS)) gcNil))))
def cTwo (cs : Cs) : G Fl := (gDrop (gToD (gMeth cs.ThingSigns 0 "take_text" (m_ThingSigns_take_text cs) (gcCons (gcD (gC (.str (PySem.Str.ofString "(")))) gcNil))))
def cThree (cs : Cs) : G Fl := (gIf (gTruth (gToD (gMeth cs.ThingSigns 0 "has_text" (m_ThingSigns_has_text cs) (gcCons (gcD (gC (.str (PySem.Str.ofString ")")))) gcNil)))) (gRetD (gTup (gConsA (gVar 1) (gConsA (gTup gNilA) gNilA)))) gPass)
def cFour (cs : Cs) : G Fl := (gRetD (gTup (gConsA (gVar 1) (gConsA (gToD (gMeth cs.ThingSigns 0 "take_row" (m_ThingSigns_take_row cs) (gcCons (gcD (gC c_MOST_POINTS)) gcNil))) gNilA))))
theorem tcall_is (cs : Cs) : b_ThingSigns_take_call cs = gSeq (cOne cs) (gSeq (cTwo cs) (gSeq (cThree cs) (cFour cs))) := rfl
theorem seq_ex {A B : G Fl} {Γ Γ1 : Gm.Env} {x : Ex} (h : A Γ = .ex x Γ1) : gSeq A B Γ = .ex x Γ1 := by
  unfold gSeq
  rw [h]
  rfl
theorem take_call_is (cs : Cs) {z : Str} (hz : z.length ≤ 2900) :
    match resC z with
    | some (Ts, r) => ∃ i' : Nat, i' ≤ z.length ∧ (sg z).drop i' = r ∧ m_ThingSigns_take_call cs [rd cs z 0] = .ok (.d (.tup [nmC z, .tup Ts])) [rd cs z (i' : Int)]
    | none => ∃ h', m_ThingSigns_take_call cs [rd cs z 0] = .ex XN [rd cs z h'] := by
  obtain ⟨i1, h1, h2, h3⟩ := take_all_ok cs hz isSm in_small (i := 0) (h := 0) (by omega) rfl
  rw [List.drop_zero] at h2 h3
  have tt := take_text_ok cs (by omega : z.length ≤ 10000) (t := zOpen) (by rw [open_len]; omega) h1 (rfl : (i1 : Int) = _)
  rw [open_len, open_sg, h2] at tt
  have k1 : ∀ o : Option Ob, cOne cs [some (rd cs z 0), o] = .ok .nx [some (rd cs z (i1 : Int)), some (.d (nmC z))] := fun o => by
    have h3 : m_ThingSigns_take_all cs [rd cs z 0, .d (.str zSmall)] = .ok (.d (nmC z)) [rd cs z (i1 : Int), .d (.str zSmall)] := h3
    generalize (i1 : Int) = j1 at h3 ⊢
    generalize nmC z = N at h3 ⊢
    simp [cOne, c_small, h3]
  unfold m_ThingSigns_take_call gBody
  rw [tcall_is]
  have e0 : ([rd cs z 0].map some ++ List.replicate (2 - [rd cs z 0].length) none : Gm.Env) = [some (rd cs z 0), none] := rfl
  rw [e0, seq_nx (k1 none)]
  unfold resC
  by_cases c : (afC z).take 1 = [40]
  · rw [if_pos c]
    rw [if_pos (show ((sg z).dropWhile isSm).take 1 = [40] from c)] at tt
    have l2 : i1 + 1 ≤ z.length := take_room (k := 1) (w := [40]) h1 (by rw [h2]; exact c) rfl
    have d2 : (sg z).drop (i1 + 1) = (afC z).drop 1 := by rw [← List.drop_drop, h2]; rfl
    have ht := has_text_ok cs (by omega : z.length ≤ 10000) (t := zShut) (by rw [close_len]; omega) (i := i1 + 1) l2 (rfl : ((i1 + 1 : Nat) : Int) = _)
    rw [close_len, close_sg, d2] at ht
    have k2 : cTwo cs [some (rd cs z (i1 : Int)), some (.d (nmC z))] = .ok .nx [some (rd cs z ((i1 + 1 : Nat) : Int)), some (.d (nmC z))] := by
      have tt : m_ThingSigns_take_text cs [rd cs z (i1 : Int), .d (.str zOpen)] = .ok (.d .non) [rd cs z ((i1 + 1 : Nat) : Int), .d (.str zOpen)] := tt
      generalize (i1 : Int) = j1 at tt ⊢
      generalize ((i1 + 1 : Nat) : Int) = j2 at tt ⊢
      generalize nmC z = N
      simp [cTwo, tt]
    rw [seq_nx k2]
    by_cases c1 : ((afC z).drop 1).take 1 = [41]
    · rw [if_pos c1] at ht ⊢
      have l3 : i1 + 1 + 1 ≤ z.length := take_room (k := 1) (w := [41]) l2 (by rw [d2]; exact c1) rfl
      have ht : m_ThingSigns_has_text cs [rd cs z ((i1 + 1 : Nat) : Int), .d (.str zShut)] = .ok (.d (.bl true)) [rd cs z ((i1 + 1 + 1 : Nat) : Int), .d (.str zShut)] := ht
      have k3 : cThree cs [some (rd cs z ((i1 + 1 : Nat) : Int)), some (.d (nmC z))] = .ok (.rt (.d (.tup [nmC z, .tup []]))) [some (rd cs z ((i1 + 1 + 1 : Nat) : Int)), some (.d (nmC z))] := by
        generalize ((i1 + 1 + 1 : Nat) : Int) = j3 at ht ⊢
        generalize ((i1 + 1 : Nat) : Int) = j2 at ht ⊢
        generalize nmC z = N
        simp [cThree, ht]
      rw [seq_rt k3]
      refine ⟨i1 + 1 + 1, l3, by rw [← List.drop_drop, d2, List.drop_drop], ?_⟩
      generalize ((i1 + 1 + 1 : Nat) : Int) = j3
      generalize nmC z = N
      simp
    · rw [if_neg c1] at ht ⊢
      have ht : m_ThingSigns_has_text cs [rd cs z ((i1 + 1 : Nat) : Int), .d (.str zShut)] = .ok (.d (.bl false)) [rd cs z ((i1 + 1 : Nat) : Int), .d (.str zShut)] := ht
      have k3 : cThree cs [some (rd cs z ((i1 + 1 : Nat) : Int)), some (.d (nmC z))] = .ok .nx [some (rd cs z ((i1 + 1 : Nat) : Int)), some (.d (nmC z))] := by
        generalize ((i1 + 1 : Nat) : Int) = j2 at ht ⊢
        generalize nmC z = N
        simp [cThree, ht]
      rw [seq_nx k3]
      have mp : c_MOST_POINTS = .int 60 := rfl
      have rr : RowP cs z 60 (mm_ThingSigns_take_row cs 130) := row_ok cs hz (take_one_ok cs hz 60 129 (by omega) (by omega))
      have r := rr (i1 + 1) ((i1 + 1 : Nat) : Int) 60 l2 rfl rfl
      rw [d2] at r
      cases hp : pRow (pOne 60) ((afC z).drop 1) with
      | some p =>
        obtain ⟨Ts, r2⟩ := p
        rw [hp] at r
        obtain ⟨i4, j1, j2, j3⟩ := r
        refine ⟨i4, j1, j2, ?_⟩
        have j3 : m_ThingSigns_take_row cs [rd cs z ((i1 + 1 : Nat) : Int), .d (.int 60)] = .ok (.d (.tup Ts)) [rd cs z (i4 : Int), .d (.int 60)] := j3
        generalize (i4 : Int) = h4 at j3 ⊢
        generalize ((i1 + 1 : Nat) : Int) = h5 at j3 ⊢
        generalize nmC z = N
        simp [cFour, mp, j3]
      | none =>
        rw [hp] at r
        obtain ⟨h4, j3⟩ := r
        have j3 : m_ThingSigns_take_row cs [rd cs z ((i1 + 1 : Nat) : Int), .d (.int 60)] = .ex XN [rd cs z h4, .d (.int 60)] := j3
        refine ⟨h4, ?_⟩
        generalize ((i1 + 1 : Nat) : Int) = h5 at j3 ⊢
        generalize nmC z = N
        simp [cFour, mp, j3]
  · rw [if_neg c]
    rw [if_neg (show ¬ ((sg z).dropWhile isSm).take 1 = [40] from c)] at tt
    refine ⟨(i1 : Int), ?_⟩
    have tt : m_ThingSigns_take_text cs [rd cs z (i1 : Int), .d (.str zOpen)] = .ex XN [rd cs z (i1 : Int), .d (.str zOpen)] := tt
    have k2 : cTwo cs [some (rd cs z (i1 : Int)), some (.d (nmC z))] = .ex XN [some (rd cs z (i1 : Int)), some (.d (nmC z))] := by
      generalize (i1 : Int) = j1 at tt ⊢
      generalize nmC z = N
      simp [cTwo, tt]
    rw [seq_ex k2]
    generalize (i1 : Int) = j1
    generalize nmC z = N
    simp
theorem row_tx {s : List Nat} {Ts : List D} {r : List Nat} (hs : s.length ≤ 2900) (e : pRow (pOne 60) s = some (Ts, r)) : ∀ T ∈ Ts, TxOk T := by
  unfold pRow at e
  obtain ⟨⟨T, r1⟩, e1, e2⟩ := Option.bind_eq_some_iff.mp e
  obtain ⟨⟨Ts', r2⟩, e3, e4⟩ := Option.map_eq_some_iff.mp e2
  cases e4
  intro T' hT
  have lt := one_lt _ _ _ _ e1
  rcases List.mem_cons.mp hT with rfl | hT
  · exact read_tx _ _ _ _ hs e1
  · exact more_allN (N := 2900) (fun s T r hs e => ⟨read_tx _ s T r hs e, Nat.le_of_lt (one_lt _ _ _ _ e)⟩) _ _ _ _ (by show r1.length ≤ 2900; omega) e3 T' hT
theorem small_sok {w : List Nat} (h : ∀ c ∈ w, isSm c = true) (hl : w.length ≤ 2900) : SOk 3000 (ofC w) := by
  refine ⟨strOkI.mpr fun x hx => ?_, by rw [len_ofC]; omega⟩
  have hx : x ∈ w := by simpa [ofC] using hx
  have := List.all_eq_true.mp small_128 x (of_decide_eq_true (h x hx))
  simp at this; omega
theorem after_le (z : Str) : (afC z).length ≤ z.length := by
  have := dw_le (p := isSm) (sg z)
  rw [sg_len] at this
  exact this
theorem res_tx {z : Str} (hz : z.length ≤ 2900) {Ts : List D} {r : List Nat} (e : resC z = some (Ts, r)) : TxOk (.tup [nmC z, .tup Ts]) := by
  have nt : TxOk (nmC z) := by
    unfold nmC
    simp only [TxOk]
    refine (small_sok (fun c hc => tw_mem hc) ?_).mono (by omega)
    have := tw_le (p := isSm) (sg z)
    rw [sg_len] at this
    omega
  have tt : ∀ T ∈ Ts, TxOk T := by
    unfold resC at e
    by_cases c : (afC z).take 1 = [40]
    · rw [if_pos c] at e
      by_cases c1 : ((afC z).drop 1).take 1 = [41]
      · rw [if_pos c1] at e
        cases e
        intro T hT
        cases hT
      · rw [if_neg c1] at e
        have := after_le z
        exact row_tx (by rw [List.length_drop]; omega) e
    · rw [if_neg c] at e
      cases e
  generalize nmC z = N at nt ⊢
  simp only [TxOk, TxOks]
  exact ⟨nt, txOks_iff.mpr tt, trivial⟩
theorem read_call_is (cs : Cs) {z : Str} (hz : z.length ≤ 2900) : m_read_call cs [.d (.str z)] = (match callZ z with | some C => .ok (.d C) [.d (.str z)] | none => .ex XN [.d (.str z)]) := by
  have t0 := tell0
  have i0 := init_ok cs z
  have tc := take_call_is cs hz
  unfold callZ
  cases hp : resC z with
  | none =>
    rw [hp] at tc
    obtain ⟨h', k⟩ := tc
    simp [m_read_call, b_read_call, i0, k]
  | some p =>
    obtain ⟨Ts, r⟩ := p
    rw [hp] at tc
    obtain ⟨i', k1, k2, k3⟩ := tc
    have ov := over_ok cs (by omega : z.length ≤ 10000) k1 (rfl : (i' : Int) = _)
    rw [k2] at ov
    have ic := is_call_ok (res_tx hz hp)
    generalize (i' : Int) = h3 at k3 ov
    generalize nmC z = N at k3 ic ⊢
    cases r with
    | cons a r => simp [m_read_call, b_read_call, i0, k3, ov, t0]
    | nil =>
      cases hc : isCallD (.tup [N, .tup Ts]) with
      | true =>
        rw [hc] at ic
        simp only [hc, if_true]
        simp [m_read_call, b_read_call, i0, k3, ov, ic]
      | false =>
        rw [hc] at ic
        simp only [hc, Bool.false_eq_true, if_false]
        simp [m_read_call, b_read_call, i0, k3, ov, ic, t0]
theorem read_call_no (cs : Cs) {x : D} (h : ∀ z, x ≠ .str z) : m_read_call cs [.d x] = .ex XN [.d x] := by
  have i0 := init_no cs h
  simp [m_read_call, b_read_call, i0]
/-! ### the law's reading of calls -/
abbrev waC (z : Str) : List Nat := (sg z).takeWhile isSm
def lawC (z : Str) : Option D :=
  if ¬ ((0 < (waC z).length ∧ (waC z).length < 7) ∧ (afC z).take 1 = [40]) then none else
  if inSome (ofC (waC z)) = true then none else
  if afC z = [40, 41] then some (.tup [nmC z, .tup []]) else
  match lRow (lOne 60) ((afC z).drop 1) with
  | some (Ts, []) => if (Ts.filter fun T => decide (60 < cn T)) = [] then some (.tup [nmC z, .tup Ts]) else none
  | _ => none
def scan0C : G Bool := (gAnd (gTest (g2 oLt (gVar 1) (gCal oLen (gConsA (gVar 0) gNilA)))) (gTest (g2 oIn (g2 oIx (gVar 0) (gVar 1)) (gC (.str zSmall)))))
def scan0B : G Fl := (gAsg 1 (g2 oAdd (gVar 1) (gC (.int 1))))
def cL0 : G Fl := (gAsg 1 (gC (.int 0)))
def cL2 : G Fl := (gIf (gOr (gNot (gTest (gChain oLt oLt (gC (.int 0)) (gVar 1) (gC (.int 7))))) (gTest (g2 oNe (gSl oSl (gVar 0) (gP (gVar 1)) (gP (g2 oAdd (gVar 1) (gC (.int 1))))) (gC (.str (PySem.Str.ofString "(")))))) (gRetD (gC .non)) gPass)
def cL3 : G Fl := (gIf (gTest (gInS false (gSl oSl (gVar 0) gNoP (gP (gVar 1))) (gOwnS (gLst (gConsA (gC (.str (PySem.Str.ofString "else"))) (gConsA (gC (.str (PySem.Str.ofString "fun"))) (gConsA (gC (.str (PySem.Str.ofString "if"))) (gConsA (gC (.str (PySem.Str.ofString "in"))) (gConsA (gC (.str (PySem.Str.ofString "let"))) (gConsA (gC (.str (PySem.Str.ofString "then"))) gNilA)))))))))) (gRetD (gC .non)) gPass)
def cL4 : G Fl := (gIf (gTest (g2 oEq (gSl oSl (gVar 0) (gP (gVar 1)) gNoP) (gC (.str (PySem.Str.ofString "()"))))) (gRetD (gTup (gConsA (gSl oSl (gVar 0) gNoP (gP (gVar 1))) (gConsA (gTup gNilA) gNilA)))) gPass)
def cL5 : G Fl := (gAsg 2 (gToD (gCall m__law_row_at (gcCons (gcD (gVar 0)) (gcCons (gcD (g2 oAdd (gVar 1) (gC (.int 1)))) (gcCons (gcD (gC (.int 60))) gcNil))))))
def cL6 : G Fl := (gIf (gOr (gTest (g2 oIsN (gVar 2) (gC .non))) (gOr (gTest (g2 oLt (g2 oIx (gVar 2) (gC (.int 1))) (gCal oLen (gConsA (gVar 0) gNilA)))) (gTest (gCmpS oNe (gOwnS (gLc (gItems (gDat (g2 oIx (gVar 2) (gC (.int 0))))) (putD 3) (gTest (g2 oGt (gToD (gCall m__law_count (gcCons (gcD (gVar 3)) gcNil))) (gC (.int 60)))) (gVar 3) [3])) (gOwnS (gLst gNilA)))))) (gRetD (gC .non)) gPass)
def cL7 : G Fl := (gRetD (gTup (gConsA (gSl oSl (gVar 0) gNoP (gP (gVar 1))) (gConsA (g2 oIx (gVar 2) (gC (.int 0))) gNilA))))
theorem cL_is : b__law_call_of = gSeq cL0 (gSeq (whileR scan0C scan0B 3000) (gSeq cL2 (gSeq cL3 (gSeq cL4 (gSeq cL5 (gSeq cL6 cL7)))))) := rfl
theorem scan0_ok {z : Str} (hz : z.length ≤ 10000) : ∀ (n i : Nat) (h : Int) (x y : Option Ob), i ≤ z.length → h = (i : Int) → ((sg z).drop i).length < n →
    whileR scan0C scan0B n [some (.d (.str z)), some (.d (.int h)), x, y] = .ok .nx [some (.d (.str z)), some (.d (.int ((i + (((sg z).drop i).takeWhile isSm).length : Nat) : Int))), x, y] := by
  intro n
  induction n with
  | zero => intro i h x y hi e hn; omega
  | succ n ih =>
    intro i h x y hi e hn
    have s := sz_ok hz
    have hl : ((sg z).drop i).length = z.length - i := by rw [List.length_drop, sg_len]
    have ln : oLen [.str z] = some (.int (z.length : Int)) := by rw [oLen_str, if_pos s]
    cases hd : (sg z).drop i with
    | nil =>
      rw [hd] at hl
      simp at hl
      have lt : ¬ h < (z.length : Int) := by omega
      generalize (z.length : Int) = L at ln lt
      rw [whileR_end (Γ1 := [some (.d (.str z)), some (.d (.int h)), x, y]) (by simp [scan0C, ln, lt, -oLen_str])]
      simp [e]
    | cons c r =>
      rw [hd] at hl hn
      simp only [List.length_cons] at hn hl
      have lt : h < (z.length : Int) := by omega
      have ix : oIx (.str z) (.int h) = some (.str (ofC [c])) := by
        rw [oIx_str, if_pos s]
        have : (sg z)[i]? = some c := by
          have := congrArg (fun l => l[0]?) hd
          simpa using this
        show Option.map _ (atI (sg z) h) = _
        rw [e, atI_nat (j := i) this]
        rfl
      obtain ⟨d1, d2⟩ := drop_succ hd
      generalize (z.length : Int) = L at ln lt
      have i1 := in_small c
      cases hc : isSm c with
      | true =>
        rw [hc] at i1
        rw [whileR_step (Γ1 := [some (.d (.str z)), some (.d (.int h)), x, y]) (Γ2 := [some (.d (.str z)), some (.d (.int (h + 1))), x, y]) (fl := .nx) (by simp [scan0C, ln, lt, ix, i1, -oLen_str, -oIx_str]) (by simp [scan0B]) (.inl rfl)]
        rw [ih (i + 1) (h + 1) x y d2 (by omega) (by rw [d1]; omega), d1, List.takeWhile_cons_of_pos hc]
        simp only [List.length_cons]
        rw [show i + 1 + (List.takeWhile isSm r).length = i + ((List.takeWhile isSm r).length + 1) by omega]
      | false =>
        rw [hc] at i1
        rw [whileR_end (Γ1 := [some (.d (.str z)), some (.d (.int h)), x, y]) (by simp [scan0C, ln, lt, ix, i1, -oLen_str, -oIx_str])]
        rw [List.takeWhile_cons_of_neg (by simp [hc])]
        simp [e]
theorem cut_to (z : Str) {i : Nat} {h : Int} (e : h = (i : Int)) : cutS z none (some h) = ofC ((sg z).take i) := by
  subst e
  refine str_ext ?_
  rw [cutS_take]
  show _ = sg (ofC _)
  rw [sg_ofC]
  rfl
theorem cut_behind (z : Str) {i : Nat} {h : Int} (e : h = (i : Int)) : cutS z (some h) none = ofC ((sg z).drop i) := by
  subst e
  refine str_ext ?_
  rw [cutS_drop]
  show _ = sg (ofC _)
  rw [sg_ofC]
  rfl
theorem wa_le (z : Str) : (waC z).length ≤ z.length := by
  have := tw_le (p := isSm) (sg z)
  rw [sg_len] at this
  exact this
theorem drop_wa (z : Str) : (sg z).drop (waC z).length = afC z := drop_tw _
theorem name_cut (z : Str) {h : Int} (e : h = ((waC z).length : Int)) : D.str (cutS z none (some h)) = nmC z := by
  rw [cut_to z e, take_tw]
  rfl
theorem paren_ne (w : List Nat) : oNe (.str (ofC w)) (.str (PySem.Str.ofString "(")) = some (.bl (!decide (w = [40]))) := by
  rw [oNe_str, show PySem.Str.ofString "(" = ofC [40] by decide +kernel, show decide (ofC w = ofC [40]) = decide (w = [40]) from decide_eq_decide.mpr ofC_inj]
theorem parens_eq (w : List Nat) : oEq (.str (ofC w)) (.str (PySem.Str.ofString "()")) = some (.bl (decide (w = [40, 41]))) := by
  rw [oEq_str, show PySem.Str.ofString "()" = ofC [40, 41] by decide +kernel, show decide (ofC w = ofC [40, 41]) = decide (w = [40, 41]) from decide_eq_decide.mpr ofC_inj]
theorem cL2_ok {z : Str} (hz : z.length ≤ 2900) {L : Int} (hL : L = ((waC z).length : Int)) (x y : Option Ob) : cL2 [some (.d (.str z)), some (.d (.int L)), x, y] =
    if ¬ ((0 < (waC z).length ∧ (waC z).length < 7) ∧ (afC z).take 1 = [40]) then .ok (.rt (.d .non)) [some (.d (.str z)), some (.d (.int L)), x, y] else .ok .nx [some (.d (.str z)), some (.d (.int L)), x, y] := by
  have s := sz_ok (by omega : z.length ≤ 10000)
  have ct := cut_at z (wa_le z) 1 hL (show L + 1 = (((waC z).length + 1 : Nat) : Int) by omega)
  rw [drop_wa] at ct
  have pn := paren_ne ((afC z).take 1)
  by_cases c1 : 0 < (waC z).length
  · have d1 : (0 : Int) < L := by omega
    by_cases c2 : (waC z).length < 7
    · have d2 : L < 7 := by omega
      by_cases c3 : (afC z).take 1 = [40]
      · rw [if_neg (fun h => h ⟨⟨c1, c2⟩, c3⟩)]
        rw [c3] at ct pn
        simp [cL2, d1, d2, s, ct, pn, -oNe_str]
      · rw [if_pos (fun h => c3 h.2)]
        rw [decide_eq_false c3] at pn
        simp [cL2, d1, d2, s, ct, pn, -oNe_str]
    · have d2 : ¬ L < 7 := by omega
      rw [if_pos (fun h => c2 h.1.2)]
      simp [cL2, d1, d2]
  · have d1 : ¬ (0 : Int) < L := by omega
    rw [if_pos (fun h => c1 h.1.1)]
    simp [cL2, d1]
theorem name_cut' (z : Str) {h : Int} (e : h = ((waC z).length : Int)) : cutS z none (some h) = ofC (waC z) := by
  have := name_cut z e
  injection this
theorem wa_sok {z : Str} (hz : z.length ≤ 2900) : SOk 3000 (ofC (waC z)) := small_sok (fun c hc => tw_mem hc) (by have := wa_le z; omega)
theorem cL3_ok {z : Str} (hz : z.length ≤ 2900) {L : Int} (hL : L = ((waC z).length : Int)) (x y : Option Ob) : cL3 [some (.d (.str z)), some (.d (.int L)), x, y] =
    if inSome (ofC (waC z)) = true then .ok (.rt (.d .non)) [some (.d (.str z)), some (.d (.int L)), x, y] else .ok .nx [some (.d (.str z)), some (.d (.int L)), x, y] := by
  have s := sz_ok (by omega : z.length ≤ 10000)
  have nc := name_cut' z hL
  have tk := taken_ok (wa_sok hz).1
  unfold wTaken at tk
  generalize ofC (waC z) = W at nc tk ⊢
  cases h : inSome W with
  | true =>
    rw [h] at tk
    simp [cL3, s, nc, tk]
  | false =>
    rw [h] at tk
    simp [cL3, s, nc, tk]
theorem cL4_ok {z : Str} (hz : z.length ≤ 2900) {L : Int} (hL : L = ((waC z).length : Int)) (x y : Option Ob) : cL4 [some (.d (.str z)), some (.d (.int L)), x, y] =
    if afC z = [40, 41] then .ok (.rt (.d (.tup [nmC z, .tup []]))) [some (.d (.str z)), some (.d (.int L)), x, y] else .ok .nx [some (.d (.str z)), some (.d (.int L)), x, y] := by
  have s := sz_ok (by omega : z.length ≤ 10000)
  have nc := name_cut z hL
  have cb := cut_behind z hL
  rw [drop_wa] at cb
  have pe := parens_eq (afC z)
  generalize ofC (afC z) = A at cb pe
  generalize nmC z = N at nc ⊢
  by_cases c : afC z = [40, 41]
  · rw [if_pos c]
    rw [decide_eq_true c] at pe
    simp [cL4, s, nc, cb, pe, -oEq_str]
  · rw [if_neg c]
    rw [decide_eq_false c] at pe
    simp [cL4, s, cb, pe, -oEq_str]
theorem cL5_ok {z : Str} (hz : z.length ≤ 2900) {L : Int} (hL : L = ((waC z).length : Int)) (hc : (afC z).take 1 = [40]) (x y : Option Ob) :
    match lRow (lOne 60) ((afC z).drop 1) with
    | some (Ts, r) => ∃ i' : Nat, i' ≤ z.length ∧ (sg z).drop i' = r ∧ cL5 [some (.d (.str z)), some (.d (.int L)), x, y] = .ok .nx [some (.d (.str z)), some (.d (.int L)), some (.d (.tup [.tup Ts, .int (i' : Int)])), y]
    | none => cL5 [some (.d (.str z)), some (.d (.int L)), x, y] = .ok .nx [some (.d (.str z)), some (.d (.int L)), some (.d .non), y] := by
  have rr : RowL z 60 (mm__law_row_at 130) := lrow_ok hz (thing_at_ok hz 60 129 (by omega))
  have l2 : (waC z).length + 1 ≤ z.length := take_room (k := 1) (w := [40]) (wa_le z) (by rw [drop_wa]; exact hc) rfl
  have d2 : (sg z).drop ((waC z).length + 1) = (afC z).drop 1 := by rw [← List.drop_drop, drop_wa]
  have r := rr ((waC z).length + 1) (L + 1) 60 l2 (by omega) rfl
  rw [d2] at r
  cases hp : lRow (lOne 60) ((afC z).drop 1) with
  | some p =>
    obtain ⟨Ts, r2⟩ := p
    rw [hp] at r
    obtain ⟨i', j1, j2, j3⟩ := r
    refine ⟨i', j1, j2, ?_⟩
    have j3 : m__law_row_at [.d (.str z), .d (.int (L + 1)), .d (.int 60)] = .ok (.d (.tup [.tup Ts, .int (i' : Int)])) [.d (.str z), .d (.int (L + 1)), .d (.int 60)] := j3
    generalize (i' : Int) = h4 at j3 ⊢
    simp [cL5, j3]
  | none =>
    rw [hp] at r
    have j3 : m__law_row_at [.d (.str z), .d (.int (L + 1)), .d (.int 60)] = .ok (.d .non) [.d (.str z), .d (.int (L + 1)), .d (.int 60)] := r
    simp [cL5, j3]
theorem lrow_parts {d : Nat} {s : List Nat} {Ts : List D} {r : List Nat} (e : lRow (lOne d) s = some (Ts, r)) : pRow (lOne d) s = some (Ts, r) ∧ Ts.length < 5 ∧ ∀ T ∈ Ts, hg T ≤ d + 1 ∧ okB T = true := by
  unfold lRow at e
  obtain ⟨⟨Ts', r'⟩, e1, e2⟩ := Option.bind_eq_some_iff.mp e
  by_cases c : Ts'.length < 5
  · rw [if_pos c] at e2
    cases e2
    exact ⟨e1, c, row_all (C := fun T => hg T ≤ d + 1 ∧ okB T = true) (fun s T r e => ⟨lone_hg _ _ _ _ e, (readA val_ok _ _ _ _ e).1⟩) e1⟩
  · rw [if_neg c] at e2
    cases e2
theorem cL6_none (z : Str) (L : Int) (y : Option Ob) : cL6 [some (.d (.str z)), some (.d (.int L)), some (.d .non), y] = .ok (.rt (.d .non)) [some (.d (.str z)), some (.d (.int L)), some (.d .non), y] := by
  simp [cL6]
def great60 (T : D) : Bool := decide (60 < cn T)
theorem cL6_ok {z : Str} (hz : z.length ≤ 2900) (L : Int) {Ts : List D} {i' : Nat} (hT : ∀ T ∈ Ts, hg T ≤ 61 ∧ okB T = true) (hl : Ts.length < 5) (hi : i' ≤ z.length) :
    cL6 [some (.d (.str z)), some (.d (.int L)), some (.d (.tup [.tup Ts, .int (i' : Int)])), none] =
      if i' = z.length ∧ Ts.filter great60 = [] then .ok .nx [some (.d (.str z)), some (.d (.int L)), some (.d (.tup [.tup Ts, .int (i' : Int)])), none]
      else .ok (.rt (.d .non)) [some (.d (.str z)), some (.d (.int L)), some (.d (.tup [.tup Ts, .int (i' : Int)])), none] := by
  have s := sz_ok (by omega : z.length ≤ 10000)
  have ln : oLen [.str z] = some (.int (z.length : Int)) := by rw [oLen_str, if_pos s]
  by_cases c : i' = z.length
  · have lt : ¬ (i' : Int) < (z.length : Int) := by omega
    generalize (z.length : Int) = ZL at ln lt
    obtain ⟨j, hj⟩ : ∃ j : Int, j = (i' : Int) := ⟨_, rfl⟩
    rw [← hj] at lt ⊢
    have e1 : lcR (putD 3) (gTest (g2 oGt (gToD (gCall m__law_count (gcCons (gcD (gVar 3)) gcNil))) (gC (.int 60)))) (gVar 3) [3] Ts [] [some (.d (.str z)), some (.d (.int L)), some (.d (.tup [.tup Ts, .int j])), none] = .ok ([] ++ (Ts.filter great60).map id) [some (.d (.str z)), some (.d (.int L)), some (.d (.tup [.tup Ts, .int j])), none] :=
      lcR_pure great60 id Ts [] (by simp; omega) fun x hx => by
        have ct := count_ok 80 x (by have := (hT x hx).1; omega) (hT x hx).2
        have ct : m__law_count [.d x] = .ok (.d (.int ((cn x : Nat) : Int))) [.d x] := ct
        have e6 : decide ((60 : Int) < ((cn x : Nat) : Int)) = great60 x := decide_eq_decide.mpr (by omega)
        generalize ((cn x : Nat) : Int) = N at ct e6
        refine ⟨[some (.d (.str z)), some (.d (.int L)), some (.d (.tup [.tup Ts, .int j])), some (.d x)], [some (.d (.str z)), some (.d (.int L)), some (.d (.tup [.tup Ts, .int j])), some (.d x)], rfl, ?_, fun _ => ⟨[some (.d (.str z)), some (.d (.int L)), some (.d (.tup [.tup Ts, .int j])), some (.d x)], by simp, rfl⟩, fun _ => rfl⟩
        simp [ct, e6]
    rw [List.map_id, List.nil_append] at e1
    generalize Ts.filter great60 = F at e1 ⊢
    cases F with
    | nil =>
      rw [if_pos ⟨c, rfl⟩]
      simp [cL6, ln, lt, e1, -oLen_str]
    | cons a b =>
      rw [if_neg fun h => by cases h.2]
      simp [cL6, ln, lt, e1, -oLen_str]
  · have lt : (i' : Int) < (z.length : Int) := by omega
    rw [if_neg fun h => c h.1]
    generalize (z.length : Int) = ZL at ln lt
    generalize (i' : Int) = j at lt ⊢
    simp [cL6, ln, lt, -oLen_str]
theorem cL7_ok {z : Str} (hz : z.length ≤ 2900) {L : Int} (hL : L = ((waC z).length : Int)) (Ts : List D) (j : Int) (y : Option Ob) : cL7 [some (.d (.str z)), some (.d (.int L)), some (.d (.tup [.tup Ts, .int j])), y] = .ok (.rt (.d (.tup [nmC z, .tup Ts]))) [some (.d (.str z)), some (.d (.int L)), some (.d (.tup [.tup Ts, .int j])), y] := by
  have s := sz_ok (by omega : z.length ≤ 10000)
  have nc := name_cut z hL
  generalize nmC z = N at nc ⊢
  simp [cL7, s, nc]
def dueD : Option D → D
  | some T => T
  | none => .non
theorem lawC_eq (z : Str) : lawC z =
  if ¬ ((0 < (waC z).length ∧ (waC z).length < 7) ∧ (afC z).take 1 = [40]) then none else
  if inSome (ofC (waC z)) = true then none else
  if afC z = [40, 41] then some (.tup [nmC z, .tup []]) else
  match lRow (lOne 60) ((afC z).drop 1) with
  | some (Ts, []) => if Ts.filter great60 = [] then some (.tup [nmC z, .tup Ts]) else none
  | _ => none := rfl
theorem call_of_ok {z : Str} (hz : z.length ≤ 2900) : m__law_call_of [.d (.str z)] = .ok (.d (dueD (lawC z))) [.d (.str z)] := by
  have sc := scan0_ok (by omega : z.length ≤ 10000) 3000 0 0 none none (by omega) rfl (by rw [List.drop_zero, sg_len]; omega)
  rw [List.drop_zero, Nat.zero_add] at sc
  obtain ⟨L, hL⟩ : ∃ L : Int, L = ((waC z).length : Int) := ⟨_, rfl⟩
  have sc : whileR scan0C scan0B 3000 [some (.d (.str z)), some (.d (.int 0)), none, none] = .ok .nx [some (.d (.str z)), some (.d (.int L)), none, none] := by rw [sc, hL]
  have k0 : cL0 [some (.d (.str z)), none, none, none] = .ok .nx [some (.d (.str z)), some (.d (.int 0)), none, none] := by simp [cL0]
  unfold m__law_call_of gBody
  rw [cL_is]
  show fin [false] [.d (.str z)] ((gSeq cL0 _) [some (.d (.str z)), none, none, none]) = _
  rw [seq_nx k0, seq_nx sc, lawC_eq]
  have c2 := cL2_ok hz hL none none
  by_cases b2 : ¬ ((0 < (waC z).length ∧ (waC z).length < 7) ∧ (afC z).take 1 = [40])
  · rw [if_pos b2] at c2 ⊢
    rw [seq_rt c2]
    simp [dueD]
  rw [if_neg b2] at c2 ⊢
  rw [seq_nx c2]
  have b2 := Classical.not_not.mp b2
  have c3 := cL3_ok hz hL none none
  by_cases b3 : inSome (ofC (waC z)) = true
  · rw [if_pos b3] at c3 ⊢
    rw [seq_rt c3]
    simp [dueD]
  rw [if_neg b3] at c3 ⊢
  rw [seq_nx c3]
  have c4 := cL4_ok hz hL none none
  by_cases b4 : afC z = [40, 41]
  · rw [if_pos b4] at c4 ⊢
    rw [seq_rt c4]
    generalize nmC z = N
    simp [dueD]
  rw [if_neg b4] at c4 ⊢
  rw [seq_nx c4]
  have c5 := cL5_ok hz hL b2.2 none none
  cases hp : lRow (lOne 60) ((afC z).drop 1) with
  | none =>
    rw [hp] at c5
    rw [seq_nx c5, seq_rt (cL6_none z L none)]
    simp [dueD]
  | some p =>
    obtain ⟨Ts, r⟩ := p
    rw [hp] at c5
    obtain ⟨i', i1, i2, c5⟩ := c5
    obtain ⟨q1, q2, q3⟩ := lrow_parts hp
    have c6 := cL6_ok hz L q3 q2 i1
    have c7 := cL7_ok hz hL Ts (i' : Int) none
    rw [seq_nx c5]
    have hl : r.length = z.length - i' := by rw [← i2, List.length_drop, sg_len]
    generalize (i' : Int) = j at c6 c7 ⊢
    cases r with
    | cons a r =>
      have ne : ¬ (i' = z.length ∧ Ts.filter great60 = []) := fun h => by simp at hl; omega
      rw [if_neg ne] at c6
      rw [seq_rt c6]
      simp [dueD]
    | nil =>
      have ee : i' = z.length := by simp at hl; omega
      show _ = Res.ok (Ob.d (dueD (if Ts.filter great60 = [] then some (.tup [nmC z, .tup Ts]) else none))) _
      by_cases b6 : Ts.filter great60 = []
      · rw [if_pos ⟨ee, b6⟩] at c6
        rw [if_pos b6, seq_nx c6, c7]
        generalize nmC z = N
        simp [dueD]
      · rw [if_neg fun h => b6 h.2] at c6
        rw [if_neg b6, seq_rt c6]
        simp [dueD]
/-! ### numbers there and back -/
theorem dig_iff {c : Nat} : isDig c = true ↔ 48 ≤ c ∧ c ≤ 57 := by
  constructor
  · exact dig_range
  · intro h
    have e : zFig.cps.toList = [48, 49, 50, 51, 52, 53, 54, 55, 56, 57] := by decide +kernel
    simp only [isDig, e, decide_eq_true_eq, List.mem_cons, List.not_mem_nil, or_false]
    omega
theorem num_sg (n : Nat) : sg (PySem.Str.ofString (toString (n : Int))) = TL.numL n := TL.tl_num n
theorem numL_dig (n : Nat) : (TL.numL n).all isDig = true := List.all_eq_true.mpr fun x hx => dig_iff.mpr (TL.numL_digits n x hx)
theorem numL_head : ∀ (n : Nat), 1 ≤ n → (TL.numL n).head? ≠ some 48 := by
  intro n
  induction n using Nat.strongRecOn with
  | _ n ih =>
    intro h
    by_cases c : n < 10
    · rw [TL.numL_lt c]
      simp only [List.head?_cons, ne_eq, Option.some.injEq]
      omega
    · rw [TL.numL_step (by omega), List.head?_append]
      have := ih (n / 10) (by omega) (by omega)
      cases e : (TL.numL (n / 10)).head? with
      | none =>
        rw [List.head?_eq_none_iff] at e
        exact absurd e (TL.numL_ne _)
      | some x =>
        rw [e] at this
        exact this
theorem numL_ok {n : Nat} (h : n ≤ 1000000000) : numOk (TL.numL n) = true := by
  have hl := TL.numL_len (n := n) (k := 10) (by omega) (by omega)
  unfold numOk
  rw [decide_eq_true hl, Bool.true_and]
  by_cases c : n = 0
  · subst c
    rw [TL.numL_lt (by omega)]
    rfl
  · have := numL_head n (by omega)
    rw [decide_eq_false this]
    rfl
theorem val_num (n : Nat) (h : n ≤ 1000000000) : valOf (TL.numL n) = (n : Int) := by
  have hl := TL.numL_len (n := n) (k := 10) (by omega) (by omega)
  have e := TL.int_num (n := n) (by omega)
  have e2 : ofC (TL.numL n) = PySem.Str.ofString (toString (n : Int)) := by rw [← num_sg, ofC_sg]
  unfold valOf
  rw [e2, e]
  rfl
theorem num_val : ∀ (w : List Nat), NumText.AllDigits w → w ≠ [] → (w.head? = some 48 → w.length = 1) → TL.numL (NumText.digitsVal w) = w := by
  intro w
  induction hn : w.length using Nat.strongRecOn generalizing w with
  | _ n ih =>
    intro hd hne hh
    obtain ⟨u, c, rfl⟩ : ∃ u c, w = u ++ [c] := ⟨w.dropLast, w.getLast hne, (List.dropLast_concat_getLast hne).symm⟩
    have hc := hd c (by simp)
    have hv : NumText.digitsVal (u ++ [c]) = NumText.digitsVal u * 10 + (c - 48) := by
      unfold NumText.digitsVal
      rw [List.foldl_append]
      rfl
    rw [hv]
    cases u with
    | nil =>
      rw [show NumText.digitsVal [] = 0 from rfl, Nat.zero_mul, Nat.zero_add, TL.numL_lt (by omega)]
      rw [show 48 + (c - 48) = c by omega]
      rfl
    | cons x u =>
      have hx : x ≠ 48 := fun e => by
        have := hh (by rw [e]; rfl)
        rw [← hn] at this
        simp at this
      have q := ih (x :: u).length (by rw [← hn]; simp) (x :: u) rfl (fun y hy => hd y (List.mem_append_left _ hy)) (by simp) (fun e => by simp at e; exact absurd e hx)
      have h1 : 1 ≤ NumText.digitsVal (x :: u) := by
        by_cases z : NumText.digitsVal (x :: u) = 0
        · rw [z, TL.numL_lt (by omega)] at q
          have := congrArg List.head? q
          simp at this
          omega
        · omega
      rw [TL.numL_step (by omega), show (NumText.digitsVal (x :: u) * 10 + (c - 48)) / 10 = NumText.digitsVal (x :: u) by omega, show (NumText.digitsVal (x :: u) * 10 + (c - 48)) % 10 = c - 48 by omega, q, show 48 + (c - 48) = c by omega]
theorem text_val {w : List Nat} (h : w.all isDig = true) (hne : w ≠ []) (hn : numOk w = true) : sg (PySem.Str.ofString (toString (valOf w))) = w := by
  have hd : NumText.AllDigits w := fun c hc => dig_iff.mp (List.all_eq_true.mp h c hc)
  simp only [numOk, Bool.and_eq_true, decide_eq_true_eq, Bool.not_eq_true', Bool.and_eq_false_imp, decide_eq_false_iff_not] at hn
  have e := intText_digits (x := ofC w) (by simpa [ofC] using hd) (by simpa [ofC] using hne) (by show (ofC w).cps.toList.length ≤ 4300; simp [ofC]; omega)
  have ev : valOf w = ((NumText.digitsVal w : Nat) : Int) := by
    unfold valOf
    rw [e]
    simp [ofC]
  rw [ev, num_sg]
  refine num_val w hd hne fun z => ?_
  have := hn.2 z
  have := List.length_pos_iff.mpr hne
  omega
/-! ### texts there and back -/
/-- what stops a word -/
def Stop : List Nat → Prop
  | [] => True
  | x :: _ => isDig x = false ∧ isSm x = false ∧ x ≠ 40
theorem tw_stop {p : Nat → Bool} {a r : List Nat} (ha : a.all p = true) (hr : ∀ x y, r = x :: y → p x = false) : (a ++ r).takeWhile p = a ∧ (a ++ r).dropWhile p = r := by
  induction a with
  | nil =>
    cases r with
    | nil => exact ⟨rfl, rfl⟩
    | cons x y =>
      have := hr x y rfl
      exact ⟨List.takeWhile_cons_of_neg (by simp [this]), List.dropWhile_cons_of_neg (by simp [this])⟩
  | cons b a ih =>
    rw [List.all_cons, Bool.and_eq_true] at ha
    obtain ⟨i1, i2⟩ := ih ha.2
    exact ⟨by rw [List.cons_append, List.takeWhile_cons_of_pos ha.1, i1], by rw [List.cons_append, List.dropWhile_cons_of_pos ha.1, i2]⟩
/-- the parts behind the first one -/
def tl2 : List D → List Nat
  | [] => []
  | x :: xs => 44 :: 32 :: (sg (txD x) ++ tl2 xs)
theorem sg_app (a b : Str) : sg (a ++ b) = sg a ++ sg b := app_list a b
theorem sg_join : ∀ (p : D) (ps : List D), sg (Txt.join zComma (txDs (p :: ps))) = sg (txD p) ++ tl2 ps := by
  intro p ps
  rw [TL.join_eq]
  induction ps generalizing p with
  | nil =>
    rw [txDs, txDs, tl2, List.append_nil]
    rfl
  | cons q ps ih =>
    rw [txDs, txDs]
    rw [show PySem.Str.join zComma (txD p :: txD q :: txDs ps) = txD p ++ zComma ++ PySem.Str.join zComma (txD q :: txDs ps) from rfl, sg_app, sg_app]
    have := ih q
    rw [txDs] at this
    rw [this, comma, tl2, List.append_assoc]
    rfl
theorem gr_nodig {c : Nat} (h : isGr c = true) : isDig c = false := by
  have k : zGreat.cps.toList.all (fun c => !isDig c) = true := by decide +kernel
  have := List.all_eq_true.mp k c (of_decide_eq_true h)
  simpa using this
theorem word_parts {m : Str} (h : isWord zGreat zSmall m = true) : ∃ c r, sg m = c :: r ∧ isGr c = true ∧ r.all isSm = true := by
  unfold isWord at h
  rw [Bool.and_eq_true] at h
  have h2 := h.2
  split at h2
  · cases h2
  · rename_i c r e
    rw [Bool.and_eq_true] at h2
    exact ⟨c, r, e, h2.1, h2.2⟩
mutual
theorem Th.hgt : ∀ {n : Nat} {x : D}, Th n x → hg x ≤ n
  | _, _, .num _ _ => by simp [hg]
  | _, _, .mk hm hl hs => by
    simp only [hg]
    have := Ths.hgt hs
    omega
theorem Ths.hgt : ∀ {n : Nat} {xs : List D}, Ths n xs → hgs xs ≤ n
  | _, _, .nil => by simp [hgs]
  | _, _, .cons h hs => by
    have h1 := Th.hgt h
    have h2 := Ths.hgt hs
    simp only [hgs]
    omega
end
theorem more_of {one : List Nat → Rd} {r : List Nat} : ∀ {k : Nat} {xs : List D}, xs.length < k → (∀ x ∈ xs, ∀ s, Stop s → one (sg (txD x) ++ s) = some (x, s)) → pMore one k (tl2 xs ++ 41 :: r) = some (xs, r) := by
  intro k
  induction k with
  | zero => intro xs h; omega
  | succ k ih =>
    intro xs hl h
    cases xs with
    | nil => rfl
    | cons x xs =>
      unfold pMore
      rw [if_pos (by simp [tl2])]
      have st : Stop (tl2 xs ++ 41 :: r) := by
        cases xs with
        | nil => exact ⟨by decide +kernel, by decide +kernel, by decide⟩
        | cons y ys => exact ⟨by decide +kernel, by decide +kernel, by decide⟩
      have e : (tl2 (x :: xs) ++ 41 :: r).drop 2 = sg (txD x) ++ (tl2 xs ++ 41 :: r) := by simp [tl2]
      rw [e, h x List.mem_cons_self _ st]
      show Option.map _ (pMore one k (tl2 xs ++ 41 :: r)) = _
      rw [ih (by simpa using hl) fun y hy => h y (List.mem_cons_of_mem _ hy)]
      rfl
theorem row_of {one : List Nat → Rd} {r : List Nat} {x : D} {xs : List D} (hl : xs.length < 3000) (h : ∀ y ∈ x :: xs, ∀ s, Stop s → one (sg (txD y) ++ s) = some (y, s)) : pRow one (sg (txD x) ++ (tl2 xs ++ 41 :: r)) = some (x :: xs, r) := by
  have st : Stop (tl2 xs ++ 41 :: r) := by
    cases xs with
    | nil => exact ⟨by decide +kernel, by decide +kernel, by decide⟩
    | cons y ys => exact ⟨by decide +kernel, by decide +kernel, by decide⟩
  unfold pRow
  rw [h x List.mem_cons_self _ st]
  show Option.map _ (pMore one 3000 (tl2 xs ++ 41 :: r)) = _
  rw [more_of hl fun y hy => h y (List.mem_cons_of_mem _ hy)]
  rfl
/-- a thing's text is read as it -/
theorem parse_text : ∀ (d k : Nat) (x : D), hg x ≤ d → Th k x → ∀ s, Stop s → pOne d (sg (txD x) ++ s) = some (x, s) := by
  intro d
  induction d with
  | zero =>
    intro k x h
    exfalso
    unfold hg at h
    split at h <;> omega
  | succ d ih =>
    intro k x hd h s hs
    cases h with
    | @num i h0 h1 =>
      obtain ⟨n, rfl⟩ := Int.eq_ofNat_of_zero_le h0
      have hn : n ≤ 1000000000 := by omega
      rw [txD, num_sg]
      have hdg := numL_dig n
      obtain ⟨t1, t2⟩ := tw_stop (p := isDig) (a := TL.numL n) (r := s) hdg (fun x y e => by rw [e] at hs; exact hs.1)
      have ne := TL.numL_ne n
      have ok := numL_ok hn
      have vn := val_num n hn
      generalize TL.numL n = w at hdg t1 t2 ne ok vn
      cases w with
      | nil => exact absurd rfl ne
      | cons c w =>
        rw [List.all_cons, Bool.and_eq_true] at hdg
        simp only [pOne, oneP, List.cons_append, hdg.1, if_true]
        rw [List.cons_append] at t1 t2
        rw [t1, t2, ok, vn]
        rfl
    | @mk m n ps hm hl hps =>
      obtain ⟨c, r, em, gc, sr⟩ := word_parts hm.2
      have nd := gr_nodig gc
      cases ps with
      | nil =>
        rw [txD, em]
        obtain ⟨t1, t2⟩ := tw_stop (p := isSm) (a := r) (r := s) sr (fun x y e => by rw [e] at hs; exact hs.2.1)
        have n40 : ¬ s.take 1 = [40] := fun e => by
          cases s with
          | nil => cases e
          | cons x s => simp at e; exact hs.2.2 e
        have mo : markOf c (r ++ s) = m := by
          unfold markOf
          rw [t1, ← em, ofC_sg]
        simp only [pOne, oneP, List.cons_append, nd, gc, if_true, Bool.false_eq_true, if_false, t2, mo, n40]
      | cons p ps =>
        have e : sg (txD (.tup [.str m, .tup (p :: ps)])) ++ s = c :: (r ++ (40 :: (sg (txD p) ++ (tl2 ps ++ 41 :: s)))) := by
          rw [txD, sg_app, sg_app, sg_app, open_sg, close_sg, sg_join, em]
          simp
        rw [e]
        have nsm : isSm 40 = false := by decide +kernel
        obtain ⟨t1, t2⟩ := tw_stop (p := isSm) (a := r) (r := 40 :: (sg (txD p) ++ (tl2 ps ++ 41 :: s))) sr (fun x y e => by cases e; exact nsm)
        have mo : markOf c (r ++ 40 :: (sg (txD p) ++ (tl2 ps ++ 41 :: s))) = m := by
          unfold markOf
          rw [t1, ← em, ofC_sg]
        have hh : ∀ y ∈ p :: ps, hg y ≤ d := hgs_le.mp (by simp only [hg] at hd; omega)
        have row := row_of (one := pOne d) (r := s) (x := p) (xs := ps) (by simp at hl; omega) fun y hy s hs => by
          obtain ⟨k2, _, ht⟩ := hps.mem hy
          exact ih k2 y (hh y hy) ht s hs
        simp only [pOne, oneP, nd, gc, if_true, Bool.false_eq_true, if_false, t2, mo, List.take_succ_cons, List.take_zero, List.drop_succ_cons, List.drop_zero, row]
        rfl
/-- what is read is the text of what comes out -/
theorem more_text {one : List Nat → Rd} (h : ∀ s T r, one s = some (T, r) → s = sg (txD T) ++ r) : ∀ (k : Nat) (s : List Nat) (Ts : List D) (r : List Nat), pMore one k s = some (Ts, r) → s = tl2 Ts ++ 41 :: r := by
  intro k
  induction k with
  | zero => intro s Ts r e; cases e
  | succ k ih =>
    intro s Ts r e
    unfold pMore at e
    by_cases c : s.take 2 = [44, 32]
    · rw [if_pos c] at e
      obtain ⟨⟨T, r1⟩, e1, e2⟩ := Option.bind_eq_some_iff.mp e
      obtain ⟨⟨Ts', r2⟩, e3, e4⟩ := Option.map_eq_some_iff.mp e2
      cases e4
      have h1 := h _ _ _ e1
      have h2 := ih _ _ _ e3
      rw [← List.take_append_drop 2 s, c, h1]
      show [44, 32] ++ (sg (txD T) ++ r1) = _
      rw [show r1 = tl2 Ts' ++ 41 :: r2 from h2, tl2]
      simp
    · rw [if_neg c] at e
      split at e
      · rename_i c1
        cases e
        rw [tl2, ← List.take_append_drop 1 s, c1]
        simp
      · cases e
theorem row_text_of {one : List Nat → Rd} (h : ∀ s T r, one s = some (T, r) → s = sg (txD T) ++ r) {s : List Nat} {Ts : List D} {r : List Nat} (e : pRow one s = some (Ts, r)) : ∃ T Ts' r1, Ts = T :: Ts' ∧ one s = some (T, r1) ∧ s = sg (txD T) ++ (tl2 Ts' ++ 41 :: r) := by
  unfold pRow at e
  obtain ⟨⟨T, r1⟩, e1, e2⟩ := Option.bind_eq_some_iff.mp e
  obtain ⟨⟨Ts', r2⟩, e3, e4⟩ := Option.map_eq_some_iff.mp e2
  cases e4
  refine ⟨T, Ts', r1, rfl, e1, ?_⟩
  have h2 := more_text h _ _ _ _ e3
  rw [h _ _ _ e1]
  exact congrArg _ h2
theorem text_parse : ∀ (d : Nat) (s : List Nat) (T : D) (r : List Nat), pOne d s = some (T, r) → s = sg (txD T) ++ r := by
  intro d
  induction d with
  | zero => intro s T r e; cases e
  | succ d ih =>
    intro s T r e
    cases s with
    | nil => cases e
    | cons c s =>
      simp only [pOne, oneP] at e
      cases hc : isDig c with
      | true =>
        rw [hc] at e
        simp only [if_true] at e
        split at e
        · rename_i ok
          cases e
          have ne : (c :: s).takeWhile isDig ≠ [] := by rw [List.takeWhile_cons_of_pos hc]; exact List.cons_ne_nil _ _
          have al : ((c :: s).takeWhile isDig).all isDig = true := List.all_eq_true.mpr fun x hx => tw_mem hx
          rw [txD, text_val al ne ok, List.takeWhile_append_dropWhile]
        · cases e
      | false =>
        rw [hc] at e
        simp only [Bool.false_eq_true, if_false] at e
        cases hg1 : isGr c with
        | false => rw [hg1] at e; simp at e
        | true =>
          rw [hg1] at e
          simp only [if_true] at e
          have mo : sg (markOf c s) = c :: s.takeWhile isSm := by unfold markOf; rw [sg_ofC]
          split at e
          · rename_i c40
            obtain ⟨⟨Ts, r2⟩, e1, e2⟩ := Option.map_eq_some_iff.mp e
            cases e2
            obtain ⟨T, Ts', r1, e3, _, e4⟩ := row_text_of ih e1
            have e3 : Ts = T :: Ts' := e3
            subst e3
            rw [txD, sg_app, sg_app, sg_app, open_sg, close_sg, sg_join, mo]
            have e5 : s.dropWhile isSm = 40 :: (sg (txD T) ++ (tl2 Ts' ++ 41 :: r2)) := by
              rw [← List.take_append_drop 1 (s.dropWhile isSm), c40, e4]
              rfl
            have e6 := List.takeWhile_append_dropWhile (p := isSm) (l := s)
            rw [e5] at e6
            simp only [List.cons_append, List.append_assoc, List.nil_append]
            rw [e6]
          · cases e
            rw [txD, mo]
            simp [List.takeWhile_append_dropWhile]
/-- a deeper reader reads the same -/
theorem pone_up : ∀ (d : Nat) (s : List Nat) (T : D) (r : List Nat), pOne d s = some (T, r) → pOne (d + 1) s = some (T, r) := by
  intro d
  induction d with
  | zero => intro s T r e; cases e
  | succ d ih =>
    intro s T r e
    cases s with
    | nil => cases e
    | cons c s =>
      rw [pOne] at e ⊢
      simp only [oneP] at e ⊢
      split
      · rename_i hc; rw [if_pos hc] at e; exact e
      · rename_i hc
        rw [if_neg hc] at e
        split
        · rename_i hg1
          rw [if_pos hg1] at e
          split
          · rename_i c40
            rw [if_pos c40] at e
            obtain ⟨⟨Ts, r2⟩, e1, e2⟩ := Option.map_eq_some_iff.mp e
            rw [row_map (C := fun _ => True) (fun s T r e _ => ih s T r e) e1 fun _ _ => trivial]
            exact congrArg some e2
          · rename_i c40; rw [if_neg c40] at e; exact e
        · rename_i hg1; rw [if_neg hg1] at e; cases e
theorem pone_mono {d e : Nat} {s : List Nat} {T : D} {r : List Nat} (h : pOne d s = some (T, r)) (hl : d ≤ e) : pOne e s = some (T, r) := by
  induction hl with
  | refl => exact h
  | step _ ih => exact pone_up _ _ _ _ ih
mutual
theorem Th.ptsk : ∀ {n : Nat} {x : D}, Th n x → pts x = n
  | _, _, .num h0 h1 => by simp [pts, h0, h1]
  | _, _, .mk (n := n) hm hl hs => by
    have h := Ths.ptsk hs
    have hmk : isMarkD (.str _) = true := hm.2
    simp only [pts, hmk, decide_eq_true hl, Bool.and_self, if_true, h]
    omega
theorem Ths.ptsk : ∀ {n : Nat} {xs : List D}, Ths n xs → ptss xs = n
  | _, _, .nil => by simp [ptss]
  | _, _, .cons h hs => by
    have := Th.ptsk h
    have := Ths.ptsk hs
    simp only [ptss]
    omega
end
theorem read_back {k : Nat} {x : D} (h : Th k x) (hk : k ≤ 60) : readD (txD x) = some x := by
  rw [read_iff]
  have := parse_text 60 k x (Nat.le_trans h.hgt hk) h [] trivial
  rw [List.append_nil] at this
  exact ⟨this, by rw [h.ptsk]; omega⟩
/-- .. whatever the reader's depth -/
theorem parse_only {k d : Nat} {x T : D} {s r : List Nat} (h : Th k x) (hs : Stop s) (e : pOne d (sg (txD x) ++ s) = some (T, r)) : T = x ∧ r = s := by
  have h1 := parse_text (max d k) k x (Nat.le_trans h.hgt (Nat.le_max_right _ _)) h s hs
  rw [pone_mono e (Nat.le_max_left _ _)] at h1
  cases h1
  exact ⟨rfl, rfl⟩
theorem read_great {k : Nat} {x : D} (h : Th k x) (hk : 61 ≤ k) : readD (txD x) = none := by
  cases e : readD (txD x) with
  | none => rfl
  | some T =>
    have e := read_iff.mp e
    have e1 := e.1
    rw [← List.append_nil (sg (txD x))] at e1
    obtain ⟨rfl, _⟩ := parse_only (s := []) h trivial e1
    have := h.ptsk
    omega
/-! ### what is read is a thing -/
theorem ths_of : ∀ {xs : List D}, (∀ x ∈ xs, Th (cn x) x) → Ths (cns xs) xs
  | [], _ => .nil
  | x :: xs, h => .cons (h x List.mem_cons_self) (ths_of fun y hy => h y (List.mem_cons_of_mem _ hy))
theorem th_of : ∀ (n : Nat) (T : D), hg T ≤ n → wfB T = true → okB T = true → Th (cn T) T := by
  intro n
  induction n with
  | zero =>
    intro T h
    exfalso
    unfold hg at h
    split at h <;> omega
  | succ n ih =>
    intro T h w k
    unfold wfB at w
    split at w
    · simp only [okB, decide_eq_true_eq] at k
      exact .num k.1 k.2
    · rename_i m ps
      rw [Bool.and_eq_true, wfBs_all, List.all_eq_true] at w
      simp only [okB, Bool.and_eq_true, decide_eq_true_eq, okBs_all, List.all_eq_true] at k
      have hs : ∀ x ∈ ps, hg x ≤ n := hgs_le.mp (by simp only [hg] at h; omega)
      have hw : isWord zGreat zSmall m = true := by
        have := markD_of w.1
        rw [decide_eq_true k.1.1] at this
        exact this
      have so : SOk 6 m := by
        refine ⟨strOkI.mpr fun x hx => ?_, k.1.1⟩
        obtain ⟨c, r, em, gc, sr⟩ := word_parts hw
        have hx : x ∈ sg m := hx
        rw [em] at hx
        rcases List.mem_cons.mp hx with rfl | hx
        · have := List.all_eq_true.mp great_128 x (of_decide_eq_true gc)
          simp at this; omega
        · have := List.all_eq_true.mp small_128 x (of_decide_eq_true (List.all_eq_true.mp sr x hx))
          simp at this; omega
      rw [show cn (.tup [.str m, .tup ps]) = cns ps + 1 by simp only [cn]; omega]
      exact .mk ⟨so, hw⟩ k.1.2 (ths_of fun x hx => ih x (hs x hx) (w.2 x hx) (k.2 x hx))
    · cases w
theorem th_read {d : Nat} {s r : List Nat} {T : D} (h : pOne d s = some (T, r)) (hp : pts T < 61) : ∃ k, 1 ≤ k ∧ k ≤ 60 ∧ Th k T := by
  have w := read_wf val_ok _ _ _ _ h
  have q := pts_cn (hg T) T (Nat.le_refl _) w
  have ok : okB T = true := by
    cases e : okB T with
    | true => rfl
    | false => have := q.2 e; omega
  have e := q.1 ok
  exact ⟨cn T, by have := pts_pos T; omega, by omega, th_of (hg T) T (Nat.le_refl _) w ok⟩
theorem read_th {z : Str} {T : D} (h : readD z = some T) : ∃ k, 1 ≤ k ∧ k ≤ 60 ∧ Th k T ∧ txD T = z := by
  have h := read_iff.mp h
  obtain ⟨k, k1, k2, k3⟩ := th_read h.1 h.2
  refine ⟨k, k1, k2, k3, ?_⟩
  have e := text_parse _ _ _ _ h.1
  rw [List.append_nil] at e
  exact str_ext e.symm
theorem text_shown {m : Str} {n : Nat} (h : SOk n m) : (reprText m).length ≤ 10 * n + 2 := by
  have := StrLaws.reprText_len m (fun c hc => Nat.lt_of_lt_of_le (strOkI.mp h.1 c hc) (by decide))
  have := h.2
  omega
mutual
theorem Th.shown : ∀ {n : Nat} {x : D}, Th n x → (toPy x).shown.length + 2 ≤ 200 * n ∧ (toPy x).showable = true
  | _, _, .num h0 h1 => by
    have q := num_len h0 h1
    simp only [toPy, PyData.shown, PyData.showable, decide_eq_true_eq]
    exact ⟨by have := q.1; omega, q.2⟩
  | _, _, .mk (m := m) (n := n) (ps := ps) hm hl hs => by
    have q := Ths.shown hs
    have h1 := text_shown hm.1
    have h2 := fmt_text (PyData.shownAll (toPys ps))
    have h3 := fmt_text [reprText m, tupleText (PyData.shownAll (toPys ps))]
    rw [piled_cons, piled_cons, piled_nil] at h3
    simp only [toPy, toPys, PyData.shown, PyData.shownAll, PyData.showable, PyData.showableAll, q.2, Bool.and_self, and_true]
    omega
theorem Ths.shown : ∀ {n : Nat} {xs : List D}, Ths n xs → piled (PyData.shownAll (toPys xs)) ≤ 200 * n ∧ PyData.showableAll (toPys xs) = true
  | _, _, .nil => by simp [toPys, PyData.shownAll, PyData.showableAll, piled_nil]
  | _, _, .cons h hs => by
    have h1 := Th.shown h
    have h2 := Ths.shown hs
    simp only [toPys, PyData.shownAll, PyData.showableAll, piled_cons, h1.2, h2.2, Bool.and_self, and_true]
    omega
end
theorem repr_th {k : Nat} {xs : List D} (h : Th k (.tup xs)) (hk : k ≤ 60) : oRepr [.tup xs] = some (.str (shD xs)) := by
  have q := h.shown
  have l := h.pl.lay
  refine if_pos ?_
  simp only [reprOk, Bool.and_eq_true, decide_eq_true_eq]
  exact ⟨⟨⟨l.1, by have := l.2; omega⟩, q.2⟩, Nat.le_trans (show (shD xs).length ≤ 100000 by have := q.1; show (PyData.shown _).length ≤ _; omega) (by decide)⟩
theorem self_eq {n : Nat} {x : D} (h : Pl n x) (hn : n ≤ 150) : oEq x x = some (.bl true) := by
  rw [oEq_ok (h.ok hn) (h.ok hn), eqD_self h]
/-! ### the two readings of calls are one -/
theorem name_is {z : Str} : isNameD (nmC z) = (decide (0 < (waC z).length ∧ (waC z).length < 7) && !inSome (ofC (waC z))) := by
  have al : (waC z).all isSm = true := List.all_eq_true.mpr fun c hc => tw_mem hc
  have e0 : isNameD (nmC z) = (isWord zSmall zSmall (ofC (waC z)) && !inSome (ofC (waC z))) := rfl
  rw [e0]
  congr 1
  generalize waC z = w at al ⊢
  have e1 : isWord zSmall zSmall (ofC w) = (decide (0 < (ofC w).length ∧ (ofC w).length < 7) && (match (ofC w).cps.toList with | [] => false | c :: cs => decide (c ∈ zSmall.cps.toList) && allIn zSmall cs)) := rfl
  rw [e1, len_ofC]
  have e2 : (ofC w).cps.toList = w := by simp [ofC]
  rw [e2]
  cases w with
  | nil => rfl
  | cons c w =>
    rw [List.all_cons] at al
    have al : (decide (c ∈ zSmall.cps.toList) && allIn zSmall w) = true := al
    show (_ && (decide (c ∈ zSmall.cps.toList) && allIn zSmall w)) = _
    rw [al, Bool.and_true]
theorem row_same {t : List Nat} {Ts : List D} : (pRow (pOne 60) t = some (Ts, []) ∧ Ts.length ≤ 4 ∧ (∀ T ∈ Ts, pts T < 61)) ↔ (lRow (lOne 60) t = some (Ts, []) ∧ Ts.filter great60 = []) := by
  constructor
  · rintro ⟨h1, h2, h3⟩
    have a := row_all (lo := pOne 60) (C := fun T => ∃ s r, pOne 60 s = some (T, r)) (fun s T r e => ⟨s, r, e⟩) h1
    have b : ∀ T ∈ Ts, okB T = true ∧ cn T ≤ 60 := fun T hT => by
      obtain ⟨s, r, e⟩ := a T hT
      have w := read_wf val_ok _ _ _ _ e
      have q := pts_cn (hg T) T (Nat.le_refl _) w
      have p := h3 T hT
      cases ok : okB T with
      | true => exact ⟨rfl, by have := q.1 ok; omega⟩
      | false => have := q.2 ok; omega
    have c := row_map (C := fun T => okB T = true) (lo := pOne 60) (po := lOne 60) (fun s T r e h => readB _ _ _ _ e h) h1 fun T hT => (b T hT).1
    refine ⟨?_, List.filter_eq_nil_iff.mpr fun T hT => by have := (b T hT).2; simp [great60]; omega⟩
    unfold lRow
    rw [c]
    exact if_pos (by show Ts.length < 5; omega)
  · rintro ⟨h1, h2⟩
    obtain ⟨q1, q2, q3⟩ := lrow_parts h1
    have c60 : ∀ T ∈ Ts, cn T ≤ 60 := fun T hT => by
      have := List.filter_eq_nil_iff.mp h2 T hT
      simp [great60] at this
      omega
    have c := row_map (C := fun T => hg T ≤ 60) (lo := lOne 60) (po := pOne 60) (fun s T r e h => (readA val_ok _ _ _ _ e).2 h) q1 fun T hT => by
      have := hg_cn (hg T) T (Nat.le_refl _)
      have := c60 T hT
      omega
    refine ⟨c, by omega, fun T hT => ?_⟩
    have a := row_all (lo := pOne 60) (C := fun T => ∃ s r, pOne 60 s = some (T, r)) (fun s T r e => ⟨s, r, e⟩) c T hT
    obtain ⟨s, r, e⟩ := a
    have w := read_wf val_ok _ _ _ _ e
    have q := pts_cn (hg T) T (Nat.le_refl _) w
    have := q.1 (q3 T hT).2
    have := c60 T hT
    omega
theorem lone_shut (u : List Nat) : lRow (lOne 60) (41 :: u) = none := by
  have h1 : isDig 41 = false := by decide +kernel
  have h2 : isGr 41 = false := by decide +kernel
  simp [lRow, pRow, lOne, oneL, h1, h2]
theorem call_iff {n : D} {Ts : List D} (hn : isNameD n = true) : isCallD (.tup [n, .tup Ts]) = true ↔ Ts.length ≤ 4 ∧ ∀ T ∈ Ts, pts T < 61 := by
  simp [isCallD, hn]
theorem call_name {n : D} {Ts : List D} (hn : isNameD n = false) : isCallD (.tup [n, .tup Ts]) = false := by
  simp [isCallD, hn]
theorem match_iff {N : D} {o : Option (List D × List Nat)} {P : List D → Prop} [∀ x, Decidable (P x)] {C : D} : (match o with | some (Ts, []) => if P Ts then some (D.tup [N, .tup Ts]) else none | _ => none) = some C ↔ ∃ Ts, (o = some (Ts, []) ∧ P Ts) ∧ C = .tup [N, .tup Ts] := by
  constructor
  · intro h
    split at h
    · rename_i Ts
      by_cases hp : P Ts
      · rw [if_pos hp] at h; cases h; exact ⟨Ts, ⟨rfl, hp⟩, rfl⟩
      · rw [if_neg hp] at h; cases h
    · cases h
  · rintro ⟨Ts, ⟨rfl, hp⟩, rfl⟩
    exact if_pos hp
theorem same_call (z : Str) : callZ z = lawC z := by
  cases hn : isNameD (nmC z) with
  | false =>
    have l : callZ z = none := by
      unfold callZ
      split
      · rw [call_name hn, if_neg (by simp)]
      · rfl
    rw [l, lawC_eq]
    rw [name_is, Bool.and_eq_false_iff] at hn
    rcases hn with hn | hn
    · rw [decide_eq_false_iff_not] at hn
      rw [if_pos fun h => hn h.1]
    · rw [Bool.not_eq_false'] at hn
      by_cases b : ¬ ((0 < (waC z).length ∧ (waC z).length < 7) ∧ (afC z).take 1 = [40])
      · rw [if_pos b]
      · rw [if_neg b, if_pos hn]
  | true =>
    have ci := fun Ts : List D => call_iff (Ts := Ts) hn
    rw [lawC_eq]
    rw [name_is, Bool.and_eq_true, decide_eq_true_eq, Bool.not_eq_true'] at hn
    by_cases c : (afC z).take 1 = [40]
    · rw [if_neg fun h => h ⟨hn.1, c⟩, if_neg (by simp [hn.2])]
      unfold callZ resC
      rw [if_pos c]
      obtain ⟨t, ht⟩ : ∃ t, afC z = 40 :: t := by
        cases e : afC z with
        | nil => rw [e] at c; cases c
        | cons a t => rw [e] at c; simp at c; exact ⟨t, by rw [c]⟩
      rw [ht]
      simp only [List.drop_succ_cons, List.drop_zero]
      generalize nmC z = N at ci ⊢
      by_cases c1 : t.take 1 = [41]
      · rw [if_pos c1]
        obtain ⟨u, hu⟩ : ∃ u, t = 41 :: u := by
          cases e : t with
          | nil => rw [e] at c1; cases c1
          | cons a t => rw [e] at c1; simp at c1; exact ⟨t, by rw [c1]⟩
        subst hu
        simp only [List.drop_succ_cons, List.drop_zero]
        have i0 : isCallD (.tup [N, .tup []]) = true := (ci []).mpr ⟨by simp, by simp⟩
        cases u with
        | nil => simp [i0]
        | cons a u => simp [lone_shut]
      · have n1 : ¬ (40 :: t : List Nat) = [40, 41] := fun h => by
          cases h
          exact c1 rfl
        rw [if_neg c1, if_neg n1]
        have key : ∀ Ts, (pRow (pOne 60) t = some (Ts, []) ∧ isCallD (.tup [N, .tup Ts]) = true) ↔ (lRow (lOne 60) t = some (Ts, []) ∧ Ts.filter great60 = []) := fun Ts => by
          rw [ci Ts]
          exact row_same
        refine Option.ext fun C => ?_
        refine (match_iff (P := fun Ts => isCallD (.tup [N, .tup Ts]) = true)).trans (Iff.trans ?_ (match_iff (P := fun Ts => Ts.filter great60 = [])).symm)
        exact exists_congr fun Ts => and_congr_left fun _ => key Ts
    · have l : callZ z = none := by
        unfold callZ resC
        rw [if_neg c]
      rw [l, if_pos fun h => c h.2]
/-! ### read right or refused -/
theorem sub_no : subX [PySem.Str.ofString "NoText"] [PySem.Str.ofString "NoText"] (PySem.Str.ofString "NoText") = some true := by decide +kernel
theorem sub_none : subX [PySem.Str.ofString "NoText"] [] (PySem.Str.ofString "NoText") = some false := by decide +kernel
theorem refused_ok (cs : Cs) {x : D} (h : m_read_call cs [.d x] = .ex XN [.d x]) : m__law_refused cs [.d x] = .ok (.d (.bl true)) [.d x] := by
  simp [m__law_refused, b__law_refused, h, sub_no, sub_none]
theorem call_th {z : Str} {C : D} (h : callZ z = some C) : ∃ Ts : List D, C = .tup [nmC z, .tup Ts] ∧ isNameD (nmC z) = true ∧ Ts.length ≤ 4 ∧ ∀ T ∈ Ts, ∃ k, 1 ≤ k ∧ k ≤ 60 ∧ Th k T := by
  unfold callZ at h
  split at h
  · rename_i Ts e
    by_cases hc : isCallD (.tup [nmC z, .tup Ts]) = true
    · rw [if_pos hc] at h
      cases h
      have hn : isNameD (nmC z) = true := by
        cases hn : isNameD (nmC z) with
        | true => rfl
        | false => rw [call_name hn] at hc; cases hc
      obtain ⟨c1, c2⟩ := (call_iff hn).mp hc
      refine ⟨Ts, rfl, hn, c1, fun T hT => ?_⟩
      unfold resC at e
      by_cases d1 : (afC z).take 1 = [40]
      · rw [if_pos d1] at e
        by_cases d2 : ((afC z).drop 1).take 1 = [41]
        · rw [if_pos d2] at e
          obtain ⟨h1, _⟩ := Prod.mk.inj (Option.some.inj e)
          rw [← h1] at hT
          cases hT
        · rw [if_neg d2] at e
          obtain ⟨s, r, e2⟩ := row_all (lo := pOne 60) (C := fun T => ∃ s r, pOne 60 s = some (T, r)) (fun s T r e => ⟨s, r, e⟩) e T hT
          exact th_read e2 (c2 T hT)
      · rw [if_neg d1] at e
        cases e
    · rw [if_neg hc] at h
      cases h
  · cases h
theorem name_sok {z : Str} (h : isNameD (nmC z) = true) : ∃ w : Str, nmC z = .str w ∧ SOk 6 w := by
  rw [name_is, Bool.and_eq_true, decide_eq_true_eq] at h
  exact ⟨_, rfl, (small_sok (w := waC z) (fun c hc => tw_mem hc) (by have := h.1.2; omega)).1, by rw [len_ofC]; have h2 : (List.takeWhile isSm (sg z)).length < 7 := h.1.2; omega⟩
theorem callp_pl {w : Str} (hw : SOk 6 w) {Ts : List D} (hl : Ts.length ≤ 4) (ht : ∀ T ∈ Ts, ∃ k, 1 ≤ k ∧ k ≤ 60 ∧ Th k T) : Pl 130 (.tup [.str w, .tup Ts]) := by
  have ht : ∀ T ∈ Ts, Pl 128 T := fun T hT => by
    obtain ⟨k, _, k2, k3⟩ := ht T hT
    exact k3.pl.mono (by omega)
  rw [show (130 : Nat) = 128 + 1 + 1 by omega]
  simp only [Pl]
  refine ⟨by simp, fun y hy => ?_⟩
  simp only [List.mem_cons, List.not_mem_nil, or_false] at hy
  rcases hy with rfl | rfl
  · simp only [Pl]; exact hw.mono (by omega)
  · simp only [Pl]; exact ⟨by omega, ht⟩
theorem ths_of4 : ∀ {Ts : List D}, (∀ T ∈ Ts, ∃ k, 1 ≤ k ∧ k ≤ 60 ∧ Th k T) → ∃ n, n ≤ 60 * Ts.length ∧ Ths n Ts
  | [], _ => ⟨0, by simp, .nil⟩
  | T :: Ts, h => by
    obtain ⟨n, hn, hs⟩ := ths_of4 fun U hU => h U (List.mem_cons_of_mem _ hU)
    obtain ⟨k, _, k2, k3⟩ := h T List.mem_cons_self
    exact ⟨k + n, by rw [List.length_cons]; omega, .cons k3 hs⟩
theorem repr_call {w : Str} (hw : SOk 6 w) {Ts : List D} (hl : Ts.length ≤ 4) (ht : ∀ T ∈ Ts, ∃ k, 1 ≤ k ∧ k ≤ 60 ∧ Th k T) : oRepr [.tup [.str w, .tup Ts]] = some (.str (shD [.str w, .tup Ts])) := by
  have l := (callp_pl hw hl ht).lay
  obtain ⟨n, hn, hs⟩ := ths_of4 ht
  have q := Ths.shown hs
  have h1 := text_shown hw
  have h2 := fmt_text (PyData.shownAll (toPys Ts))
  have h3 := fmt_text [reprText w, tupleText (PyData.shownAll (toPys Ts))]
  rw [piled_cons, piled_cons, piled_nil] at h3
  have sh : (toPy (.tup [.str w, .tup Ts])).shown.length ≤ 100000 ∧ (toPy (.tup [.str w, .tup Ts])).showable = true := by
    simp only [toPy, toPys, PyData.shown, PyData.shownAll, PyData.showable, PyData.showableAll, q.2, Bool.and_self, and_true]
    omega
  refine if_pos ?_
  simp only [reprOk, Bool.and_eq_true, decide_eq_true_eq]
  exact ⟨⟨⟨l.1, by have := l.2; omega⟩, sh.2⟩, Nat.le_trans (show (shD [.str w, .tup Ts]).length ≤ 100000 from sh.1) (by decide)⟩
def rR0 : G Fl := (gAsg 1 (gToD (gCall m__law_call_of (gcCons (gcD (gVar 0)) gcNil))))
def rR1 (cs : Cs) : G Fl := (gIf (gTest (g2 oIsN (gVar 1) (gC .non))) (gRetD (gToD (gCall (m__law_refused cs) (gcCons (gcD (gVar 0)) gcNil)))) gPass)
def rR2 (cs : Cs) : G Fl := (gAsg 2 (gToD (gCall (m_read_call cs) (gcCons (gcD (gVar 0)) gcNil))))
def rR3 : G Fl := (gRetD (gAndV (gIsi "tuple" (gVar 2)) (gAndV (g2 oEq (gVar 2) (gVar 1)) (g2 oEq (gCal oRepr (gConsA (gVar 2) gNilA)) (gCal oRepr (gConsA (gVar 1) gNilA))))))
theorem rR_is (cs : Cs) : b__law_read_right cs = gSeq rR0 (gSeq (rR1 cs) (gSeq (rR2 cs) rR3)) := rfl
theorem right_none (cs : Cs) {z : Str} (hz : z.length ≤ 2900) (h : callZ z = none) : m__law_refused cs [.d (.str z)] = .ok (.d (.bl true)) [.d (.str z)] := by
  have r := read_call_is cs hz
  rw [h] at r
  exact refused_ok cs r
theorem read_right_ok (cs : Cs) {z : Str} (hz : z.length ≤ 2900) : m__law_read_right cs [.d (.str z)] = .ok (.d (.bl true)) [.d (.str z)] := by
  have c := call_of_ok hz
  rw [← same_call] at c
  have r := read_call_is cs hz
  unfold m__law_read_right gBody
  rw [rR_is]
  show fin [false] [.d (.str z)] ((gSeq rR0 _) [some (.d (.str z)), none, none]) = _
  cases h : callZ z with
  | none =>
    have rf := right_none cs hz h
    rw [h] at c
    have c : m__law_call_of [.d (.str z)] = .ok (.d .non) [.d (.str z)] := c
    have k0 : rR0 [some (.d (.str z)), none, none] = .ok .nx [some (.d (.str z)), some (.d .non), none] := by simp [rR0, c]
    have k1 : rR1 cs [some (.d (.str z)), some (.d .non), none] = .ok (.rt (.d (.bl true))) [some (.d (.str z)), some (.d .non), none] := by simp [rR1, rf]
    rw [seq_nx k0, seq_rt k1]
    simp
  | some C =>
    rw [h] at c r
    obtain ⟨Ts, hC, hn, hl, ht⟩ := call_th h
    obtain ⟨w, hw, hs⟩ := name_sok hn
    rw [hw] at hC
    subst hC
    have se := self_eq (callp_pl hs hl ht) (by omega)
    have re := repr_call hs hl ht
    have c : m__law_call_of [.d (.str z)] = .ok (.d (.tup [.str w, .tup Ts])) [.d (.str z)] := c
    have r : m_read_call cs [.d (.str z)] = .ok (.d (.tup [.str w, .tup Ts])) [.d (.str z)] := r
    generalize shD [.str w, .tup Ts] = Z at re
    have k0 : rR0 [some (.d (.str z)), none, none] = .ok .nx [some (.d (.str z)), some (.d (.tup [.str w, .tup Ts])), none] := by simp [rR0, c]
    have k1 : rR1 cs [some (.d (.str z)), some (.d (.tup [.str w, .tup Ts])), none] = .ok .nx [some (.d (.str z)), some (.d (.tup [.str w, .tup Ts])), none] := by simp [rR1]
    have k2 : rR2 cs [some (.d (.str z)), some (.d (.tup [.str w, .tup Ts])), none] = .ok .nx [some (.d (.str z)), some (.d (.tup [.str w, .tup Ts])), some (.d (.tup [.str w, .tup Ts]))] := by simp [rR2, r]
    have k3 : rR3 [some (.d (.str z)), some (.d (.tup [.str w, .tup Ts])), some (.d (.tup [.str w, .tup Ts]))] = .ok (.rt (.d (.bl true))) [some (.d (.str z)), some (.d (.tup [.str w, .tup Ts])), some (.d (.tup [.str w, .tup Ts]))] := by
      generalize hY : D.tup [.str w, .tup Ts] = Y at se re ⊢
      have i1 : (tyName Y == "tuple") = true := by subst hY; rfl
      simp [rR3, se, re, i1]
    rw [seq_nx k0, seq_nx k1, seq_nx k2, k3]
    simp
/-! ### a text changed by a sign -/
theorem cut_upto (z : Str) {i : Nat} {h : Int} (e : h = (i : Int)) : (cutS z none (some h)).length ≤ i ∧ (cutS z none (some h)).length ≤ z.length := by
  subst e
  rw [str_len, cutS_take, List.length_take, str_len]
  omega
theorem cut_from (z : Str) {i : Nat} {h : Int} (e : h = (i : Int)) : (cutS z (some h) none).length = z.length - i := by
  subst e
  rw [str_len, cutS_drop, List.length_drop, str_len]
theorem rev_len : ∀ {z : Str}, z.length ≤ 2 → (revS z).length ≤ z.length := by
  intro z h
  have k : (revS z).length ≤ (PySem.Builtin.Str.strSliceIndices none none (-1) z.length).length := by
    unfold revS
    show (List.filterMap _ _).toArray.size ≤ _
    rw [List.size_toArray]
    exact List.length_filterMap_le ..
  refine Nat.le_trans k ?_
  generalize z.length = n at h
  match n, h with
  | 0, _ => decide +kernel
  | 1, _ => decide +kernel
  | 2, _ => decide +kernel
abbrev zSigns : Str := PySem.Str.ofString "(), 0123456789(),abcxyzABCXYZ_-.()=\n"
theorem add_len {a b : Str} (h : a.length + b.length ≤ 2000) : oAdd (.str a) (.str b) = some (.str (a ++ b)) := by
  rw [oAdd_str, if_pos (Nat.le_trans (show _ ≤ 100000 by omega) (by decide))]
theorem spoilt_ok {k : Nat} {ds : List D} {z : Str} (h : Dr k ds) (hk : k + 10 ≤ 10000000) (hz : z.length ≤ 850) :
    ∃ s ds', m__law_spoilt [.lst ds, .d (.str z)] = .ok (.d (.str s)) [.lst ds', .d (.str z)] ∧ s.length ≤ z.length + 1 ∧ Dr (k + 10) ds' := by
  obtain ⟨r1, d1, e1, a1, b1, h1⟩ := next_ok (n := 5) h (by omega) (by omega) (by omega)
  obtain ⟨r2, d2, e2, a2, b2, h2⟩ := next_ok (n := (z.length : Int) + 1) h1 (by omega) (by omega) (by omega)
  obtain ⟨c, d3, e3, a3, h3⟩ := pickS_ok (z := zSigns) h2 (by decide +kernel) (by decide +kernel) (by omega)
  obtain ⟨i, hi⟩ := Int.eq_ofNat_of_zero_le a2
  have hi2 : i ≤ z.length := by omega
  have szz := sz_ok (by omega : z.length ≤ 10000)
  have ln : oLen [.str z] = some (.int (z.length : Int)) := by rw [oLen_str, if_pos szz]
  have c1 := cut_upto z hi
  have c2 := cut_from z hi
  have c3 := cut_from z (i := i + 1) (h := r2 + 1) (by omega)
  have c4 := cut_from z (i := i + 2) (h := r2 + 2) (by omega)
  have c5 := cut_at z hi2 2 hi (show r2 + 2 = ((i + 2 : Nat) : Int) by omega)
  have c6 : (cutS z (some r2) (some (r2 + 2))).length ≤ 2 ∧ (cutS z (some r2) (some (r2 + 2))).length ≤ z.length - i := by
    rw [c5, len_ofC, List.length_take, List.length_drop, sg_len]
    omega
  have c7 := rev_len c6.1
  have c8 : (revS (cutS z (some r2) (some (r2 + 2)))).length ≤ sizeLine := Nat.le_trans c7 (Nat.le_trans c6.1 (by decide))
  have one : (⟨#[c]⟩ : Str).length = 1 := rfl
  generalize (z.length : Int) = L at ln e2
  generalize hM : cutS z (some r2) (some (r2 + 2)) = M at c6 c7 c8
  clear c5
  by_cases w2 : r1 < 2
  · have g1 := add_len (a := cutS z none (some r2)) (b := ⟨#[c]⟩) (by omega)
    have g2' := add_len (a := cutS z none (some r2) ++ ⟨#[c]⟩) (b := cutS z (some r2) none) (by rw [app_len]; omega)
    refine ⟨cutS z none (some r2) ++ ⟨#[c]⟩ ++ cutS z (some r2) none, d3, ?_, by rw [app_len, app_len]; omega, h3.mono (by omega)⟩
    generalize cutS z none (some r2) ++ ⟨#[c]⟩ = A at g1 g2' ⊢
    simp [m__law_spoilt, b__law_spoilt, e1, e2, e3, ln, w2, szz, g1, g2', -oAdd_str, -oLen_str]
  · by_cases w3 : r1 = 2
    · have g1 := add_len (a := cutS z none (some r2)) (b := cutS z (some (r2 + 1)) none) (by omega)
      refine ⟨cutS z none (some r2) ++ cutS z (some (r2 + 1)) none, d3, ?_, by rw [app_len]; omega, h3.mono (by omega)⟩
      simp [m__law_spoilt, b__law_spoilt, e1, e2, e3, ln, w3, szz, g1, -oAdd_str, -oLen_str]
    · by_cases w4 : r1 = 3
      · have g1 := add_len (a := cutS z none (some r2)) (b := ⟨#[c]⟩) (by omega)
        have g2' := add_len (a := cutS z none (some r2) ++ ⟨#[c]⟩) (b := cutS z (some (r2 + 1)) none) (by rw [app_len]; omega)
        refine ⟨cutS z none (some r2) ++ ⟨#[c]⟩ ++ cutS z (some (r2 + 1)) none, d3, ?_, by rw [app_len, app_len]; omega, h3.mono (by omega)⟩
        generalize cutS z none (some r2) ++ ⟨#[c]⟩ = A at g1 g2' ⊢
        simp [m__law_spoilt, b__law_spoilt, e1, e2, e3, ln, w4, szz, g1, g2', -oAdd_str, -oLen_str]
      · have g1 := add_len (a := cutS z none (some r2)) (b := revS M) (by omega)
        have g2' := add_len (a := cutS z none (some r2) ++ revS M) (b := cutS z (some (r2 + 2)) none) (by rw [app_len]; omega)
        refine ⟨cutS z none (some r2) ++ revS M ++ cutS z (some (r2 + 2)) none, d3, ?_, by rw [app_len, app_len]; omega, h3.mono (by omega)⟩
        generalize cutS z none (some r2) ++ revS M = A at g1 g2' ⊢
        simp [m__law_spoilt, b__law_spoilt, e1, e2, e3, ln, w2, w3, w4, szz, hM, c8, g1, g2', -oAdd_str, -oLen_str]
theorem law_text_ok : ∀ (n k : Nat) (x : D), k ≤ n → n ≤ 1000 → Th k x → mm__law_text n [.d x] = .ok (.d (.str (txD x))) [.d x] := by
  intro n
  induction n with
  | zero =>
    intro k x hk hn h
    cases h <;> omega
  | succ n ih =>
    intro k x hk hn h
    have tl := tx_len k k x (Nat.le_refl _) h
    cases h with
    | num h0 h1 =>
      have q := (num_len h0 h1).2
      rw [txD]
      simp [mm__law_text, b__law_text, q]
    | mk hm hl hs =>
      rename_i m n1 ps
      have l6 := hm.1.2
      cases ps with
      | nil =>
        rw [txD]
        simp [mm__law_text, b__law_text]
      | cons p ps =>
        have e1 : lcR (putD 1) gYes (gToD (gCall (mm__law_text n) (gcCons (gcD (gVar 1)) gcNil))) [1] (p :: ps) [] [some (.d (.tup [.str m, .tup (p :: ps)])), none] = .ok ([] ++ ((p :: ps).filter fun _ => true).map fun x => .str (txD x)) [some (.d (.tup [.str m, .tup (p :: ps)])), none] :=
          lcR_pure (fun _ => true) (fun x => .str (txD x)) (p :: ps) [] (by simp at hl ⊢; omega) fun x hx => by
            obtain ⟨k2, hk2, ht⟩ := hs.mem hx
            have q := ih k2 x (by omega) (by omega) ht
            exact ⟨[some (.d (.tup [.str m, .tup (p :: ps)])), some (.d x)], [some (.d (.tup [.str m, .tup (p :: ps)])), some (.d x)], rfl, rfl, fun _ => ⟨[some (.d (.tup [.str m, .tup (p :: ps)])), some (.d x)], by simp [q], rfl⟩, fun z => by cases z⟩
        rw [List.filter_eq_self.mpr fun _ _ => rfl, List.nil_append] at e1
        have e2 := joinD_txs hs (by omega)
        rw [txD] at tl ⊢
        have jl : (Txt.join zComma (txDs (p :: ps))).length ≤ 20000 := by
          rw [app_len, app_len, app_len] at tl
          omega
        generalize Txt.join zComma (txDs (p :: ps)) = J at e2 jl ⊢
        obtain ⟨g1, g2', g3⟩ := glue (m := m) (j := J) (by omega) jl
        generalize ((p :: ps).map fun x => D.str (txD x)) = L at e1 e2
        generalize hA : m ++ zOpen = A at g1 g2' g3 ⊢
        generalize hB : A ++ J = B at g2' g3 ⊢
        simp [mm__law_text, b__law_text, e1, e2, g1, g2', g3, -oAdd_str]
/-! ### a cell of the law -/
def rT0 : G Fl := (gAsgO 2 (gCall m__law_begun (gcCons (gcD (gVar 0)) (gcCons (gcD (gVar 1)) gcNil))))
def rT1 : G Fl := (gAsg 3 (gToD (gCall m__law_next (gcCons (gcS 2) (gcCons (gcD (gC (.int 14))) gcNil)))))
def rT2 : G Fl := (gAsg 4 (gToD (gCall m__law_next (gcCons (gcS 2) (gcCons (gcD (gC (.int 5))) gcNil)))))
def rT3 : G Fl := (gAsg 5 (gC (.str (PySem.Str.ofString "abcdefghijklmnopqrstuvwxyz"))))
def rT4 : G Fl := (gAsg 6 (g2 oAdd (g2 oIx (gVar 5) (gToD (gCall m__law_next (gcCons (gcS 2) (gcCons (gcD (gC (.int 26))) gcNil))))) (gJoin (gC (.str (PySem.Str.ofString ""))) (gOwnS (gLc (gRange1 (gToD (gCall m__law_next (gcCons (gcS 2) (gcCons (gcD (gC (.int 6))) gcNil))))) (putD 11) gYes (gToD (gCall m__law_pick (gcCons (gcS 2) (gcCons (gcD (gVar 5)) gcNil)))) [11])))))
def rT5 : G Fl := (gAsg 7 (gFrz (gLst (gConsA (gC (.str (PySem.Str.ofString "right"))) (gConsA (gC (.str (PySem.Str.ofString "wrong"))) (gConsA (gC (.str (PySem.Str.ofString "open"))) (gConsA (gC (.str (PySem.Str.ofString "unfair"))) (gConsA (gC (.str (PySem.Str.ofString "fault"))) (gConsA (gC (.str (PySem.Str.ofString "over"))) (gConsA (gC (.str (PySem.Str.ofString "ask"))) (gConsA (gC (.str (PySem.Str.ofString "say"))) (gConsA (gC (.str (PySem.Str.ofString "drop"))) (gConsA (gC (.str (PySem.Str.ofString "goal"))) gNilA)))))))))))))
def rT6 : G Fl := (gAsg 6 (gSl oSl (gIxS (gOwnS (gCat (gDat (gVar 7)) (gOwnS (gLst (gConsA (g2 oAdd (gVar 6) (gC (.str (PySem.Str.ofString "q")))) (gConsA (g2 oAdd (gVar 6) (gC (.str (PySem.Str.ofString "q")))) (gConsA (gC (.str (PySem.Str.ofString "fun"))) (gConsA (gC (.str (PySem.Str.ofString "ink"))) gNilA)))))))) (gVar 3)) gNoP (gP (gC (.int 6)))))
def rT7 : G Fl := (gAsg 8 (gTup (gConsA (gVar 6) (gConsA (gTupS (gOwnS (gLc (gRange1 (gVar 4)) (putD 11) gYes (gToD (gCall m__law_of_points (gcCons (gcS 2) (gcCons (gcD (g2 oAdd (gC (.int 1)) (gToD (gCall m__law_next (gcCons (gcS 2) (gcCons (gcD (gC (.int 9))) gcNil)))))) gcNil)))) [11]))) gNilA))))
def rT8 : G Fl := (gAsg 9 (g2 oAdd (g2 oAdd (g2 oAdd (gVar 6) (gC (.str (PySem.Str.ofString "(")))) (gJoin (gC (.str (PySem.Str.ofString ", "))) (gOwnS (gLc (gItems (gDat (g2 oIx (gVar 8) (gC (.int 1))))) (putD 12) gYes (gToD (gCall m__law_text (gcCons (gcD (gVar 12)) gcNil))) [12])))) (gC (.str (PySem.Str.ofString ")")))))
def rT9 (cs : Cs) : G Fl := (gIf (gOr (gAnd (gTest (g2 oNe (gVar 6) (gC (.str (PySem.Str.ofString "fun"))))) (gTest (g2 oNe (gToD (gCall m_call_text (gcCons (gcD (gVar 8)) gcNil))) (gVar 9)))) (gNot (gTruth (gToD (gCall (m__law_read_right cs) (gcCons (gcD (gVar 9)) gcNil)))))) (gRetD (gC (.bl false))) gPass)
def rT10 (cs : Cs) : G Fl := (gFor (gRange1 (gC (.int 3))) (putD 10) (gIf (gNot (gTruth (gToD (gCall (m__law_read_right cs) (gcCons (gcD (gToD (gCall m__law_spoilt (gcCons (gcS 2) (gcCons (gcD (gVar 9)) gcNil))))) gcNil))))) (gRetD (gC (.bl false))) gPass))
def rT11 (cs : Cs) : G Fl := (gRetD (gToD (gCall (m__law_refused cs) (gcCons (gcD (gIxS (gOwnS (gLst (gConsA (gC .non) (gConsA (gC (.int 7)) (gConsA (gVar 8) (gConsA (gFrz (gLst (gConsA (gVar 9) gNilA))) (gConsA (gC (.str (PySem.Str.ofString ""))) (gConsA (gVar 6) (gConsA (g2 oAdd (gVar 9) (gC (.str (PySem.Str.ofString "\n")))) (gConsA (g2 oAdd (gVar 9) (gC (.str (PySem.Str.ofString " ")))) gNilA)))))))))) (gToD (gCall m__law_next (gcCons (gcS 2) (gcCons (gcD (gC (.int 8))) gcNil)))))) gcNil))))
theorem rT_is (cs : Cs) : b__law_right cs = gSeq rT0 (gSeq rT1 (gSeq rT2 (gSeq rT3 (gSeq rT4 (gSeq rT5 (gSeq rT6 (gSeq rT7 (gSeq rT8 (gSeq (rT9 cs) (gSeq (rT10 cs) (rT11 cs))))))))))) := rfl

theorem one_small {c : Nat} (hc : c ∈ zSmall.cps.toList) : SOk 1 ⟨#[c]⟩ := small_ok.sign hc
theorem word_drawn {k : Nat} {ds : List D} (h : Dr k ds) (hk : k + 100 ≤ 10000000) (e0 e1 e3 e4 e7 e8 e9 e10 e12 : Option Ob) :
    ∃ (w : Str) (ds' : List D), rT4 [e0, e1, some (.lst ds), e3, e4, some (.d (.str zSmall)), none, e7, e8, e9, e10, none, e12] = .ok .nx [e0, e1, some (.lst ds'), e3, e4, some (.d (.str zSmall)), some (.d (.str w)), e7, e8, e9, e10, none, e12] ∧ w.length ≤ 6 ∧ 40 ∉ sg w ∧ Dr (k + 7) ds' := by
  obtain ⟨r1, d1, e1', a1, b1, h1⟩ := next_ok (n := 26) h (by omega) (by omega) (by omega)
  obtain ⟨c, hc, ec⟩ := oIx_sign (z := zSmall) (Nat.le_trans small_ok.2 (by omega)) a1 (by rw [zSmall_len]; omega)
  obtain ⟨r2, d2, e2', a2, b2, h2⟩ := next_ok (n := 6) h1 (by omega) (by omega) (by omega)
  obtain ⟨n, rfl⟩ := Int.eq_ofNat_of_zero_le a2
  obtain ⟨ys, d3, q1, q2, q3, q4⟩ := lcR_thread (h := putD 11) (t := gYes) (e := (gToD (gCall m__law_pick (gcCons (gcS 2) (gcCons (gcD (gVar 5)) gcNil))))) (vs := [11]) (fun ds => [e0, e1, some (.lst ds), e3, e4, some (.d (.str zSmall)), none, e7, e8, e9, e10, none, e12]) Dr (fun y => ∃ c, c ∈ zSmall.cps.toList ∧ y = .str ⟨#[c]⟩) 1 10000000 ((List.range n).map fun (i : Nat) => D.int (i : Int)) [] (k + 2) d2 (by simp; omega) h2 (by simp; omega) (by
    intro k s x hx hB hI
    obtain ⟨c', s', e, hc', hd⟩ := pickS_ok (z := zSmall) hI (by rw [zSmall_len]; omega) (by rw [zSmall_len]; omega) (by omega)
    exact ⟨[e0, e1, some (.lst s), e3, e4, some (.d (.str zSmall)), none, e7, e8, e9, e10, some (.d x), e12], .str ⟨#[c']⟩, s', [e0, e1, some (.lst s'), e3, e4, some (.d (.str zSmall)), none, e7, e8, e9, e10, some (.d x), e12], rfl, rfl, by simp [e], rfl, ⟨c', hc', rfl⟩, hd⟩)
  simp only [List.length_map, List.length_range, Nat.one_mul] at q2 q4
  obtain ⟨cs, w1, w2, w3⟩ := joinD_signs (zs := zSmall.cps.toList) (strOkI.mp small_ok.1) q3 (by omega)
  have w0 : PySem.Str.ofString "" = (⟨#[]⟩ : Str) := rfl
  have o1 : SOk 1 ⟨#[c]⟩ := one_small hc
  have o2 : SOk 5 ⟨cs.toArray⟩ := sOk_of (fun d hd => strOkI.mp small_ok.1 d (w3 d hd)) (by omega)
  have o3 := oAdd_strs o1 o2 (by omega)
  have n40 : 40 ∉ sg ((⟨#[c]⟩ : Str) ++ ⟨cs.toArray⟩) := fun h => by
    have no : 40 ∉ zSmall.cps.toList := by decide +kernel
    rw [sg_app] at h
    rcases List.mem_append.mp h with h | h
    · have h : 40 ∈ [c] := h
      simp only [List.mem_cons, List.not_mem_nil, or_false] at h
      rw [← h] at hc
      exact no hc
    · have h : 40 ∈ cs := by simpa [sg] using h
      exact no (w3 _ h)
  refine ⟨(⟨#[c]⟩ : Str) ++ ⟨cs.toArray⟩, d3, ?_, by rw [app_len]; have := o1.2; have := o2.2; omega, n40, q4.mono (by omega)⟩
  simp at q1
  generalize (⟨#[c]⟩ : Str) ++ ⟨cs.toArray⟩ = w at o3 ⊢
  simp [rT4, -oIx_str, -oAdd_str, e1', e2', ec, q1, w0, w1, o3, show (-100000 : Int) ≤ n ∧ (n : Int) ≤ 100000 by omega]
def wWords : List D := [.str (PySem.Str.ofString "right"), .str (PySem.Str.ofString "wrong"), .str (PySem.Str.ofString "open"), .str (PySem.Str.ofString "unfair"), .str (PySem.Str.ofString "fault"), .str (PySem.Str.ofString "over"), .str (PySem.Str.ofString "ask"), .str (PySem.Str.ofString "say"), .str (PySem.Str.ofString "drop"), .str (PySem.Str.ofString "goal")]
def strB : D → Bool
  | .str z => decide (z.length ≤ 7 ∧ 40 ∉ sg z)
  | _ => false
theorem cut_sg6 (y : Str) : sg (cutS y none (some 6)) = (sg y).take 6 := cutS_take y 6
theorem name_drawn {w : Str} (l6 : w.length ≤ 6) (w40 : 40 ∉ sg w) {r : Int} (h0 : 0 ≤ r) (h1 : r < 14) (e0 e1 e2 e4 e5 e8 e9 e10 e11 e12 : Option Ob) :
    ∃ n : Str, rT6 [e0, e1, e2, some (.d (.int r)), e4, e5, some (.d (.str w)), some (.d (.fl wWords)), e8, e9, e10, e11, e12] = .ok .nx [e0, e1, e2, some (.d (.int r)), e4, e5, some (.d (.str n)), some (.d (.fl wWords)), e8, e9, e10, e11, e12] ∧ n.length ≤ 6 ∧ 40 ∉ sg n := by
  have ql : (PySem.Str.ofString "q").length = 1 := by decide +kernel
  have ad := add_len (a := w) (b := PySem.Str.ofString "q") (by rw [ql]; omega)
  have l7 : (w ++ PySem.Str.ofString "q").length ≤ 7 := by rw [app_len, ql]; omega
  have n40 : 40 ∉ sg (w ++ PySem.Str.ofString "q") := fun h => by
    rw [sg_app] at h
    rcases List.mem_append.mp h with h | h
    · exact w40 h
    · exact absurd h (by decide +kernel)
  generalize w ++ PySem.Str.ofString "q" = v at ad l7 n40
  have hb : ∀ x ∈ wWords ++ [D.str v, .str v, .str (PySem.Str.ofString "fun"), .str (PySem.Str.ofString "ink")], strB x = true := by
    intro x hx
    rcases List.mem_append.mp hx with hx | hx
    · exact List.all_eq_true.mp (show wWords.all strB = true by decide +kernel) x hx
    · simp only [List.mem_cons, List.not_mem_nil, or_false] at hx
      rcases hx with rfl | rfl | rfl | rfl
      · exact decide_eq_true ⟨l7, n40⟩
      · exact decide_eq_true ⟨l7, n40⟩
      · decide +kernel
      · decide +kernel
  have hl : (wWords ++ [D.str v, .str v, .str (PySem.Str.ofString "fun"), .str (PySem.Str.ofString "ink")]).length = 14 := rfl
  have sz : wWords.length + 4 ≤ sizeLine := by decide +kernel
  obtain ⟨x, hm, hi⟩ := atI_mem (xs := wWords ++ [D.str v, .str v, .str (PySem.Str.ofString "fun"), .str (PySem.Str.ofString "ink")]) h0 (by rw [hl]; omega)
  have hx := hb x hm
  cases x with
  | str y =>
    obtain ⟨hy, hy40⟩ : y.length ≤ 7 ∧ 40 ∉ sg y := of_decide_eq_true hx
    refine ⟨cutS y none (some 6), ?_, (cut_upto y (i := 6) rfl).1, fun h => hy40 ((List.take_sublist 6 _).mem (by rw [← cut_sg6]; exact h))⟩
    have ys : y.length ≤ sizeLine := Nat.le_trans hy (by decide)
    generalize wWords = W at hi sz ⊢
    simp [rT6, ad, -oAdd_str, hi, sz, ys]
  | _ => cases hx
def P9 (y : D) : Prop := ∃ m : Nat, m ≤ 9 ∧ Th m y
theorem ths_nine : ∀ {Ts : List D}, (∀ T ∈ Ts, P9 T) → ∃ n, n ≤ 9 * Ts.length ∧ Ths n Ts
  | [], _ => ⟨0, by simp, .nil⟩
  | T :: Ts, h => by
    obtain ⟨n, hn, hs⟩ := ths_nine fun U hU => h U (List.mem_cons_of_mem _ hU)
    obtain ⟨k, k2, k3⟩ := h T List.mem_cons_self
    exact ⟨k + n, by rw [List.length_cons]; omega, .cons k3 hs⟩
theorem things_drawn {k : Nat} {ds : List D} (h : Dr k ds) (hk : k + 1000 ≤ 10000000) {p : Nat} (hp : p ≤ 4) (w : Str) (e0 e1 e3 e5 e7 e9 e10 e12 : Option Ob) :
    ∃ (Ts : List D) (ds' : List D), rT7 [e0, e1, some (.lst ds), e3, some (.d (.int p)), e5, some (.d (.str w)), e7, none, e9, e10, none, e12] = .ok .nx [e0, e1, some (.lst ds'), e3, some (.d (.int p)), e5, some (.d (.str w)), e7, some (.d (.tup [.str w, .tup Ts])), e9, e10, none, e12] ∧ Ts.length ≤ 4 ∧ (∀ T ∈ Ts, P9 T) ∧ Dr (k + 1000) ds' := by
  obtain ⟨ys, d3, q1, q2, q3, q4⟩ := lcR_thread (h := putD 11) (t := gYes) (e := (gToD (gCall m__law_of_points (gcCons (gcS 2) (gcCons (gcD (g2 oAdd (gC (.int 1)) (gToD (gCall m__law_next (gcCons (gcS 2) (gcCons (gcD (gC (.int 9))) gcNil)))))) gcNil))))) (vs := [11]) (fun ds => [e0, e1, some (.lst ds), e3, some (.d (.int p)), e5, some (.d (.str w)), e7, none, e9, e10, none, e12]) Dr P9 200 10000000 ((List.range p).map fun (i : Nat) => D.int (i : Int)) [] k ds (by simp; omega) h (by simp; omega) (by
    intro k s x hx hB hI
    obtain ⟨r, d1, e1', a1, b1, h1⟩ := next_ok (n := 9) hI (by omega) (by omega) (by omega)
    obtain ⟨n, rfl⟩ := Int.eq_ofNat_of_zero_le a1
    obtain ⟨T, d2, e2', hT, h2⟩ := of_points_ok 70 (1 + n) _ d1 (by omega) (by omega) (by omega) h1 (by omega)
    have e2' : m__law_of_points [.lst d1, .d (.int (1 + (n : Int)))] = .ok (.d T) [.lst d2, .d (.int (1 + (n : Int)))] := by
      rw [show (1 + (n : Int)) = ((1 + n : Nat) : Int) by omega]
      exact e2'
    exact ⟨[e0, e1, some (.lst s), e3, some (.d (.int p)), e5, some (.d (.str w)), e7, none, e9, e10, some (.d x), e12], T, d2, [e0, e1, some (.lst d2), e3, some (.d (.int p)), e5, some (.d (.str w)), e7, none, e9, e10, some (.d x), e12], rfl, rfl, by simp [e1', e2'], rfl, ⟨1 + n, by omega, hT⟩, h2.mono (by omega)⟩)
  simp only [List.length_map, List.length_range] at q2 q4
  refine ⟨ys, d3, ?_, by omega, q3, q4.mono (by omega)⟩
  simp at q1
  simp [rT7, q1, show (-100000 : Int) ≤ p ∧ (p : Int) ≤ 100000 by omega, show ys.length ≤ 100000 by omega]
theorem law_text_is {k : Nat} {T : D} (h : Th k T) (hk : k ≤ 80) : m__law_text [.d T] = .ok (.d (.str (txD T))) [.d T] := law_text_ok 80 k T hk (by omega) h
def txCall (w : Str) (Ts : List D) : Str := w ++ zOpen ++ Txt.join zComma (txDs Ts) ++ zShut
theorem txrow_len {Ts : List D} (hl : Ts.length ≤ 4) (ht : ∀ T ∈ Ts, P9 T) : (Txt.join zComma (txDs Ts)).length ≤ 504 := by
  obtain ⟨n, hn, hs⟩ := ths_nine ht
  have s := sum_len (fun y hy k hk => tx_len k k y (Nat.le_refl _)) hs
  have j := join_len zComma (txDs Ts)
  rw [txDs_map, show zComma.length = 2 by decide +kernel, List.length_map] at j
  rw [txDs_map]
  have : Ts.length ≤ 4 := hl
  omega
theorem text_made {w : Str} (hw : w.length ≤ 6) {Ts : List D} (hl : Ts.length ≤ 4) (ht : ∀ T ∈ Ts, P9 T) (e0 e1 e2 e3 e4 e5 e7 e9 e10 e11 : Option Ob) :
    rT8 [e0, e1, e2, e3, e4, e5, some (.d (.str w)), e7, some (.d (.tup [.str w, .tup Ts])), e9, e10, e11, none] = .ok .nx [e0, e1, e2, e3, e4, e5, some (.d (.str w)), e7, some (.d (.tup [.str w, .tup Ts])), some (.d (.str (txCall w Ts))), e10, e11, none] := by
  obtain ⟨n, hn, hs⟩ := ths_nine ht
  have jl := txrow_len hl ht
  have e1' : lcR (putD 12) gYes (gToD (gCall m__law_text (gcCons (gcD (gVar 12)) gcNil))) [12] Ts [] [e0, e1, e2, e3, e4, e5, some (.d (.str w)), e7, some (.d (.tup [.str w, .tup Ts])), e9, e10, e11, none] = .ok ([] ++ (Ts.filter fun _ => true).map fun x => .str (txD x)) [e0, e1, e2, e3, e4, e5, some (.d (.str w)), e7, some (.d (.tup [.str w, .tup Ts])), e9, e10, e11, none] :=
    lcR_pure (fun _ => true) (fun x => .str (txD x)) Ts [] (by simp; omega) fun x hx => by
      obtain ⟨k2, hk2, hT⟩ := ht x hx
      have q := law_text_is hT (by omega)
      exact ⟨[e0, e1, e2, e3, e4, e5, some (.d (.str w)), e7, some (.d (.tup [.str w, .tup Ts])), e9, e10, e11, some (.d x)], [e0, e1, e2, e3, e4, e5, some (.d (.str w)), e7, some (.d (.tup [.str w, .tup Ts])), e9, e10, e11, some (.d x)], rfl, rfl, fun _ => ⟨[e0, e1, e2, e3, e4, e5, some (.d (.str w)), e7, some (.d (.tup [.str w, .tup Ts])), e9, e10, e11, some (.d x)], by simp [q], rfl⟩, fun z => by cases z⟩
  rw [List.filter_eq_self.mpr fun _ _ => rfl, List.nil_append] at e1'
  have e2' := joinD_txs hs (by omega)
  obtain ⟨g1, g2', g3⟩ := glue (m := w) (j := Txt.join zComma (txDs Ts)) (by omega) (by omega)
  unfold txCall
  generalize hZ : w ++ zOpen ++ Txt.join zComma (txDs Ts) ++ zShut = Z at g3 ⊢
  generalize hY : w ++ zOpen ++ Txt.join zComma (txDs Ts) = Y at g2' g3
  generalize hV : w ++ zOpen = V at g1 g2'
  generalize Txt.join zComma (txDs Ts) = J at e2' g2'
  generalize (Ts.map fun x => D.str (txD x)) = Y' at e1' e2'
  simp [rT8, e1', e2', g1, g2', g3, -oAdd_str]
theorem tx_call_len {w : Str} (hw : w.length ≤ 6) {Ts : List D} (hl : Ts.length ≤ 4) (ht : ∀ T ∈ Ts, P9 T) : (txCall w Ts).length ≤ 600 := by
  have jl := txrow_len hl ht
  unfold txCall
  rw [app_len, app_len, app_len, open_len1, shut_len1]
  omega
/-! ### the law over a cell -/
theorem row_text_ok {L : List D} {n : Nat} (h : Ths n L) (hn : n ≤ 1000) (hk : ∀ x ∈ L, ∃ k, k ≤ 60 ∧ Th k x) (hl : L.length ≤ 10) : m_row_text [.d (.tup L)] = .ok (.d (.str (Txt.join zComma (txDs L)))) [.d (.tup L)] := by
  have e1 : lcR (putD 1) gYes (gToD (gCall (mm_thing_text 129) (gcCons (gcD (gVar 1)) gcNil))) [1] L [] [some (.d (.tup L)), none] = .ok ([] ++ (L.filter fun _ => true).map fun x => .str (txD x)) [some (.d (.tup L)), none] :=
    lcR_pure (fun _ => true) (fun x => .str (txD x)) L [] (by simp; omega) fun x hx => by
      obtain ⟨k2, hk2, ht⟩ := hk x hx
      have q := thing_text_ok 64 k2 x 129 (by omega) (by omega) (by omega) ht
      generalize mm_thing_text 129 = M at q
      exact ⟨[some (.d (.tup L)), some (.d x)], [some (.d (.tup L)), some (.d x)], rfl, rfl, fun _ => ⟨[some (.d (.tup L)), some (.d x)], by simp [q], rfl⟩, fun z => by cases z⟩
  rw [List.filter_eq_self.mpr fun _ _ => rfl, List.nil_append] at e1
  have e2 := joinD_txs h hn
  generalize Txt.join zComma (txDs L) = J at e2 ⊢
  generalize (L.map fun x => D.str (txD x)) = Y at e1 e2
  show mm_row_text 130 [.d (.tup L)] = _
  unfold mm_row_text
  generalize mm_thing_text 129 = M at e1
  simp [b_row_text, e1, e2]
theorem call_text_ok {w : Str} (hw : w.length ≤ 6) {Ts : List D} (hl : Ts.length ≤ 4) (ht : ∀ T ∈ Ts, P9 T) : m_call_text [.d (.tup [.str w, .tup Ts])] = .ok (.d (.str (txCall w Ts))) [.d (.tup [.str w, .tup Ts])] := by
  obtain ⟨n, hn, hs⟩ := ths_nine ht
  have jl := txrow_len hl ht
  have r := row_text_ok hs (by omega) (fun x hx => by obtain ⟨k, h1, h2⟩ := ht x hx; exact ⟨k, by omega, h2⟩) (by omega)
  obtain ⟨g1, g2', g3⟩ := glue (m := w) (j := Txt.join zComma (txDs Ts)) (by omega) (by omega)
  unfold txCall
  generalize hZ : w ++ zOpen ++ Txt.join zComma (txDs Ts) ++ zShut = Z at g3 ⊢
  generalize hY : w ++ zOpen ++ Txt.join zComma (txDs Ts) = Y at g2' g3
  generalize hV : w ++ zOpen = V at g1 g2'
  generalize Txt.join zComma (txDs Ts) = J at r g2'
  simp [m_call_text, b_call_text, r, g1, g2', g3, -oAdd_str]
/-- a text's last sign, where it is a call's, is the bracket -/
theorem call_last {z : Str} {C : D} (h : callZ z = some C) : ∃ u, sg z = u ++ [41] := by
  have e0 : sg z = waC z ++ afC z := (List.takeWhile_append_dropWhile ..).symm
  unfold callZ at h
  split at h
  · rename_i Ts e
    unfold resC at e
    by_cases d1 : (afC z).take 1 = [40]
    · rw [if_pos d1] at e
      by_cases d2 : ((afC z).drop 1).take 1 = [41]
      · rw [if_pos d2] at e
        have e2 : (afC z).drop 2 = [] := (Prod.mk.inj (Option.some.inj e)).2
        have e3 : afC z = [40] ++ [41] := by
          rw [← List.take_append_drop 1 (afC z), d1, ← List.take_append_drop 1 ((afC z).drop 1), d2, List.drop_drop, e2]
          rfl
        exact ⟨waC z ++ [40], by rw [e0, e3, List.append_assoc]⟩
      · rw [if_neg d2] at e
        obtain ⟨T, Ts', r1, _, _, e4⟩ := row_text_of (text_parse 60) e
        refine ⟨waC z ++ ([40] ++ (sg (txD T) ++ tl2 Ts')), ?_⟩
        rw [e0]
        conv => lhs; rw [← List.take_append_drop 1 (afC z), d1, e4]
        simp
    · rw [if_neg d1] at e
      cases e
  · cases h
theorem no_last {z : Str} {c : Nat} (hc : c ≠ 41) : callZ (z ++ ⟨#[c]⟩) = none := by
  cases h : callZ (z ++ ⟨#[c]⟩) with
  | none => rfl
  | some C =>
    obtain ⟨u, e⟩ := call_last h
    rw [sg_app] at e
    exact absurd (List.append_inj_right' e rfl) (by intro q; injection q; contradiction)
theorem no_open {z : Str} (h : 40 ∉ sg z) : callZ z = none := by
  cases hc : callZ z with
  | none => rfl
  | some C =>
    unfold callZ at hc
    split at hc
    · rename_i Ts e
      unfold resC at e
      by_cases d1 : (afC z).take 1 = [40]
      · exfalso
        have : 40 ∈ (afC z).take 1 := by rw [d1]; exact List.mem_cons_self
        exact h ((List.dropWhile_sublist _).mem ((List.take_sublist _ _).mem this))
      · rw [if_neg d1] at e
        cases e
    · cases hc
theorem odd_ok (cs : Cs) {x : D} (h : ∀ z, x ≠ .str z) : m__law_refused cs [.d x] = .ok (.d (.bl true)) [.d x] := refused_ok cs (read_call_no cs h)
theorem nl_one : PySem.Str.ofString "\n" = ⟨#[10]⟩ := by decide +kernel
theorem sp_one : PySem.Str.ofString " " = ⟨#[32]⟩ := by decide +kernel
theorem sp_len1 : (PySem.Str.ofString " ").length = 1 := by decide +kernel
theorem nl_len1 : (PySem.Str.ofString "\n").length = 1 := by decide +kernel
theorem last_ok (cs : Cs) {k : Nat} {ds : List D} (h : Dr k ds) (hk : k + 10 ≤ 10000000) {w z : Str} {C : D} (hC : ∀ z, C ≠ .str z) (hw : w.length ≤ 6) (w40 : 40 ∉ sg w) (hz : z.length ≤ 600) (e0 e1 e3 e4 e5 e7 e10 e11 e12 : Option Ob) :
    ∃ ds', rT11 cs [e0, e1, some (.lst ds), e3, e4, e5, some (.d (.str w)), e7, some (.d C), some (.d (.str z)), e10, e11, e12] = .ok (.rt (.d (.bl true))) [e0, e1, some (.lst ds'), e3, e4, e5, some (.d (.str w)), e7, some (.d C), some (.d (.str z)), e10, e11, e12] := by
  obtain ⟨r, d1, e1', a1, b1, h1⟩ := next_ok (n := 8) h (by omega) (by omega) (by omega)
  have g1 := add_len (a := z) (b := PySem.Str.ofString "\n") (by rw [nl_len1]; omega)
  have g2' := add_len (a := z) (b := PySem.Str.ofString " ") (by rw [sp_len1]; omega)
  have s1 := right_none cs (z := z ++ PySem.Str.ofString "\n") (by rw [app_len, nl_len1]; omega) (by rw [nl_one]; exact no_last (by decide))
  have s2 := right_none cs (z := z ++ PySem.Str.ofString " ") (by rw [app_len, sp_len1]; omega) (by rw [sp_one]; exact no_last (by decide))
  have s3 := right_none cs (z := w) (by omega) (no_open w40)
  have s4 := right_none cs (z := PySem.Str.ofString "") (by decide +kernel) (no_open (by decide +kernel))
  generalize z ++ PySem.Str.ofString "\n" = Z1 at g1 s1
  generalize z ++ PySem.Str.ofString " " = Z2 at g2' s2
  have key : ∀ x ∈ [D.non, .int 7, C, .fl [.str z], .str (PySem.Str.ofString ""), .str w, .str Z1, .str Z2], m__law_refused cs [.d x] = .ok (.d (.bl true)) [.d x] := by
    intro x hx
    simp only [List.mem_cons, List.not_mem_nil, or_false] at hx
    rcases hx with rfl | rfl | rfl | rfl | rfl | rfl | rfl | rfl
    · exact odd_ok cs fun z h => by cases h
    · exact odd_ok cs fun z h => by cases h
    · exact odd_ok cs hC
    · exact odd_ok cs fun z h => by cases h
    · exact s4
    · exact s3
    · exact s1
    · exact s2
  obtain ⟨x, hm, hi⟩ := atI_mem (xs := [D.non, .int 7, C, .fl [.str z], .str (PySem.Str.ofString ""), .str w, .str Z1, .str Z2]) a1 (by simpa using b1)
  have kx := key x hm
  refine ⟨d1, ?_⟩
  simp [rT11, e1', g1, g2', hi, kx, -oAdd_str]
/-! ### the law -/
theorem t9_ok (cs : Cs) {w z : Str} {C : D} (hc : m_call_text [.d C] = .ok (.d (.str z)) [.d C]) (hr : m__law_read_right cs [.d (.str z)] = .ok (.d (.bl true)) [.d (.str z)]) (e0 e1 e2 e3 e4 e5 e7 e10 e11 e12 : Option Ob) :
    rT9 cs [e0, e1, e2, e3, e4, e5, some (.d (.str w)), e7, some (.d C), some (.d (.str z)), e10, e11, e12] = .ok .nx [e0, e1, e2, e3, e4, e5, some (.d (.str w)), e7, some (.d C), some (.d (.str z)), e10, e11, e12] := by
  by_cases hw : w = PySem.Str.ofString "fun"
  · simp [rT9, hw, hr]
  · simp [rT9, hw, hr, hc]
def tB (cs : Cs) : G Fl := (gIf (gNot (gTruth (gToD (gCall (m__law_read_right cs) (gcCons (gcD (gToD (gCall m__law_spoilt (gcCons (gcS 2) (gcCons (gcD (gVar 9)) gcNil))))) gcNil))))) (gRetD (gC (.bl false))) gPass)
theorem t10_ok (cs : Cs) {k : Nat} {ds : List D} (h : Dr k ds) (hk : k + 100 ≤ 10000000) {z : Str} (zl : z.length ≤ 600) (e0 e1 e3 e4 e5 e6 e7 e8 e11 e12 : Option Ob) :
    ∃ o10 ds', rT10 cs [e0, e1, some (.lst ds), e3, e4, e5, e6, e7, e8, some (.d (.str z)), none, e11, e12] = .ok .nx [e0, e1, some (.lst ds'), e3, e4, e5, e6, e7, e8, some (.d (.str z)), o10, e11, e12] ∧ Dr (k + 30) ds' := by
  obtain ⟨⟨d5, o7⟩, q5, h5⟩ := forR_rng (S := List D × Option Ob) (h := putD 10) (b := tB cs)
    (fun s => [e0, e1, some (.lst s.1), e3, e4, e5, e6, e7, e8, some (.d (.str z)), s.2, e11, e12])
    (fun i s => Dr (k + 10 * i) s.1) 3 (by
      rintro i ⟨ds, o⟩ hi hd
      obtain ⟨s, ds2, q1, q2, q3⟩ := spoilt_ok (z := z) hd (by omega) (by omega)
      have q4 := read_right_ok cs (z := s) (by omega)
      refine ⟨[e0, e1, some (.lst ds), e3, e4, e5, e6, e7, e8, some (.d (.str z)), some (.d (.int i)), e11, e12], (ds2, some (.d (.int i))), rfl, .inl ?_, q3.mono (by omega)⟩
      simp [tB, q1, q4]) 3 0 (ds, none) (by omega) (by simpa using h)
  refine ⟨o7, d5, ?_, h5.mono (by omega)⟩
  show gFor (gRange1 (gC (.int 3))) (putD 10) (tB cs) _ = _
  have r3 : gRange1 (gC (.int 3)) [e0, e1, some (.lst ds), e3, e4, e5, e6, e7, e8, some (.d (.str z)), none, e11, e12] = .ok (rng 0 3) [e0, e1, some (.lst ds), e3, e4, e5, e6, e7, e8, some (.d (.str z)), none, e11, e12] := rfl
  rw [gFor_ap, r3]
  exact q5
theorem right_ok (cs : Cs) (cell k : Int) (hk : 0 ≤ k ∧ k ≤ 100) : m__law_right cs [.d (.int cell), .d (.int k)] = .ok (.d (.bl true)) [.d (.int cell), .d (.int k)] := by
  obtain ⟨d0, e0, h0⟩ := begun_ok cell k hk
  obtain ⟨r1, d1, e1, a1, b1, h1⟩ := next_ok (n := 14) h0 (by omega) (by omega) (by omega)
  obtain ⟨r2, d2, e2, a2, b2, h2⟩ := next_ok (n := 5) h1 (by omega) (by omega) (by omega)
  obtain ⟨p, rfl⟩ := Int.eq_ofNat_of_zero_le a2
  obtain ⟨w, d3, s4, w6, w40, h3⟩ := word_drawn h2 (by omega) (some (.d (.int cell))) (some (.d (.int k))) (some (.d (.int r1))) (some (.d (.int p))) none none none none none
  obtain ⟨n, s6, n6, n40⟩ := name_drawn w6 w40 a1 b1 (some (.d (.int cell))) (some (.d (.int k))) (some (.lst d3)) (some (.d (.int p))) (some (.d (.str zSmall))) none none none none none
  obtain ⟨Ts, d4, s7, tl, tp, h4⟩ := things_drawn h3 (by omega) (show p ≤ 4 by omega) n (some (.d (.int cell))) (some (.d (.int k))) (some (.d (.int r1))) (some (.d (.str zSmall))) (some (.d (.fl wWords))) none none none
  have s8 := text_made n6 tl tp (some (.d (.int cell))) (some (.d (.int k))) (some (.lst d4)) (some (.d (.int r1))) (some (.d (.int p))) (some (.d (.str zSmall))) (some (.d (.fl wWords))) none none none
  have ct := call_text_ok n6 tl tp
  have zl := tx_call_len n6 tl tp
  generalize txCall n Ts = z at s8 ct zl
  have hC : ∀ z, D.tup [.str n, .tup Ts] ≠ .str z := fun z h => by cases h
  generalize D.tup [.str n, .tup Ts] = C at s7 s8 ct hC
  have rr := read_right_ok cs (z := z) (by omega)
  have s9 := t9_ok cs (w := n) ct rr (some (.d (.int cell))) (some (.d (.int k))) (some (.lst d4)) (some (.d (.int r1))) (some (.d (.int p))) (some (.d (.str zSmall))) (some (.d (.fl wWords))) none none none
  obtain ⟨o10, d5, s10, h5⟩ := t10_ok cs h4 (by omega) zl (some (.d (.int cell))) (some (.d (.int k))) (some (.d (.int r1))) (some (.d (.int p))) (some (.d (.str zSmall))) (some (.d (.str n))) (some (.d (.fl wWords))) (some (.d C)) none none
  obtain ⟨d6, s11⟩ := last_ok cs h5 (by omega) hC n6 n40 zl (some (.d (.int cell))) (some (.d (.int k))) (some (.d (.int r1))) (some (.d (.int p))) (some (.d (.str zSmall))) (some (.d (.fl wWords))) o10 none none
  have s0 : rT0 [some (.d (.int cell)), some (.d (.int k)), none, none, none, none, none, none, none, none, none, none, none] = .ok .nx [some (.d (.int cell)), some (.d (.int k)), some (.lst d0), none, none, none, none, none, none, none, none, none, none] := by simp [rT0, e0]
  have s1 : rT1 [some (.d (.int cell)), some (.d (.int k)), some (.lst d0), none, none, none, none, none, none, none, none, none, none] = .ok .nx [some (.d (.int cell)), some (.d (.int k)), some (.lst d1), some (.d (.int r1)), none, none, none, none, none, none, none, none, none] := by simp [rT1, e1]
  have s2 : rT2 [some (.d (.int cell)), some (.d (.int k)), some (.lst d1), some (.d (.int r1)), none, none, none, none, none, none, none, none, none] = .ok .nx [some (.d (.int cell)), some (.d (.int k)), some (.lst d2), some (.d (.int r1)), some (.d (.int p)), none, none, none, none, none, none, none, none] := by simp [rT2, e2]
  have s3 : rT3 [some (.d (.int cell)), some (.d (.int k)), some (.lst d2), some (.d (.int r1)), some (.d (.int p)), none, none, none, none, none, none, none, none] = .ok .nx [some (.d (.int cell)), some (.d (.int k)), some (.lst d2), some (.d (.int r1)), some (.d (.int p)), some (.d (.str zSmall)), none, none, none, none, none, none, none] := by simp [rT3]
  have s5 : rT5 [some (.d (.int cell)), some (.d (.int k)), some (.lst d3), some (.d (.int r1)), some (.d (.int p)), some (.d (.str zSmall)), some (.d (.str w)), none, none, none, none, none, none] = .ok .nx [some (.d (.int cell)), some (.d (.int k)), some (.lst d3), some (.d (.int r1)), some (.d (.int p)), some (.d (.str zSmall)), some (.d (.str w)), some (.d (.fl wWords)), none, none, none, none, none] := by
    simp [rT5, wWords]
  unfold m__law_right gBody
  rw [rT_is]
  show fin [false, false] [.d (.int cell), .d (.int k)] ((gSeq rT0 _) [some (.d (.int cell)), some (.d (.int k)), none, none, none, none, none, none, none, none, none, none, none]) = _
  rw [seq_nx s0, seq_nx s1, seq_nx s2, seq_nx s3, seq_nx s4, seq_nx s5, seq_nx s6, seq_nx s7, seq_nx s8, seq_nx s9, seq_nx s10, s11]
  simp
theorem law_true (cs : Cs) : ∀ ns : List Int, ns.length ≤ 63 → ∃ os, m_law cs [.d (.fl (ns.map D.int))] = .ok (.d (.bl true)) os := law_cells (M := 16) (right_ok cs)

set_option maxHeartbeats 0 in
theorem all_mk {l : PySem.W.OpenLaw} {w : World} {K : Frag} {h : Heap} {mg : Str → Option Value} {fa : Addr} (X : K.In h) (G : h.Ns mainGlobals mg) (hfa : mg "law" = some (.ref fa))
    {C_ThingSigns : Addr} (xa_ThingSigns : PySem.W.nsIn K mainGlobals "ThingSigns" = some (some (.ref C_ThingSigns))) (xp_ThingSigns : PySem.W.plainGet K C_ThingSigns Str.empty = true) (xh_ThingSigns : PySem.W.hasDictIn K C_ThingSigns = true) (xo_ThingSigns : PySem.W.plainOver K C_ThingSigns = true) (xs_ThingSigns : PySem.W.findIn K (.ref C_ThingSigns) "__setattr__" = some (some (.builtin "object.__setattr__"))) (xm_ThingSigns : PySem.W.makesIn K C_ThingSigns = true) (xk_ThingSigns : PySem.W.keepIn K (.ref C_ThingSigns) = true)
    (xn_ThingSigns_signs : PySem.W.findIn K (.ref C_ThingSigns) "signs" = some none)
    (xn_ThingSigns_here : PySem.W.findIn K (.ref C_ThingSigns) "here" = some none)
    {C_Clash : Addr} (xa_Clash : PySem.W.nsIn K mainGlobals "Clash" = some (some (.ref C_Clash)))
    {C_NoCall : Addr} (xa_NoCall : PySem.W.nsIn K mainGlobals "NoCall" = some (some (.ref C_NoCall)))
    {C_NoProgram : Addr} (xa_NoProgram : PySem.W.nsIn K mainGlobals "NoProgram" = some (some (.ref C_NoProgram)))
    {C_NoText : Addr} (xa_NoText : PySem.W.nsIn K mainGlobals "NoText" = some (some (.ref C_NoText)))
    {C_RuleError : Addr} (xa_RuleError : PySem.W.nsIn K mainGlobals "RuleError" = some (some (.ref C_RuleError)))
    (xz_all : allB K allX = true)
    (xz_tClash : xtB K allX (.ref C_Clash) yes_Clash = true)
    (xz_tNoCall : xtB K allX (.ref C_NoCall) yes_NoCall = true)
    (xz_tNoProgram : xtB K allX (.ref C_NoProgram) yes_NoProgram = true)
    (xz_tNoText : xtB K allX (.ref C_NoText) yes_NoText = true)
    (xz_tRuleError : xtB K allX (.ref C_RuleError) yes_RuleError = true)
    (xz_tValueError : xtB K allX (.type "ValueError") yes_ValueError = true)
    (xz_frow : xfieldB K allX "row" = true)
    (xr1_RuleError : PySem.W.readsIn K C_RuleError (.type "type") = true) (xr2_RuleError : PySem.W.specialIn K (.ref C_RuleError) "__getattribute__" = some (some (.builtin "type.__getattribute__"))) (xr3_RuleError : PySem.W.findCls K (.ref C_RuleError) (.type "type") "__init__" = some (.val (.builtin "ValueError.__init__")))
    (xz_oNoText : oexB K C_NoText = true)
    {f0 : Addr} {od0 an0 : Option Addr} {sl0 : Array (Option Value)} {oc0 kV0 dc0 pm0 cd0 ct0 : Value}
    (a0 : PySem.W.findIn K (.ref C_NoText) "__init__" = some (some (.ref f0))) (i0 : PySem.W.typeIn K (.ref f0) = some (.type "function")) (xn0 : PySem.W.findIn K (.ref C_NoText) "row" = some none)
    (l0 : K.lookup f0 = some ⟨oc0, od0, .func (PySem.W.fnOf "__init__" "NoText.__init__" (defArgs s_NoText___init__) (defBody s_NoText___init__) (defScope s_NoText___init__) .none kV0 dc0 pm0 an0 cd0 ct0), sl0⟩) (e0 : PySem.W.codeIn K cd0 "NoText.__init__" = true) (k0 : PySem.W.keepIn K (.ref f0) = true)
    {f1 : Addr} {od1 an1 : Option Addr} {sl1 : Array (Option Value)} {oc1 kV1 dc1 pm1 cd1 ct1 : Value}
    (a1 : PySem.W.nsIn K mainGlobals "is_number" = some (some (.ref f1)))
    (l1 : K.lookup f1 = some ⟨oc1, od1, .func (PySem.W.fnOf "is_number" "is_number" (defArgs s_is_number) (defBody s_is_number) (defScope s_is_number) .none kV1 dc1 pm1 an1 cd1 ct1), sl1⟩) (e1 : PySem.W.codeIn K cd1 "is_number" = true) (k1 : PySem.W.keepIn K (.ref f1) = true)
    {f2 : Addr} {od2 an2 : Option Addr} {sl2 : Array (Option Value)} {oc2 kV2 dc2 pm2 cd2 ct2 : Value}
    (a2 : PySem.W.nsIn K mainGlobals "is_worth" = some (some (.ref f2)))
    (l2 : K.lookup f2 = some ⟨oc2, od2, .func (PySem.W.fnOf "is_worth" "is_worth" (defArgs s_is_worth) (defBody s_is_worth) (defScope s_is_worth) .none kV2 dc2 pm2 an2 cd2 ct2), sl2⟩) (e2 : PySem.W.codeIn K cd2 "is_worth" = true) (k2 : PySem.W.keepIn K (.ref f2) = true)
    {f3 : Addr} {od3 an3 : Option Addr} {sl3 : Array (Option Value)} {oc3 kV3 dc3 pm3 cd3 ct3 : Value}
    (a3 : PySem.W.nsIn K mainGlobals "all_small" = some (some (.ref f3)))
    (l3 : K.lookup f3 = some ⟨oc3, od3, .func (PySem.W.fnOf "all_small" "all_small" (defArgs s_all_small) (defBody s_all_small) (defScope s_all_small) .none kV3 dc3 pm3 an3 cd3 ct3), sl3⟩) (e3 : PySem.W.codeIn K cd3 "all_small" = true) (k3 : PySem.W.keepIn K (.ref f3) = true)
    {f4 : Addr} {od4 an4 : Option Addr} {sl4 : Array (Option Value)} {oc4 kV4 dc4 pm4 cd4 ct4 : Value}
    (a4 : PySem.W.nsIn K mainGlobals "is_name" = some (some (.ref f4)))
    (l4 : K.lookup f4 = some ⟨oc4, od4, .func (PySem.W.fnOf "is_name" "is_name" (defArgs s_is_name) (defBody s_is_name) (defScope s_is_name) .none kV4 dc4 pm4 an4 cd4 ct4), sl4⟩) (e4 : PySem.W.codeIn K cd4 "is_name" = true) (k4 : PySem.W.keepIn K (.ref f4) = true)
    {f5 : Addr} {od5 an5 : Option Addr} {sl5 : Array (Option Value)} {oc5 kV5 dc5 pm5 cd5 ct5 : Value}
    (a5 : PySem.W.nsIn K mainGlobals "is_mark" = some (some (.ref f5)))
    (l5 : K.lookup f5 = some ⟨oc5, od5, .func (PySem.W.fnOf "is_mark" "is_mark" (defArgs s_is_mark) (defBody s_is_mark) (defScope s_is_mark) .none kV5 dc5 pm5 an5 cd5 ct5), sl5⟩) (e5 : PySem.W.codeIn K cd5 "is_mark" = true) (k5 : PySem.W.keepIn K (.ref f5) = true)
    {f6 : Addr} {od6 an6 : Option Addr} {sl6 : Array (Option Value)} {oc6 kV6 dc6 pm6 cd6 ct6 : Value}
    (a6 : PySem.W.findIn K (.ref C_ThingSigns) "__init__" = some (some (.ref f6))) (i6 : PySem.W.isFn K (.ref f6) = true)
    (l6 : K.lookup f6 = some ⟨oc6, od6, .func (PySem.W.fnOf "__init__" "Signs.__init__" (defArgs s_ThingSigns___init__) (defBody s_ThingSigns___init__) (defScope s_ThingSigns___init__) .none kV6 dc6 pm6 an6 cd6 ct6), sl6⟩) (e6 : PySem.W.codeIn K cd6 "Signs.__init__" = true) (k6 : PySem.W.keepIn K (.ref f6) = true)
    {f7 : Addr} {od7 an7 : Option Addr} {sl7 : Array (Option Value)} {oc7 kV7 dc7 pm7 cd7 ct7 : Value}
    (a7 : PySem.W.findIn K (.ref C_ThingSigns) "coming" = some (some (.ref f7))) (i7 : PySem.W.isFn K (.ref f7) = true)
    (l7 : K.lookup f7 = some ⟨oc7, od7, .func (PySem.W.fnOf "coming" "Signs.coming" (defArgs s_ThingSigns_coming) (defBody s_ThingSigns_coming) (defScope s_ThingSigns_coming) .none kV7 dc7 pm7 an7 cd7 ct7), sl7⟩) (e7 : PySem.W.codeIn K cd7 "Signs.coming" = true) (k7 : PySem.W.keepIn K (.ref f7) = true)
    {f8 : Addr} {od8 an8 : Option Addr} {sl8 : Array (Option Value)} {oc8 kV8 dc8 pm8 cd8 ct8 : Value}
    (a8 : PySem.W.findIn K (.ref C_ThingSigns) "is_over" = some (some (.ref f8))) (i8 : PySem.W.isFn K (.ref f8) = true)
    (l8 : K.lookup f8 = some ⟨oc8, od8, .func (PySem.W.fnOf "is_over" "Signs.is_over" (defArgs s_ThingSigns_is_over) (defBody s_ThingSigns_is_over) (defScope s_ThingSigns_is_over) .none kV8 dc8 pm8 an8 cd8 ct8), sl8⟩) (e8 : PySem.W.codeIn K cd8 "Signs.is_over" = true) (k8 : PySem.W.keepIn K (.ref f8) = true)
    {f9 : Addr} {od9 an9 : Option Addr} {sl9 : Array (Option Value)} {oc9 kV9 dc9 pm9 cd9 ct9 : Value}
    (a9 : PySem.W.findIn K (.ref C_ThingSigns) "take_all" = some (some (.ref f9))) (i9 : PySem.W.isFn K (.ref f9) = true)
    (l9 : K.lookup f9 = some ⟨oc9, od9, .func (PySem.W.fnOf "take_all" "Signs.take_all" (defArgs s_ThingSigns_take_all) (defBody s_ThingSigns_take_all) (defScope s_ThingSigns_take_all) .none kV9 dc9 pm9 an9 cd9 ct9), sl9⟩) (e9 : PySem.W.codeIn K cd9 "Signs.take_all" = true) (k9 : PySem.W.keepIn K (.ref f9) = true)
    {f10 : Addr} {od10 an10 : Option Addr} {sl10 : Array (Option Value)} {oc10 kV10 dc10 pm10 cd10 ct10 : Value}
    (a10 : PySem.W.findIn K (.ref C_ThingSigns) "has_text" = some (some (.ref f10))) (i10 : PySem.W.isFn K (.ref f10) = true)
    (l10 : K.lookup f10 = some ⟨oc10, od10, .func (PySem.W.fnOf "has_text" "Signs.has_text" (defArgs s_ThingSigns_has_text) (defBody s_ThingSigns_has_text) (defScope s_ThingSigns_has_text) .none kV10 dc10 pm10 an10 cd10 ct10), sl10⟩) (e10 : PySem.W.codeIn K cd10 "Signs.has_text" = true) (k10 : PySem.W.keepIn K (.ref f10) = true)
    {f11 : Addr} {od11 an11 : Option Addr} {sl11 : Array (Option Value)} {oc11 kV11 dc11 pm11 cd11 ct11 : Value}
    (a11 : PySem.W.findIn K (.ref C_ThingSigns) "take_text" = some (some (.ref f11))) (i11 : PySem.W.isFn K (.ref f11) = true)
    (l11 : K.lookup f11 = some ⟨oc11, od11, .func (PySem.W.fnOf "take_text" "Signs.take_text" (defArgs s_ThingSigns_take_text) (defBody s_ThingSigns_take_text) (defScope s_ThingSigns_take_text) .none kV11 dc11 pm11 an11 cd11 ct11), sl11⟩) (e11 : PySem.W.codeIn K cd11 "Signs.take_text" = true) (k11 : PySem.W.keepIn K (.ref f11) = true)
    {f12 : Addr} {od12 an12 : Option Addr} {sl12 : Array (Option Value)} {oc12 kV12 dc12 pm12 cd12 ct12 : Value}
    (a12 : PySem.W.findIn K (.ref C_ThingSigns) "take_number" = some (some (.ref f12))) (i12 : PySem.W.isFn K (.ref f12) = true)
    (l12 : K.lookup f12 = some ⟨oc12, od12, .func (PySem.W.fnOf "take_number" "Signs.take_number" (defArgs s_ThingSigns_take_number) (defBody s_ThingSigns_take_number) (defScope s_ThingSigns_take_number) .none kV12 dc12 pm12 an12 cd12 ct12), sl12⟩) (e12 : PySem.W.codeIn K cd12 "Signs.take_number" = true) (k12 : PySem.W.keepIn K (.ref f12) = true)
    {f13 : Addr} {od13 an13 : Option Addr} {sl13 : Array (Option Value)} {oc13 kV13 dc13 pm13 cd13 ct13 : Value}
    (a13 : PySem.W.findIn K (.ref C_ThingSigns) "take_mark" = some (some (.ref f13))) (i13 : PySem.W.isFn K (.ref f13) = true)
    (l13 : K.lookup f13 = some ⟨oc13, od13, .func (PySem.W.fnOf "take_mark" "Signs.take_mark" (defArgs s_ThingSigns_take_mark) (defBody s_ThingSigns_take_mark) (defScope s_ThingSigns_take_mark) .none kV13 dc13 pm13 an13 cd13 ct13), sl13⟩) (e13 : PySem.W.codeIn K cd13 "Signs.take_mark" = true) (k13 : PySem.W.keepIn K (.ref f13) = true)
    {f14 : Addr} {od14 an14 : Option Addr} {sl14 : Array (Option Value)} {oc14 kV14 dc14 pm14 cd14 ct14 : Value}
    (a14 : PySem.W.findIn K (.ref C_ThingSigns) "take_row" = some (some (.ref f14))) (i14 : PySem.W.isFn K (.ref f14) = true)
    (l14 : K.lookup f14 = some ⟨oc14, od14, .func (PySem.W.fnOf "take_row" "Signs.take_row" (defArgs s_ThingSigns_take_row) (defBody s_ThingSigns_take_row) (defScope s_ThingSigns_take_row) .none kV14 dc14 pm14 an14 cd14 ct14), sl14⟩) (e14 : PySem.W.codeIn K cd14 "Signs.take_row" = true) (k14 : PySem.W.keepIn K (.ref f14) = true)
    {f15 : Addr} {od15 an15 : Option Addr} {sl15 : Array (Option Value)} {oc15 kV15 dc15 pm15 cd15 ct15 : Value}
    (a15 : PySem.W.nsIn K mainGlobals "is_row" = some (some (.ref f15)))
    (l15 : K.lookup f15 = some ⟨oc15, od15, .func (PySem.W.fnOf "is_row" "is_row" (defArgs s_is_row) (defBody s_is_row) (defScope s_is_row) .none kV15 dc15 pm15 an15 cd15 ct15), sl15⟩) (e15 : PySem.W.codeIn K cd15 "is_row" = true) (k15 : PySem.W.keepIn K (.ref f15) = true)
    {f16 : Addr} {od16 an16 : Option Addr} {sl16 : Array (Option Value)} {oc16 kV16 dc16 pm16 cd16 ct16 : Value}
    (a16 : PySem.W.nsIn K mainGlobals "is_thing" = some (some (.ref f16)))
    (l16 : K.lookup f16 = some ⟨oc16, od16, .func (PySem.W.fnOf "is_thing" "is_thing" (defArgs s_is_thing) (defBody s_is_thing) (defScope s_is_thing) .none kV16 dc16 pm16 an16 cd16 ct16), sl16⟩) (e16 : PySem.W.codeIn K cd16 "is_thing" = true) (k16 : PySem.W.keepIn K (.ref f16) = true)
    {f17 : Addr} {od17 an17 : Option Addr} {sl17 : Array (Option Value)} {oc17 kV17 dc17 pm17 cd17 ct17 : Value}
    (a17 : PySem.W.nsIn K mainGlobals "is_call" = some (some (.ref f17)))
    (l17 : K.lookup f17 = some ⟨oc17, od17, .func (PySem.W.fnOf "is_call" "is_call" (defArgs s_is_call) (defBody s_is_call) (defScope s_is_call) .none kV17 dc17 pm17 an17 cd17 ct17), sl17⟩) (e17 : PySem.W.codeIn K cd17 "is_call" = true) (k17 : PySem.W.keepIn K (.ref f17) = true)
    {f18 : Addr} {od18 an18 : Option Addr} {sl18 : Array (Option Value)} {oc18 kV18 dc18 pm18 cd18 ct18 : Value}
    (a18 : PySem.W.nsIn K mainGlobals "row_text" = some (some (.ref f18)))
    (l18 : K.lookup f18 = some ⟨oc18, od18, .func (PySem.W.fnOf "row_text" "row_text" (defArgs s_row_text) (defBody s_row_text) (defScope s_row_text) .none kV18 dc18 pm18 an18 cd18 ct18), sl18⟩) (e18 : PySem.W.codeIn K cd18 "row_text" = true) (k18 : PySem.W.keepIn K (.ref f18) = true)
    {f19 : Addr} {od19 an19 : Option Addr} {sl19 : Array (Option Value)} {oc19 kV19 dc19 pm19 cd19 ct19 : Value}
    (a19 : PySem.W.nsIn K mainGlobals "thing_text" = some (some (.ref f19)))
    (l19 : K.lookup f19 = some ⟨oc19, od19, .func (PySem.W.fnOf "thing_text" "thing_text" (defArgs s_thing_text) (defBody s_thing_text) (defScope s_thing_text) .none kV19 dc19 pm19 an19 cd19 ct19), sl19⟩) (e19 : PySem.W.codeIn K cd19 "thing_text" = true) (k19 : PySem.W.keepIn K (.ref f19) = true)
    {f20 : Addr} {od20 an20 : Option Addr} {sl20 : Array (Option Value)} {oc20 kV20 dc20 pm20 cd20 ct20 : Value}
    (a20 : PySem.W.nsIn K mainGlobals "call_text" = some (some (.ref f20)))
    (l20 : K.lookup f20 = some ⟨oc20, od20, .func (PySem.W.fnOf "call_text" "call_text" (defArgs s_call_text) (defBody s_call_text) (defScope s_call_text) .none kV20 dc20 pm20 an20 cd20 ct20), sl20⟩) (e20 : PySem.W.codeIn K cd20 "call_text" = true) (k20 : PySem.W.keepIn K (.ref f20) = true)
    {f21 : Addr} {od21 an21 : Option Addr} {sl21 : Array (Option Value)} {oc21 kV21 dc21 pm21 cd21 ct21 : Value}
    (a21 : PySem.W.findIn K (.ref C_ThingSigns) "take_one" = some (some (.ref f21))) (i21 : PySem.W.isFn K (.ref f21) = true)
    (l21 : K.lookup f21 = some ⟨oc21, od21, .func (PySem.W.fnOf "take_one" "ThingSigns.take_one" (defArgs s_ThingSigns_take_one) (defBody s_ThingSigns_take_one) (defScope s_ThingSigns_take_one) .none kV21 dc21 pm21 an21 cd21 ct21), sl21⟩) (e21 : PySem.W.codeIn K cd21 "ThingSigns.take_one" = true) (k21 : PySem.W.keepIn K (.ref f21) = true)
    {f22 : Addr} {od22 an22 : Option Addr} {sl22 : Array (Option Value)} {oc22 kV22 dc22 pm22 cd22 ct22 : Value}
    (a22 : PySem.W.findIn K (.ref C_ThingSigns) "take_call" = some (some (.ref f22))) (i22 : PySem.W.isFn K (.ref f22) = true)
    (l22 : K.lookup f22 = some ⟨oc22, od22, .func (PySem.W.fnOf "take_call" "ThingSigns.take_call" (defArgs s_ThingSigns_take_call) (defBody s_ThingSigns_take_call) (defScope s_ThingSigns_take_call) .none kV22 dc22 pm22 an22 cd22 ct22), sl22⟩) (e22 : PySem.W.codeIn K cd22 "ThingSigns.take_call" = true) (k22 : PySem.W.keepIn K (.ref f22) = true)
    {f23 : Addr} {od23 an23 : Option Addr} {sl23 : Array (Option Value)} {oc23 kV23 dc23 pm23 cd23 ct23 : Value}
    (a23 : PySem.W.nsIn K mainGlobals "read_call" = some (some (.ref f23)))
    (l23 : K.lookup f23 = some ⟨oc23, od23, .func (PySem.W.fnOf "read_call" "read_call" (defArgs s_read_call) (defBody s_read_call) (defScope s_read_call) .none kV23 dc23 pm23 an23 cd23 ct23), sl23⟩) (e23 : PySem.W.codeIn K cd23 "read_call" = true) (k23 : PySem.W.keepIn K (.ref f23) = true)
    {f24 : Addr} {od24 an24 : Option Addr} {sl24 : Array (Option Value)} {oc24 kV24 dc24 pm24 cd24 ct24 : Value}
    (a24 : PySem.W.nsIn K mainGlobals "_law_begun" = some (some (.ref f24)))
    (l24 : K.lookup f24 = some ⟨oc24, od24, .func (PySem.W.fnOf "_law_begun" "_law_begun" (defArgs s__law_begun) (defBody s__law_begun) (defScope s__law_begun) .none kV24 dc24 pm24 an24 cd24 ct24), sl24⟩) (e24 : PySem.W.codeIn K cd24 "_law_begun" = true) (k24 : PySem.W.keepIn K (.ref f24) = true)
    {f25 : Addr} {od25 an25 : Option Addr} {sl25 : Array (Option Value)} {oc25 kV25 dc25 pm25 cd25 ct25 : Value}
    (a25 : PySem.W.nsIn K mainGlobals "_law_next" = some (some (.ref f25)))
    (l25 : K.lookup f25 = some ⟨oc25, od25, .func (PySem.W.fnOf "_law_next" "_law_next" (defArgs s__law_next) (defBody s__law_next) (defScope s__law_next) .none kV25 dc25 pm25 an25 cd25 ct25), sl25⟩) (e25 : PySem.W.codeIn K cd25 "_law_next" = true) (k25 : PySem.W.keepIn K (.ref f25) = true)
    {f26 : Addr} {od26 an26 : Option Addr} {sl26 : Array (Option Value)} {oc26 kV26 dc26 pm26 cd26 ct26 : Value}
    (a26 : PySem.W.nsIn K mainGlobals "_law_pick" = some (some (.ref f26)))
    (l26 : K.lookup f26 = some ⟨oc26, od26, .func (PySem.W.fnOf "_law_pick" "_law_pick" (defArgs s__law_pick) (defBody s__law_pick) (defScope s__law_pick) .none kV26 dc26 pm26 an26 cd26 ct26), sl26⟩) (e26 : PySem.W.codeIn K cd26 "_law_pick" = true) (k26 : PySem.W.keepIn K (.ref f26) = true)
    {f27 : Addr} {od27 an27 : Option Addr} {sl27 : Array (Option Value)} {oc27 kV27 dc27 pm27 cd27 ct27 : Value}
    (a27 : PySem.W.nsIn K mainGlobals "_law_number" = some (some (.ref f27)))
    (l27 : K.lookup f27 = some ⟨oc27, od27, .func (PySem.W.fnOf "_law_number" "_law_number" (defArgs s__law_number) (defBody s__law_number) (defScope s__law_number) .none kV27 dc27 pm27 an27 cd27 ct27), sl27⟩) (e27 : PySem.W.codeIn K cd27 "_law_number" = true) (k27 : PySem.W.keepIn K (.ref f27) = true)
    {f28 : Addr} {od28 an28 : Option Addr} {sl28 : Array (Option Value)} {oc28 kV28 dc28 pm28 cd28 ct28 : Value}
    (a28 : PySem.W.nsIn K mainGlobals "_law_mark" = some (some (.ref f28)))
    (l28 : K.lookup f28 = some ⟨oc28, od28, .func (PySem.W.fnOf "_law_mark" "_law_mark" (defArgs s__law_mark) (defBody s__law_mark) (defScope s__law_mark) .none kV28 dc28 pm28 an28 cd28 ct28), sl28⟩) (e28 : PySem.W.codeIn K cd28 "_law_mark" = true) (k28 : PySem.W.keepIn K (.ref f28) = true)
    {f29 : Addr} {od29 an29 : Option Addr} {sl29 : Array (Option Value)} {oc29 kV29 dc29 pm29 cd29 ct29 : Value}
    (a29 : PySem.W.nsIn K mainGlobals "_law_of_points" = some (some (.ref f29)))
    (l29 : K.lookup f29 = some ⟨oc29, od29, .func (PySem.W.fnOf "_law_of_points" "_law_of_points" (defArgs s__law_of_points) (defBody s__law_of_points) (defScope s__law_of_points) .none kV29 dc29 pm29 an29 cd29 ct29), sl29⟩) (e29 : PySem.W.codeIn K cd29 "_law_of_points" = true) (k29 : PySem.W.keepIn K (.ref f29) = true)
    {f30 : Addr} {od30 an30 : Option Addr} {sl30 : Array (Option Value)} {oc30 kV30 dc30 pm30 cd30 ct30 : Value}
    (a30 : PySem.W.nsIn K mainGlobals "_law_mark_alone" = some (some (.ref f30)))
    (l30 : K.lookup f30 = some ⟨oc30, od30, .func (PySem.W.fnOf "_law_mark_alone" "_law_mark_alone" (defArgs s__law_mark_alone) (defBody s__law_mark_alone) (defScope s__law_mark_alone) .none kV30 dc30 pm30 an30 cd30 ct30), sl30⟩) (e30 : PySem.W.codeIn K cd30 "_law_mark_alone" = true) (k30 : PySem.W.keepIn K (.ref f30) = true)
    {f31 : Addr} {od31 an31 : Option Addr} {sl31 : Array (Option Value)} {oc31 kV31 dc31 pm31 cd31 ct31 : Value}
    (a31 : PySem.W.nsIn K mainGlobals "_law_text" = some (some (.ref f31)))
    (l31 : K.lookup f31 = some ⟨oc31, od31, .func (PySem.W.fnOf "_law_text" "_law_text" (defArgs s__law_text) (defBody s__law_text) (defScope s__law_text) .none kV31 dc31 pm31 an31 cd31 ct31), sl31⟩) (e31 : PySem.W.codeIn K cd31 "_law_text" = true) (k31 : PySem.W.keepIn K (.ref f31) = true)
    {f32 : Addr} {od32 an32 : Option Addr} {sl32 : Array (Option Value)} {oc32 kV32 dc32 pm32 cd32 ct32 : Value}
    (a32 : PySem.W.nsIn K mainGlobals "_law_thing_at" = some (some (.ref f32)))
    (l32 : K.lookup f32 = some ⟨oc32, od32, .func (PySem.W.fnOf "_law_thing_at" "_law_thing_at" (defArgs s__law_thing_at) (defBody s__law_thing_at) (defScope s__law_thing_at) .none kV32 dc32 pm32 an32 cd32 ct32), sl32⟩) (e32 : PySem.W.codeIn K cd32 "_law_thing_at" = true) (k32 : PySem.W.keepIn K (.ref f32) = true)
    {f33 : Addr} {od33 an33 : Option Addr} {sl33 : Array (Option Value)} {oc33 kV33 dc33 pm33 cd33 ct33 : Value}
    (a33 : PySem.W.nsIn K mainGlobals "_law_row_at" = some (some (.ref f33)))
    (l33 : K.lookup f33 = some ⟨oc33, od33, .func (PySem.W.fnOf "_law_row_at" "_law_row_at" (defArgs s__law_row_at) (defBody s__law_row_at) (defScope s__law_row_at) .none kV33 dc33 pm33 an33 cd33 ct33), sl33⟩) (e33 : PySem.W.codeIn K cd33 "_law_row_at" = true) (k33 : PySem.W.keepIn K (.ref f33) = true)
    {f34 : Addr} {od34 an34 : Option Addr} {sl34 : Array (Option Value)} {oc34 kV34 dc34 pm34 cd34 ct34 : Value}
    (a34 : PySem.W.nsIn K mainGlobals "_law_count" = some (some (.ref f34)))
    (l34 : K.lookup f34 = some ⟨oc34, od34, .func (PySem.W.fnOf "_law_count" "_law_count" (defArgs s__law_count) (defBody s__law_count) (defScope s__law_count) .none kV34 dc34 pm34 an34 cd34 ct34), sl34⟩) (e34 : PySem.W.codeIn K cd34 "_law_count" = true) (k34 : PySem.W.keepIn K (.ref f34) = true)
    {f35 : Addr} {od35 an35 : Option Addr} {sl35 : Array (Option Value)} {oc35 kV35 dc35 pm35 cd35 ct35 : Value}
    (a35 : PySem.W.nsIn K mainGlobals "_law_spoilt" = some (some (.ref f35)))
    (l35 : K.lookup f35 = some ⟨oc35, od35, .func (PySem.W.fnOf "_law_spoilt" "_law_spoilt" (defArgs s__law_spoilt) (defBody s__law_spoilt) (defScope s__law_spoilt) .none kV35 dc35 pm35 an35 cd35 ct35), sl35⟩) (e35 : PySem.W.codeIn K cd35 "_law_spoilt" = true) (k35 : PySem.W.keepIn K (.ref f35) = true)
    {f36 : Addr} {od36 an36 : Option Addr} {sl36 : Array (Option Value)} {oc36 kV36 dc36 pm36 cd36 ct36 : Value}
    (a36 : PySem.W.nsIn K mainGlobals "_law_call_of" = some (some (.ref f36)))
    (l36 : K.lookup f36 = some ⟨oc36, od36, .func (PySem.W.fnOf "_law_call_of" "_law_call_of" (defArgs s__law_call_of) (defBody s__law_call_of) (defScope s__law_call_of) .none kV36 dc36 pm36 an36 cd36 ct36), sl36⟩) (e36 : PySem.W.codeIn K cd36 "_law_call_of" = true) (k36 : PySem.W.keepIn K (.ref f36) = true)
    {f37 : Addr} {od37 an37 : Option Addr} {sl37 : Array (Option Value)} {oc37 kV37 dc37 pm37 cd37 ct37 : Value}
    (a37 : PySem.W.nsIn K mainGlobals "_law_refused" = some (some (.ref f37)))
    (l37 : K.lookup f37 = some ⟨oc37, od37, .func (PySem.W.fnOf "_law_refused" "_law_refused" (defArgs s__law_refused) (defBody s__law_refused) (defScope s__law_refused) .none kV37 dc37 pm37 an37 cd37 ct37), sl37⟩) (e37 : PySem.W.codeIn K cd37 "_law_refused" = true) (k37 : PySem.W.keepIn K (.ref f37) = true)
    {f38 : Addr} {od38 an38 : Option Addr} {sl38 : Array (Option Value)} {oc38 kV38 dc38 pm38 cd38 ct38 : Value}
    (a38 : PySem.W.nsIn K mainGlobals "_law_read_right" = some (some (.ref f38)))
    (l38 : K.lookup f38 = some ⟨oc38, od38, .func (PySem.W.fnOf "_law_read_right" "_law_read_right" (defArgs s__law_read_right) (defBody s__law_read_right) (defScope s__law_read_right) .none kV38 dc38 pm38 an38 cd38 ct38), sl38⟩) (e38 : PySem.W.codeIn K cd38 "_law_read_right" = true) (k38 : PySem.W.keepIn K (.ref f38) = true)
    {f39 : Addr} {od39 an39 : Option Addr} {sl39 : Array (Option Value)} {oc39 kV39 dc39 pm39 cd39 ct39 : Value}
    (a39 : PySem.W.nsIn K mainGlobals "_law_right" = some (some (.ref f39)))
    (l39 : K.lookup f39 = some ⟨oc39, od39, .func (PySem.W.fnOf "_law_right" "_law_right" (defArgs s__law_right) (defBody s__law_right) (defScope s__law_right) .none kV39 dc39 pm39 an39 cd39 ct39), sl39⟩) (e39 : PySem.W.codeIn K cd39 "_law_right" = true) (k39 : PySem.W.keepIn K (.ref f39) = true)
    {f40 : Addr} {od40 an40 : Option Addr} {sl40 : Array (Option Value)} {oc40 kV40 dc40 pm40 cd40 ct40 : Value}
    (a40 : PySem.W.nsIn K mainGlobals "law" = some (some (.ref f40)))
    (l40 : K.lookup f40 = some ⟨oc40, od40, .func (PySem.W.fnOf "law" "law" (defArgs s_law) (defBody s_law) (defScope s_law) .none kV40 dc40 pm40 an40 cd40 ct40), sl40⟩) (e40 : PySem.W.codeIn K cd40 "law" = true) (k40 : PySem.W.keepIn K (.ref f40) = true)
    (z_ValueError : PySem.W.nsIn K mainGlobals "ValueError" = some none)
    (z_all : PySem.W.nsIn K mainGlobals "all" = some none)
    (z_bool : PySem.W.nsIn K mainGlobals "bool" = some none)
    (z_enumerate : PySem.W.nsIn K mainGlobals "enumerate" = some none)
    (z_int : PySem.W.nsIn K mainGlobals "int" = some none)
    (z_isinstance : PySem.W.nsIn K mainGlobals "isinstance" = some none)
    (z_len : PySem.W.nsIn K mainGlobals "len" = some none)
    (z_max : PySem.W.nsIn K mainGlobals "max" = some none)
    (z_min : PySem.W.nsIn K mainGlobals "min" = some none)
    (z_range : PySem.W.nsIn K mainGlobals "range" = some none)
    (z_repr : PySem.W.nsIn K mainGlobals "repr" = some none)
    (z_str : PySem.W.nsIn K mainGlobals "str" = some none)
    (z_sum : PySem.W.nsIn K mainGlobals "sum" = some none)
    (z_tuple : PySem.W.nsIn K mainGlobals "tuple" = some none)
    {gt_LETTERS : Tok} (y_LETTERS : PySem.W.nsIn K mainGlobals "LETTERS" = some (some (.str (PySem.Str.ofString "abcdefghijklmnopqrstuvwxyz") gt_LETTERS)))
    {gt_GREAT_LETTERS : Tok} (y_GREAT_LETTERS : PySem.W.nsIn K mainGlobals "GREAT_LETTERS" = some (some (.str (PySem.Str.ofString "ABCDEFGHIJKLMNOPQRSTUVWXYZ") gt_GREAT_LETTERS)))
    {gt_MOST_LETTERS : Tok} (y_MOST_LETTERS : PySem.W.nsIn K mainGlobals "MOST_LETTERS" = some (some (.int (6) gt_MOST_LETTERS)))
    {gt_MOST_NUMBER : Tok} (y_MOST_NUMBER : PySem.W.nsIn K mainGlobals "MOST_NUMBER" = some (some (.int (1000000000) gt_MOST_NUMBER)))
    {ga_TAKEN_WORDS : Addr} {go_TAKEN_WORDS : Obj} {gi_TAKEN_WORDS : Array Value} {gn_TAKEN_WORDS : Nat} (y_TAKEN_WORDS : PySem.W.nsIn K mainGlobals "TAKEN_WORDS" = some (some (.ref ga_TAKEN_WORDS))) (yl_TAKEN_WORDS : K.lookup ga_TAKEN_WORDS = some go_TAKEN_WORDS) (yc_TAKEN_WORDS : go_TAKEN_WORDS.cls = .type "tuple") (yd_TAKEN_WORDS : go_TAKEN_WORDS.data = .seq gi_TAKEN_WORDS gn_TAKEN_WORDS) (yz_TAKEN_WORDS : gi_TAKEN_WORDS.size ≤ sizeLine) (yv_TAKEN_WORDS : ∃ vs, Vals vs gi_TAKEN_WORDS.toList ∧ ∀ H, Ats K H vs [(.str (PySem.Str.ofString "else")), (.str (PySem.Str.ofString "fun")), (.str (PySem.Str.ofString "if")), (.str (PySem.Str.ofString "in")), (.str (PySem.Str.ofString "let")), (.str (PySem.Str.ofString "then"))])
    {gt_FIGURES : Tok} (y_FIGURES : PySem.W.nsIn K mainGlobals "FIGURES" = some (some (.str (PySem.Str.ofString "0123456789") gt_FIGURES)))
    {gt_MOST_FIGURES : Tok} (y_MOST_FIGURES : PySem.W.nsIn K mainGlobals "MOST_FIGURES" = some (some (.int (10) gt_MOST_FIGURES)))
    {gt_MOST_POINTS : Tok} (y_MOST_POINTS : PySem.W.nsIn K mainGlobals "MOST_POINTS" = some (some (.int (60) gt_MOST_POINTS)))
    {gt_MOST_PARTS : Tok} (y_MOST_PARTS : PySem.W.nsIn K mainGlobals "MOST_PARTS" = some (some (.int (4) gt_MOST_PARTS)))
    : ∃ fd : FuncData, (∀ (s : Shared) (v : Value), BindsTo s fd ⟨[v], []⟩ [("_law_script", v)]) ∧ ∀ base : Heap, K.In base → base.Ns mainGlobals mg → FnOkG l.prog w K mg base (L2.CX l.prog w) 140 fa fd ["_law_script"] (SpM K mg (m_law ⟨C_ThingSigns⟩)) := by
  have e := hfa.symm.trans (PySem.W.mg_of X G a40)
  cases e
  have T : Facts K mg ⟨C_ThingSigns⟩ := { k_ThingSigns := ⟨⟨xp_ThingSigns, xh_ThingSigns, xo_ThingSigns, xs_ThingSigns⟩, xm_ThingSigns, xk_ThingSigns, PySem.W.mg_of X G xa_ThingSigns⟩, q_ThingSigns_signs := xn_ThingSigns_signs, q_ThingSigns_here := xn_ThingSigns_here, n_ValueError := PySem.W.mg_none_of X G z_ValueError, n_all := PySem.W.mg_none_of X G z_all, n_bool := PySem.W.mg_none_of X G z_bool, n_enumerate := PySem.W.mg_none_of X G z_enumerate, n_int := PySem.W.mg_none_of X G z_int, n_isinstance := PySem.W.mg_none_of X G z_isinstance, n_len := PySem.W.mg_none_of X G z_len, n_max := PySem.W.mg_none_of X G z_max, n_min := PySem.W.mg_none_of X G z_min, n_range := PySem.W.mg_none_of X G z_range, n_repr := PySem.W.mg_none_of X G z_repr, n_str := PySem.W.mg_none_of X G z_str, n_sum := PySem.W.mg_none_of X G z_sum, n_tuple := PySem.W.mg_none_of X G z_tuple, x_all := allB_ok xz_all, xt_Clash := xt_own (PySem.W.mg_of X G xa_Clash) xz_tClash, xt_NoCall := xt_own (PySem.W.mg_of X G xa_NoCall) xz_tNoCall, xt_NoProgram := xt_own (PySem.W.mg_of X G xa_NoProgram) xz_tNoProgram, xt_NoText := xt_own (PySem.W.mg_of X G xa_NoText) xz_tNoText, xt_RuleError := xt_own (PySem.W.mg_of X G xa_RuleError) xz_tRuleError, xt_ValueError := xt_bi (PySem.W.mg_none_of X G z_ValueError) boot_ValueError (by decide) xz_tValueError, xf_row := xfieldB_ok xz_frow, xr_RuleError := excR_mk (PySem.W.mg_of X G xa_RuleError) xr1_RuleError xr2_RuleError xr3_RuleError, u_LETTERS := _, v_LETTERS := .str (PySem.Str.ofString "abcdefghijklmnopqrstuvwxyz"), g_LETTERS := PySem.W.mg_of X G y_LETTERS, r_LETTERS := ⟨_, rfl⟩, a_LETTERS := fun H => .str _, u_GREAT_LETTERS := _, v_GREAT_LETTERS := .str (PySem.Str.ofString "ABCDEFGHIJKLMNOPQRSTUVWXYZ"), g_GREAT_LETTERS := PySem.W.mg_of X G y_GREAT_LETTERS, r_GREAT_LETTERS := ⟨_, rfl⟩, a_GREAT_LETTERS := fun H => .str _, u_MOST_LETTERS := _, v_MOST_LETTERS := .int (6), g_MOST_LETTERS := PySem.W.mg_of X G y_MOST_LETTERS, r_MOST_LETTERS := ⟨_, rfl⟩, a_MOST_LETTERS := fun H => .int _, u_MOST_NUMBER := _, v_MOST_NUMBER := .int (1000000000), g_MOST_NUMBER := PySem.W.mg_of X G y_MOST_NUMBER, r_MOST_NUMBER := ⟨_, rfl⟩, a_MOST_NUMBER := fun H => .int _, u_TAKEN_WORDS := .ref ga_TAKEN_WORDS, v_TAKEN_WORDS := .ref ga_TAKEN_WORDS, g_TAKEN_WORDS := PySem.W.mg_of X G y_TAKEN_WORDS, r_TAKEN_WORDS := rfl, a_TAKEN_WORDS := fun H => let ⟨vs, h1, h2⟩ := yv_TAKEN_WORDS; .tup (.inr ⟨go_TAKEN_WORDS, gi_TAKEN_WORDS, gn_TAKEN_WORDS, yl_TAKEN_WORDS, yc_TAKEN_WORDS, yd_TAKEN_WORDS, yz_TAKEN_WORDS, h1⟩) (h2 H), u_FIGURES := _, v_FIGURES := .str (PySem.Str.ofString "0123456789"), g_FIGURES := PySem.W.mg_of X G y_FIGURES, r_FIGURES := ⟨_, rfl⟩, a_FIGURES := fun H => .str _, u_MOST_FIGURES := _, v_MOST_FIGURES := .int (10), g_MOST_FIGURES := PySem.W.mg_of X G y_MOST_FIGURES, r_MOST_FIGURES := ⟨_, rfl⟩, a_MOST_FIGURES := fun H => .int _, u_MOST_POINTS := _, v_MOST_POINTS := .int (60), g_MOST_POINTS := PySem.W.mg_of X G y_MOST_POINTS, r_MOST_POINTS := ⟨_, rfl⟩, a_MOST_POINTS := fun H => .int _, u_MOST_PARTS := _, v_MOST_PARTS := .int (4), g_MOST_PARTS := PySem.W.mg_of X G y_MOST_PARTS, r_MOST_PARTS := ⟨_, rfl⟩, a_MOST_PARTS := fun H => .int _ }
  have F0 := fun_mk (st := s_NoText___init__) l0 e0 k0
  have b0 := F0.binds (ps := ["self", "row"]) fun _ _ _ _ _ _ us hl => match us, hl with | [_, _], _ => rfl
  have F1 := fun_mk (st := s_is_number) l1 e1 k1
  have b1 := F1.binds (ps := ["thing", "least", "most"]) fun _ _ _ _ _ _ us hl => match us, hl with | [_, _, _], _ => rfl
  have F2 := fun_mk (st := s_is_worth) l2 e2 k2
  have b2 := F2.binds (ps := ["thing"]) fun _ _ _ _ _ _ us hl => match us, hl with | [_], _ => rfl
  have F3 := fun_mk (st := s_all_small) l3 e3 k3
  have b3 := F3.binds (ps := ["text"]) fun _ _ _ _ _ _ us hl => match us, hl with | [_], _ => rfl
  have F4 := fun_mk (st := s_is_name) l4 e4 k4
  have b4 := F4.binds (ps := ["thing"]) fun _ _ _ _ _ _ us hl => match us, hl with | [_], _ => rfl
  have F5 := fun_mk (st := s_is_mark) l5 e5 k5
  have b5 := F5.binds (ps := ["thing"]) fun _ _ _ _ _ _ us hl => match us, hl with | [_], _ => rfl
  have F6 := fun_mk (st := s_ThingSigns___init__) l6 e6 k6
  have b6 := F6.binds (ps := ["self", "text"]) fun _ _ _ _ _ _ us hl => match us, hl with | [_, _], _ => rfl
  have F7 := fun_mk (st := s_ThingSigns_coming) l7 e7 k7
  have b7 := F7.binds (ps := ["self"]) fun _ _ _ _ _ _ us hl => match us, hl with | [_], _ => rfl
  have F8 := fun_mk (st := s_ThingSigns_is_over) l8 e8 k8
  have b8 := F8.binds (ps := ["self"]) fun _ _ _ _ _ _ us hl => match us, hl with | [_], _ => rfl
  have F9 := fun_mk (st := s_ThingSigns_take_all) l9 e9 k9
  have b9 := F9.binds (ps := ["self", "wanted"]) fun _ _ _ _ _ _ us hl => match us, hl with | [_, _], _ => rfl
  have F10 := fun_mk (st := s_ThingSigns_has_text) l10 e10 k10
  have b10 := F10.binds (ps := ["self", "wanted"]) fun _ _ _ _ _ _ us hl => match us, hl with | [_, _], _ => rfl
  have F11 := fun_mk (st := s_ThingSigns_take_text) l11 e11 k11
  have b11 := F11.binds (ps := ["self", "wanted"]) fun _ _ _ _ _ _ us hl => match us, hl with | [_, _], _ => rfl
  have F12 := fun_mk (st := s_ThingSigns_take_number) l12 e12 k12
  have b12 := F12.binds (ps := ["self"]) fun _ _ _ _ _ _ us hl => match us, hl with | [_], _ => rfl
  have F13 := fun_mk (st := s_ThingSigns_take_mark) l13 e13 k13
  have b13 := F13.binds (ps := ["self"]) fun _ _ _ _ _ _ us hl => match us, hl with | [_], _ => rfl
  have F14 := fun_mk (st := s_ThingSigns_take_row) l14 e14 k14
  have b14 := F14.binds (ps := ["self", "deep"]) fun _ _ _ _ _ _ us hl => match us, hl with | [_, _], _ => rfl
  have F15 := fun_mk (st := s_is_row) l15 e15 k15
  have b15 := F15.binds (ps := ["thing"]) fun _ _ _ _ _ _ us hl => match us, hl with | [_], _ => rfl
  have F16 := fun_mk (st := s_is_thing) l16 e16 k16
  have b16 := F16.binds (ps := ["thing"]) fun _ _ _ _ _ _ us hl => match us, hl with | [_], _ => rfl
  have F17 := fun_mk (st := s_is_call) l17 e17 k17
  have b17 := F17.binds (ps := ["thing"]) fun _ _ _ _ _ _ us hl => match us, hl with | [_], _ => rfl
  have F18 := fun_mk (st := s_row_text) l18 e18 k18
  have b18 := F18.binds (ps := ["things"]) fun _ _ _ _ _ _ us hl => match us, hl with | [_], _ => rfl
  have F19 := fun_mk (st := s_thing_text) l19 e19 k19
  have b19 := F19.binds (ps := ["thing"]) fun _ _ _ _ _ _ us hl => match us, hl with | [_], _ => rfl
  have F20 := fun_mk (st := s_call_text) l20 e20 k20
  have b20 := F20.binds (ps := ["call"]) fun _ _ _ _ _ _ us hl => match us, hl with | [_], _ => rfl
  have F21 := fun_mk (st := s_ThingSigns_take_one) l21 e21 k21
  have b21 := F21.binds (ps := ["self", "deep"]) fun _ _ _ _ _ _ us hl => match us, hl with | [_, _], _ => rfl
  have F22 := fun_mk (st := s_ThingSigns_take_call) l22 e22 k22
  have b22 := F22.binds (ps := ["self"]) fun _ _ _ _ _ _ us hl => match us, hl with | [_], _ => rfl
  have F23 := fun_mk (st := s_read_call) l23 e23 k23
  have b23 := F23.binds (ps := ["text"]) fun _ _ _ _ _ _ us hl => match us, hl with | [_], _ => rfl
  have F24 := fun_mk (st := s__law_begun) l24 e24 k24
  have b24 := F24.binds (ps := ["_law_cell", "_law_k"]) fun _ _ _ _ _ _ us hl => match us, hl with | [_, _], _ => rfl
  have F25 := fun_mk (st := s__law_next) l25 e25 k25
  have b25 := F25.binds (ps := ["_law_draw", "_law_size"]) fun _ _ _ _ _ _ us hl => match us, hl with | [_, _], _ => rfl
  have F26 := fun_mk (st := s__law_pick) l26 e26 k26
  have b26 := F26.binds (ps := ["_law_draw", "_law_some"]) fun _ _ _ _ _ _ us hl => match us, hl with | [_, _], _ => rfl
  have F27 := fun_mk (st := s__law_number) l27 e27 k27
  have b27 := F27.binds (ps := ["_law_draw"]) fun _ _ _ _ _ _ us hl => match us, hl with | [_], _ => rfl
  have F28 := fun_mk (st := s__law_mark) l28 e28 k28
  have b28 := F28.binds (ps := ["_law_draw"]) fun _ _ _ _ _ _ us hl => match us, hl with | [_], _ => rfl
  have F29 := fun_mk (st := s__law_of_points) l29 e29 k29
  have b29 := F29.binds (ps := ["_law_draw", "_law_many"]) fun _ _ _ _ _ _ us hl => match us, hl with | [_, _], _ => rfl
  have F30 := fun_mk (st := s__law_mark_alone) l30 e30 k30
  have b30 := F30.binds (ps := ["_law_draw"]) fun _ _ _ _ _ _ us hl => match us, hl with | [_], _ => rfl
  have F31 := fun_mk (st := s__law_text) l31 e31 k31
  have b31 := F31.binds (ps := ["_law_thing"]) fun _ _ _ _ _ _ us hl => match us, hl with | [_], _ => rfl
  have F32 := fun_mk (st := s__law_thing_at) l32 e32 k32
  have b32 := F32.binds (ps := ["_law_text_here", "_law_at", "_law_deep"]) fun _ _ _ _ _ _ us hl => match us, hl with | [_, _, _], _ => rfl
  have F33 := fun_mk (st := s__law_row_at) l33 e33 k33
  have b33 := F33.binds (ps := ["_law_text_here", "_law_at", "_law_deep"]) fun _ _ _ _ _ _ us hl => match us, hl with | [_, _, _], _ => rfl
  have F34 := fun_mk (st := s__law_count) l34 e34 k34
  have b34 := F34.binds (ps := ["_law_thing"]) fun _ _ _ _ _ _ us hl => match us, hl with | [_], _ => rfl
  have F35 := fun_mk (st := s__law_spoilt) l35 e35 k35
  have b35 := F35.binds (ps := ["_law_draw", "_law_text_here"]) fun _ _ _ _ _ _ us hl => match us, hl with | [_, _], _ => rfl
  have F36 := fun_mk (st := s__law_call_of) l36 e36 k36
  have b36 := F36.binds (ps := ["_law_text_here"]) fun _ _ _ _ _ _ us hl => match us, hl with | [_], _ => rfl
  have F37 := fun_mk (st := s__law_refused) l37 e37 k37
  have b37 := F37.binds (ps := ["_law_text_here"]) fun _ _ _ _ _ _ us hl => match us, hl with | [_], _ => rfl
  have F38 := fun_mk (st := s__law_read_right) l38 e38 k38
  have b38 := F38.binds (ps := ["_law_text_here"]) fun _ _ _ _ _ _ us hl => match us, hl with | [_], _ => rfl
  have F39 := fun_mk (st := s__law_right) l39 e39 k39
  have b39 := F39.binds (ps := ["_law_cell", "_law_k"]) fun _ _ _ _ _ _ us hl => match us, hl with | [_, _], _ => rfl
  have F40 := fun_mk (st := s_law) l40 e40 k40
  have b40 := F40.binds (ps := ["_law_script"]) fun _ _ _ _ _ _ us hl => match us, hl with | [_], _ => rfl
  exact ⟨_, fun s v => .of_eq rfl, fun base _ _ => all_ok T F0 (excAt_mk xa_NoText (PySem.W.mg_of X G xa_NoText) xz_oNoText a0 i0 xn0) b0 F1 (PySem.W.mg_of X G a1) b1 F2 (PySem.W.mg_of X G a2) b2 F3 (PySem.W.mg_of X G a3) b3 F4 (PySem.W.mg_of X G a4) b4 F5 (PySem.W.mg_of X G a5) b5 F6 ⟨a6, i6, k6⟩ b6 F7 ⟨a7, i7, k7⟩ b7 F8 ⟨a8, i8, k8⟩ b8 F9 ⟨a9, i9, k9⟩ b9 F10 ⟨a10, i10, k10⟩ b10 F11 ⟨a11, i11, k11⟩ b11 F12 ⟨a12, i12, k12⟩ b12 F13 ⟨a13, i13, k13⟩ b13 F14 ⟨a14, i14, k14⟩ b14 F15 (PySem.W.mg_of X G a15) b15 F16 (PySem.W.mg_of X G a16) b16 F17 (PySem.W.mg_of X G a17) b17 F18 (PySem.W.mg_of X G a18) b18 F19 (PySem.W.mg_of X G a19) b19 F20 (PySem.W.mg_of X G a20) b20 F21 ⟨a21, i21, k21⟩ b21 F22 ⟨a22, i22, k22⟩ b22 F23 (PySem.W.mg_of X G a23) b23 F24 (PySem.W.mg_of X G a24) b24 F25 (PySem.W.mg_of X G a25) b25 F26 (PySem.W.mg_of X G a26) b26 F27 (PySem.W.mg_of X G a27) b27 F28 (PySem.W.mg_of X G a28) b28 F29 (PySem.W.mg_of X G a29) b29 F30 (PySem.W.mg_of X G a30) b30 F31 (PySem.W.mg_of X G a31) b31 F32 (PySem.W.mg_of X G a32) b32 F33 (PySem.W.mg_of X G a33) b33 F34 (PySem.W.mg_of X G a34) b34 F35 (PySem.W.mg_of X G a35) b35 F36 (PySem.W.mg_of X G a36) b36 F37 (PySem.W.mg_of X G a37) b37 F38 (PySem.W.mg_of X G a38) b38 F39 (PySem.W.mg_of X G a39) b39 F40 (PySem.W.mg_of X G a40) b40⟩
end K04
open PySem PySem.W PyProof.Rows
set_option maxRecDepth 100000 in
set_option maxHeartbeats 0 in
theorem PySem.Challenge.cw_rulefault_k04_texts_of_calls_holds : PySem.Challenge.rw_rulefault_k04_texts_of_calls.Holds := by
  w_on; o_law; k_head; (case hw => w_witness2)
  k_fill
  refine Gm.walk_ofG (l := PySem.Challenge.rw_rulefault_k04_texts_of_calls) (n := 63) (k := 140) (x := "_law_script") (CX := fun w => L2.CX (PySem.Challenge.rw_rulefault_k04_texts_of_calls).prog w) (sp := fun w => Gm.spLaw _) rfl (by decide) rfl ⟨rfl, by decide, by decide⟩ (fun w h Y => PySem.W.kIn_of Y) ?F (fun _ _ a ns hl hO hS => Gm.spLaw_of hl hO hS) Gm.noCX
  case F =>
    intro w mg fa h KX G hmg
    refine' Gm.law_impG (m := K04.m_law _) (K04.law_true _) (K04.all_mk KX G hmg ?xa_ThingSigns ?xp_ThingSigns ?xh_ThingSigns ?xo_ThingSigns ?xs_ThingSigns ?xm_ThingSigns ?xk_ThingSigns ?xn_ThingSigns_signs ?xn_ThingSigns_here ?xa_Clash ?xa_NoCall ?xa_NoProgram ?xa_NoText ?xa_RuleError ?xz_all ?xz_tClash ?xz_tNoCall ?xz_tNoProgram ?xz_tNoText ?xz_tRuleError ?xz_tValueError ?xz_frow ?xr1_RuleError ?xr2_RuleError ?xr3_RuleError ?xz_oNoText ?a0 ?i0 ?xn0 ?l0 ?e0 ?k0 ?a1 ?l1 ?e1 ?k1 ?a2 ?l2 ?e2 ?k2 ?a3 ?l3 ?e3 ?k3 ?a4 ?l4 ?e4 ?k4 ?a5 ?l5 ?e5 ?k5 ?a6 ?i6 ?l6 ?e6 ?k6 ?a7 ?i7 ?l7 ?e7 ?k7 ?a8 ?i8 ?l8 ?e8 ?k8 ?a9 ?i9 ?l9 ?e9 ?k9 ?a10 ?i10 ?l10 ?e10 ?k10 ?a11 ?i11 ?l11 ?e11 ?k11 ?a12 ?i12 ?l12 ?e12 ?k12 ?a13 ?i13 ?l13 ?e13 ?k13 ?a14 ?i14 ?l14 ?e14 ?k14 ?a15 ?l15 ?e15 ?k15 ?a16 ?l16 ?e16 ?k16 ?a17 ?l17 ?e17 ?k17 ?a18 ?l18 ?e18 ?k18 ?a19 ?l19 ?e19 ?k19 ?a20 ?l20 ?e20 ?k20 ?a21 ?i21 ?l21 ?e21 ?k21 ?a22 ?i22 ?l22 ?e22 ?k22 ?a23 ?l23 ?e23 ?k23 ?a24 ?l24 ?e24 ?k24 ?a25 ?l25 ?e25 ?k25 ?a26 ?l26 ?e26 ?k26 ?a27 ?l27 ?e27 ?k27 ?a28 ?l28 ?e28 ?k28 ?a29 ?l29 ?e29 ?k29 ?a30 ?l30 ?e30 ?k30 ?a31 ?l31 ?e31 ?k31 ?a32 ?l32 ?e32 ?k32 ?a33 ?l33 ?e33 ?k33 ?a34 ?l34 ?e34 ?k34 ?a35 ?l35 ?e35 ?k35 ?a36 ?l36 ?e36 ?k36 ?a37 ?l37 ?e37 ?k37 ?a38 ?l38 ?e38 ?k38 ?a39 ?l39 ?e39 ?k39 ?a40 ?l40 ?e40 ?k40 ?z_ValueError ?z_all ?z_bool ?z_enumerate ?z_int ?z_isinstance ?z_len ?z_max ?z_min ?z_range ?z_repr ?z_str ?z_sum ?z_tuple ?y_LETTERS ?y_GREAT_LETTERS ?y_MOST_LETTERS ?y_MOST_NUMBER ?y_TAKEN_WORDS ?yl_TAKEN_WORDS ?yc_TAKEN_WORDS ?yd_TAKEN_WORDS ?yz_TAKEN_WORDS ?yv_TAKEN_WORDS ?y_FIGURES ?y_MOST_FIGURES ?y_MOST_POINTS ?y_MOST_PARTS)
    (case xa_ThingSigns => k_is)
    (case xp_ThingSigns => k_is)
    (case xh_ThingSigns => k_is)
    (case xo_ThingSigns => k_is)
    (case xs_ThingSigns => k_is)
    (case xm_ThingSigns => k_is)
    (case xk_ThingSigns => k_is)
    (case xn_ThingSigns_signs => k_is)
    (case xn_ThingSigns_here => k_is)
    (case xa_Clash => k_is)
    (case xa_NoCall => k_is)
    (case xa_NoProgram => k_is)
    (case xa_NoText => k_is)
    (case xa_RuleError => k_is)
    (case xz_all => kernel_rfl)
    (case xz_tClash => kernel_rfl)
    (case xz_tNoCall => kernel_rfl)
    (case xz_tNoProgram => kernel_rfl)
    (case xz_tNoText => kernel_rfl)
    (case xz_tRuleError => kernel_rfl)
    (case xz_tValueError => kernel_rfl)
    (case xz_frow => kernel_rfl)
    (case xr1_RuleError => k_is)
    (case xr2_RuleError => k_is)
    (case xr3_RuleError => k_is)
    (case xz_oNoText => kernel_rfl)
    (case a0 => k_is)
    (case i0 => k_is)
    (case xn0 => k_is)
    (case l0 => k_is)
    (case e0 => k_is)
    (case k0 => k_is)
    (case a1 => k_is)
    (case l1 => k_is)
    (case e1 => k_is)
    (case k1 => k_is)
    (case a2 => k_is)
    (case l2 => k_is)
    (case e2 => k_is)
    (case k2 => k_is)
    (case a3 => k_is)
    (case l3 => k_is)
    (case e3 => k_is)
    (case k3 => k_is)
    (case a4 => k_is)
    (case l4 => k_is)
    (case e4 => k_is)
    (case k4 => k_is)
    (case a5 => k_is)
    (case l5 => k_is)
    (case e5 => k_is)
    (case k5 => k_is)
    (case a6 => k_is)
    (case i6 => k_is)
    (case l6 => k_is)
    (case e6 => k_is)
    (case k6 => k_is)
    (case a7 => k_is)
    (case i7 => k_is)
    (case l7 => k_is)
    (case e7 => k_is)
    (case k7 => k_is)
    (case a8 => k_is)
    (case i8 => k_is)
    (case l8 => k_is)
    (case e8 => k_is)
    (case k8 => k_is)
    (case a9 => k_is)
    (case i9 => k_is)
    (case l9 => k_is)
    (case e9 => k_is)
    (case k9 => k_is)
    (case a10 => k_is)
    (case i10 => k_is)
    (case l10 => k_is)
    (case e10 => k_is)
    (case k10 => k_is)
    (case a11 => k_is)
    (case i11 => k_is)
    (case l11 => k_is)
    (case e11 => k_is)
    (case k11 => k_is)
    (case a12 => k_is)
    (case i12 => k_is)
    (case l12 => k_is)
    (case e12 => k_is)
    (case k12 => k_is)
    (case a13 => k_is)
    (case i13 => k_is)
    (case l13 => k_is)
    (case e13 => k_is)
    (case k13 => k_is)
    (case a14 => k_is)
    (case i14 => k_is)
    (case l14 => k_is)
    (case e14 => k_is)
    (case k14 => k_is)
    (case a15 => k_is)
    (case l15 => k_is)
    (case e15 => k_is)
    (case k15 => k_is)
    (case a16 => k_is)
    (case l16 => k_is)
    (case e16 => k_is)
    (case k16 => k_is)
    (case a17 => k_is)
    (case l17 => k_is)
    (case e17 => k_is)
    (case k17 => k_is)
    (case a18 => k_is)
    (case l18 => k_is)
    (case e18 => k_is)
    (case k18 => k_is)
    (case a19 => k_is)
    (case l19 => k_is)
    (case e19 => k_is)
    (case k19 => k_is)
    (case a20 => k_is)
    (case l20 => k_is)
    (case e20 => k_is)
    (case k20 => k_is)
    (case a21 => k_is)
    (case i21 => k_is)
    (case l21 => k_is)
    (case e21 => k_is)
    (case k21 => k_is)
    (case a22 => k_is)
    (case i22 => k_is)
    (case l22 => k_is)
    (case e22 => k_is)
    (case k22 => k_is)
    (case a23 => k_is)
    (case l23 => k_is)
    (case e23 => k_is)
    (case k23 => k_is)
    (case a24 => k_is)
    (case l24 => k_is)
    (case e24 => k_is)
    (case k24 => k_is)
    (case a25 => k_is)
    (case l25 => k_is)
    (case e25 => k_is)
    (case k25 => k_is)
    (case a26 => k_is)
    (case l26 => k_is)
    (case e26 => k_is)
    (case k26 => k_is)
    (case a27 => k_is)
    (case l27 => k_is)
    (case e27 => k_is)
    (case k27 => k_is)
    (case a28 => k_is)
    (case l28 => k_is)
    (case e28 => k_is)
    (case k28 => k_is)
    (case a29 => k_is)
    (case l29 => k_is)
    (case e29 => k_is)
    (case k29 => k_is)
    (case a30 => k_is)
    (case l30 => k_is)
    (case e30 => k_is)
    (case k30 => k_is)
    (case a31 => k_is)
    (case l31 => k_is)
    (case e31 => k_is)
    (case k31 => k_is)
    (case a32 => k_is)
    (case l32 => k_is)
    (case e32 => k_is)
    (case k32 => k_is)
    (case a33 => k_is)
    (case l33 => k_is)
    (case e33 => k_is)
    (case k33 => k_is)
    (case a34 => k_is)
    (case l34 => k_is)
    (case e34 => k_is)
    (case k34 => k_is)
    (case a35 => k_is)
    (case l35 => k_is)
    (case e35 => k_is)
    (case k35 => k_is)
    (case a36 => k_is)
    (case l36 => k_is)
    (case e36 => k_is)
    (case k36 => k_is)
    (case a37 => k_is)
    (case l37 => k_is)
    (case e37 => k_is)
    (case k37 => k_is)
    (case a38 => k_is)
    (case l38 => k_is)
    (case e38 => k_is)
    (case k38 => k_is)
    (case a39 => k_is)
    (case l39 => k_is)
    (case e39 => k_is)
    (case k39 => k_is)
    (case a40 => k_is)
    (case l40 => k_is)
    (case e40 => k_is)
    (case k40 => k_is)
    (case z_ValueError => k_is)
    (case z_all => k_is)
    (case z_bool => k_is)
    (case z_enumerate => k_is)
    (case z_int => k_is)
    (case z_isinstance => k_is)
    (case z_len => k_is)
    (case z_max => k_is)
    (case z_min => k_is)
    (case z_range => k_is)
    (case z_repr => k_is)
    (case z_str => k_is)
    (case z_sum => k_is)
    (case z_tuple => k_is)
    (case y_LETTERS => k_is)
    (case y_GREAT_LETTERS => k_is)
    (case y_MOST_LETTERS => k_is)
    (case y_MOST_NUMBER => k_is)
    (case y_TAKEN_WORDS => k_is)
    (case yl_TAKEN_WORDS => k_is)
    (case yc_TAKEN_WORDS => rfl)
    (case yd_TAKEN_WORDS => rfl)
    (case yz_TAKEN_WORDS => decide)
    (case yv_TAKEN_WORDS => exact ⟨[.str (PySem.Str.ofString "else"), .str (PySem.Str.ofString "fun"), .str (PySem.Str.ofString "if"), .str (PySem.Str.ofString "in"), .str (PySem.Str.ofString "let"), .str (PySem.Str.ofString "then")], (.cons ⟨_, rfl⟩ (.cons ⟨_, rfl⟩ (.cons ⟨_, rfl⟩ (.cons ⟨_, rfl⟩ (.cons ⟨_, rfl⟩ (.cons ⟨_, rfl⟩ .nil)))))), fun _ => (.cons (.str _) (.cons (.str _) (.cons (.str _) (.cons (.str _) (.cons (.str _) (.cons (.str _) .nil))))))⟩)
    (case y_FIGURES => k_is)
    (case y_MOST_FIGURES => k_is)
    (case y_MOST_POINTS => k_is)
    (case y_MOST_PARTS => k_is)
