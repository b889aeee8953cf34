import PyProof.Rows.All
import Wide.All
import OpenK.AllK
import Wide.FinOn
import HandS.ForMost
import HandS.Exc
import HandS.Defaults
import HandS.Deep
import HandS.IsInst
import HandS.OwnEq
import HandS.Flow
import HandS.Style
import HandS.FStr
import HandS.TupAny
import HandS.TupLe
import HandS.Rev
import HandS.Strs
import HandS.ExcInit
import HandS.ExcField
import KE.KSuper
import HandS.Star
import KE.KRevSl
import HandS.Iter
import HandS.Walk
import KE.GoesEnum
import KE.KCallOwn
import PyProof.InstNe
import KE.KExcSuper
import HandS.ExcSuper
import HandS.TryMany
import HandS.HeadHook1
import HandS.HeadHook2
import HandS.Head0
import HandS.Head1
import HandS.Head2
import HandS.HeadEnd
import PyProof.StrLawsIn
import PyProof.Rows.RegFStrParts
import HandS.Text
import PyProof.StrLawsChain
import PyProof.StrLawsTight
import KE.KStateDown
import PySem.Challenge.RW_rowsfirst_k10_steps_made
set_option Elab.async false
set_option linter.all false
/-! Fa: plain values, stores, outcomes; how they stand in an abstract heap. -/
namespace RF
open PySem
/-- a plain value: what does not change is a tree -/
inductive PV where
  | non | bl (b : Bool) | int (i : Int) | str (x : Str)
  | tup (xs : List PV) | lst (xs : List PV)
  | dct (ks vs : List PV)
  | obj (c : Nat) (xs : List PV)
  | exc (c : Nat) (xs : List PV)
  | ref (n : Nat)
  | scr (xs : List PV)
  deriving Inhabited
/-- what stands in the store -/
inductive SO where
  | lst (xs : List PV)
  | inst (c : Nat) (xs : List PV)
  | dct (ks vs : List PV)
  deriving Inhabited
abbrev Store := List SO
/-- how something ends -/
inductive Out (α : Type) where
  | ok (a : α) (S : Store)
  | exc (e : PV) (S : Store)
  | bad
namespace Out
@[inline] def bind {α β : Type} (o : Out α) (f : α → Store → Out β) : Out β := match o with
  | .ok a S => f a S
  | .exc e S => .exc e S
  | .bad => .bad
@[simp] theorem bind_ok {α β : Type} (a : α) (S : Store) (f : α → Store → Out β) : (Out.ok a S).bind f = f a S := rfl
@[simp] theorem bind_exc {α β : Type} (a : PV) (S : Store) (f : α → Store → Out β) : (Out.exc a S).bind f = .exc a S := rfl
@[simp] theorem bind_bad {α β : Type} (f : α → Store → Out β) : (Out.bad : Out α).bind f = .bad := rfl
end Out
mutual
/-- no reference into the store within -/
def PV.pure : PV → Bool
  | .ref _ => false
  | .tup xs => PV.pures xs
  | .lst xs => PV.pures xs
  | .dct ks vs => PV.pures ks && PV.pures vs
  | .obj _ xs => PV.pures xs
  | .exc _ _ => false
  | .scr xs => PV.pures xs
  | _ => true
def PV.pures : List PV → Bool
  | [] => true
  | x :: xs => x.pure && PV.pures xs
end
@[simp] theorem pures_append (xs ys : List PV) : PV.pures (xs ++ ys) = (PV.pures xs && PV.pures ys) := by
  induction xs with
  | nil => rfl
  | cons x xs ih => simp [PV.pures, ih, Bool.and_assoc]
theorem pures_iff {xs : List PV} : PV.pures xs = true ↔ ∀ x ∈ xs, x.pure = true := by
  induction xs with
  | nil => simp [PV.pures]
  | cons x xs ih => simp [PV.pures, ih]
@[simp] theorem pures_map {α : Type} (f : α → PV) (l : List α) : PV.pures (l.map f) = l.all fun a => (f a).pure := by
  induction l with
  | nil => rfl
  | cons x xs ih => simp [PV.pures, ih]
mutual
def PV.beq : PV → PV → Bool
  | .non, .non => true
  | .bl a, .bl b => a == b
  | .int a, .int b => a == b
  | .str a, .str b => a == b
  | .tup a, .tup b => PV.beqs a b
  | .lst a, .lst b => PV.beqs a b
  | .dct a b, .dct c d => PV.beqs a c && PV.beqs b d
  | .obj c a, .obj d b => c == d && PV.beqs a b
  | .exc c a, .exc d b => c == d && PV.beqs a b
  | .ref a, .ref b => a == b
  | .scr a, .scr b => PV.beqs a b
  | _, _ => false
def PV.beqs : List PV → List PV → Bool
  | [], [] => true
  | x :: xs, y :: ys => x.beq y && PV.beqs xs ys
  | _, _ => false
end
/-! ### how a value stands in the abstract heap -/
open L2
/-- what belongs to the classes: their addresses, the names of their fields -/
structure Cs where
  K : PySem.W.Frag
  at_ : Nat → Addr
  flds : Nat → List Str
  xat : Nat → Addr
  xfl : Nat → List Str
  fa : Nat → Addr
variable (T : Cs)
/-- what is known to stand: Φ never changes, ρ says where the store's objects lie, Fh is held by others -/
structure Wd where
  Φ : Hp
  ρ : List Addr
  Fh : Hp
/-- a tuple: of the kind that is made, or of the written part; it has no dict of its own -/
def TupAt (K : PySem.W.Frag) (Φ : Hp) (a : Addr) (vs : List V) : Prop :=
  (∃ o : Obj, Φ a = some (.frz o (.tup vs)) ∧ o.dict = none) ∨
    ∃ (o : Obj) (its : Array Value) (n : Nat), K.lookup a = some o ∧ o.cls = .type "tuple" ∧ o.data = .seq its n ∧ its.size ≤ sizeLine ∧ Vals vs its.toList ∧ o.dict = none
theorem TupAt.sq {K : PySem.W.Frag} {Φ : Hp} {a : Addr} {vs : List V} (h : TupAt K Φ a vs) : SqT K Φ a vs := by
  rcases h with ⟨o, h, _⟩ | ⟨o, its, n, h1, h2, h3, h4, h5, _⟩
  · exact .inl (.inr ⟨o, h⟩)
  · exact .inr ⟨o, its, n, h1, h2, h3, h4, h5⟩
theorem TupAt.upw {K : PySem.W.Frag} {Φ Φ' : Hp} (h : ∀ a o, Φ a = some o → Φ' a = some o) {a : Addr} {vs : List V} (r : TupAt K Φ a vs) : TupAt K Φ' a vs := by
  rcases r with ⟨o, e, d⟩ | r
  · exact .inl ⟨o, h _ _ e, d⟩
  · exact .inr r
/-- a tuple's object as it is laid -/
abbrev tupO (us : List Value) : Obj := { cls := .type "tuple", data := .seq us.toArray }
theorem TupAt.new {K : PySem.W.Frag} {Φ : Hp} {p : Addr} {us : List Value} {vs : List V} : TupAt K (upd Φ p (.frz (tupO us) (.tup vs))) p vs := .inl ⟨_, upd_same, rfl⟩
mutual
inductive Rel (W : Wd) : PV → V → Prop where
  | non : Rel W .non .non
  | bl (b : Bool) : Rel W (.bl b) (.bl b)
  | int (i : Int) : Rel W (.int i) (.int i)
  | str (x : Str) : Rel W (.str x) (.str x)
  | tup {a : Addr} {xs : List PV} {vs : List V} (h : TupAt T.K W.Φ a vs) (r : Rels W xs vs) : Rel W (.tup xs) (.ref a)
  | lst {a : Addr} {xs : List PV} {vs : List V} (h : W.Φ a = some (.lst vs)) (r : Rels W xs vs) : Rel W (.lst xs) (.ref a)
  | scr {a : Addr} {xs : List PV} {vs : List V} (h : SqL T.K W.Φ a vs) (r : Rels W xs vs) : Rel W (.scr xs) (.ref a)
  | obj {a dx : Addr} {c : Nat} {xs : List PV} {fs : List (Str × V)} {vs : List V} (h : W.Φ a = some (.ins (T.at_ c) dx fs)) (hd : W.Φ dx = some (.own a))
      (hf : fs = (T.flds c).zip vs) (hl : vs.length ≤ (T.flds c).length) (r : Rels W xs vs) : Rel W (.obj c xs) (.ref a)
  | ref {n : Nat} {a : Addr} (h : W.ρ[n]? = some a) : Rel W (.ref n) (.ref a)
inductive Rels (W : Wd) : List PV → List V → Prop where
  | nil : Rels W [] []
  | cons {x : PV} {v : V} {xs : List PV} {vs : List V} (h : Rel W x v) (t : Rels W xs vs) : Rels W (x :: xs) (v :: vs)
end
/-- more is known -/
structure Wd.le (W W' : Wd) : Prop where
  fr : ∀ (a : Addr) (o : HO), W.Φ a = some o → W'.Φ a = some o
  rf : ∀ (n : Nat) (a : Addr), W.ρ[n]? = some a → W'.ρ[n]? = some a
  fh : W'.Fh = W.Fh
theorem Wd.le.refl (W : Wd) : W.le W := ⟨fun _ _ h => h, fun _ _ h => h, rfl⟩
theorem Wd.le.trans {A B C : Wd} (h : A.le B) (k : B.le C) : A.le C := ⟨fun a o e => k.fr a o (h.fr a o e), fun n a e => k.rf n a (h.rf n a e), k.fh.trans h.fh⟩
theorem Rd.upw {Φ Φ' : Hp} (h : ∀ a o, Φ a = some o → Φ' a = some o) {a : Addr} {u : HO} (r : Rd Φ a u) : Rd Φ' a u := by
  rcases r with r | ⟨o, r⟩
  · exact .inl (h _ _ r)
  · exact .inr ⟨o, h _ _ r⟩
theorem SqT.upw {K : PySem.W.Frag} {Φ Φ' : Hp} (h : ∀ a o, Φ a = some o → Φ' a = some o) {a : Addr} {vs : List V} (r : SqT K Φ a vs) : SqT K Φ' a vs := by
  rcases r with r | r
  · exact .inl (Rd.upw h r)
  · exact .inr r
theorem SqL.upw {K : PySem.W.Frag} {Φ Φ' : Hp} (h : ∀ a o, Φ a = some o → Φ' a = some o) {a : Addr} {vs : List V} (r : SqL K Φ a vs) : SqL K Φ' a vs := by
  rcases r with r | r
  · exact .inl (Rd.upw h r)
  · exact .inr r
variable {T}
mutual
theorem Rel.up {W W' : Wd} (hF : ∀ a o, W.Φ a = some o → W'.Φ a = some o) (hR : ∀ (n : Nat) (a : Addr), W.ρ[n]? = some a → W'.ρ[n]? = some a) : ∀ {x : PV} {v : V}, Rel T W x v → Rel T W' x v
  | _, _, .non => .non
  | _, _, .bl b => .bl b
  | _, _, .int i => .int i
  | _, _, .str x => .str x
  | _, _, .tup h r => .tup (TupAt.upw hF h) (Rels.up hF hR r)
  | _, _, .lst h r => .lst (hF _ _ h) (Rels.up hF hR r)
  | _, _, .scr h r => .scr (SqL.upw hF h) (Rels.up hF hR r)
  | _, _, .obj h hd hf hl r => .obj (hF _ _ h) (hF _ _ hd) hf hl (Rels.up hF hR r)
  | _, _, .ref h => .ref (hR _ _ h)
theorem Rels.up {W W' : Wd} (hF : ∀ a o, W.Φ a = some o → W'.Φ a = some o) (hR : ∀ (n : Nat) (a : Addr), W.ρ[n]? = some a → W'.ρ[n]? = some a) : ∀ {x : List PV} {v : List V}, Rels T W x v → Rels T W' x v
  | _, _, .nil => .nil
  | _, _, .cons h t => .cons (Rel.up hF hR h) (Rels.up hF hR t)
end
theorem Rel.mono {W W' : Wd} (h : W.le W') {x : PV} {v : V} (r : Rel T W x v) : Rel T W' x v := r.up h.fr h.rf
theorem Rels.mono {W W' : Wd} (h : W.le W') {x : List PV} {v : List V} (r : Rels T W x v) : Rels T W' x v := r.up h.fr h.rf
/-- what has no reference leans on Φ alone -/
theorem Rel.pureUp {W W' : Wd} (hF : ∀ a o, W.Φ a = some o → W'.Φ a = some o) : ∀ (x : PV) (v : V), x.pure = true → Rel T W x v → Rel T W' x v := by
  intro x v hp h
  refine Rel.rec (motive_1 := fun x v _ => x.pure = true → Rel T W' x v) (motive_2 := fun xs vs _ => PV.pures xs = true → Rels T W' xs vs) ?_ ?_ ?_ ?_ ?_ ?_ ?_ ?_ ?_ ?_ ?_ h hp
  · intro _; exact .non
  · intro b _; exact .bl b
  · intro b _; exact .int b
  · intro b _; exact .str b
  · intro a xs vs h r ih hp; exact .tup (TupAt.upw hF h) (ih (by simpa [PV.pure] using hp))
  · intro a xs vs h r ih hp; exact .lst (hF _ _ h) (ih (by simpa [PV.pure] using hp))
  · intro a xs vs h r ih hp; exact .scr (SqL.upw hF h) (ih (by simpa [PV.pure] using hp))
  · intro a dx c xs fs vs h hd hf hl r ih hp; exact .obj (hF _ _ h) (hF _ _ hd) hf hl (ih (by simpa [PV.pure] using hp))
  · intro n a h hp; simp [PV.pure] at hp
  · intro _; exact .nil
  · intro x v xs vs h t ih1 ih2 hp
    simp only [PV.pures, Bool.and_eq_true] at hp
    exact .cons (ih1 hp.1) (ih2 hp.2)
theorem Rels.pureUp {W W' : Wd} (hF : ∀ a o, W.Φ a = some o → W'.Φ a = some o) : ∀ {x : List PV} {v : List V}, PV.pures x = true → Rels T W x v → Rels T W' x v
  | _, _, _, .nil => .nil
  | _, _, hp, .cons h t => by
    simp only [PV.pures, Bool.and_eq_true] at hp
    exact .cons (Rel.pureUp hF _ _ hp.1 h) (Rels.pureUp hF hp.2 t)
theorem Rels.length {W : Wd} : ∀ {x : List PV} {v : List V}, Rels T W x v → x.length = v.length
  | _, _, .nil => rfl
  | _, _, .cons _ t => by simp [Rels.length t]
theorem Rels.get {W : Wd} : ∀ {x : List PV} {v : List V} {i : Nat} {y : PV}, Rels T W x v → x[i]? = some y → ∃ w, v[i]? = some w ∧ Rel T W y w
  | _, _, _, _, .nil, h => by simp at h
  | _, _, 0, _, .cons h _, e => by simp at e; subst e; exact ⟨_, rfl, h⟩
  | _, _, i + 1, _, .cons _ t, e => by
    obtain ⟨w, a, b⟩ := Rels.get (i := i) t (by simpa using e)
    exact ⟨w, by simpa using a, b⟩
theorem Rels.get' {W : Wd} : ∀ {x : List PV} {v : List V} {i : Nat} {w : V}, Rels T W x v → v[i]? = some w → ∃ y, x[i]? = some y ∧ Rel T W y w
  | _, _, _, _, .nil, h => by simp at h
  | _, _, 0, _, .cons h _, e => by simp at e; subst e; exact ⟨_, rfl, h⟩
  | _, _, i + 1, _, .cons _ t, e => by
    obtain ⟨w, a, b⟩ := Rels.get' (i := i) t (by simpa using e)
    exact ⟨w, by simpa using a, b⟩
theorem Rels.append {W : Wd} : ∀ {x y : List PV} {v u : List V}, Rels T W x v → Rels T W y u → Rels T W (x ++ y) (v ++ u)
  | _, _, _, _, .nil, h => h
  | _, _, _, _, .cons h t, k => .cons h (Rels.append t k)
theorem Rels.take {W : Wd} : ∀ {x : List PV} {v : List V} (n : Nat), Rels T W x v → Rels T W (x.take n) (v.take n)
  | _, _, 0, _ => by simp; exact .nil
  | _, _, n + 1, .nil => by simp; exact .nil
  | _, _, n + 1, .cons h t => .cons h (Rels.take n t)
theorem Rels.drop {W : Wd} : ∀ {x : List PV} {v : List V} (n : Nat), Rels T W x v → Rels T W (x.drop n) (v.drop n)
  | _, _, 0, h => h
  | _, _, n + 1, .nil => by simp; exact .nil
  | _, _, n + 1, .cons h t => Rels.drop n t
theorem Rels.set {W : Wd} : ∀ {x : List PV} {v : List V} (n : Nat) {y : PV} {w : V}, Rel T W y w → Rels T W x v → Rels T W (x.set n y) (v.set n w)
  | _, _, _, _, _, _, .nil => .nil
  | _, _, 0, _, _, r, .cons _ t => .cons r t
  | _, _, n + 1, _, _, r, .cons h t => .cons h (Rels.set n r t)
theorem Rels.eraseIdx {W : Wd} : ∀ {x : List PV} {v : List V} (n : Nat), Rels T W x v → Rels T W (x.eraseIdx n) (v.eraseIdx n)
  | _, _, _, .nil => .nil
  | _, _, 0, .cons _ t => t
  | _, _, n + 1, .cons h t => .cons h (Rels.eraseIdx n t)
theorem Rels.reverse {W : Wd} : ∀ {x : List PV} {v : List V}, Rels T W x v → Rels T W x.reverse v.reverse
  | _, _, .nil => .nil
  | _, _, .cons h t => by simp; exact (Rels.reverse t).append (.cons h .nil)
/-! ### the state -/
/-- an object of the store -/
def SOR (T : Cs) (W : Wd) (H : Hp) (a : Addr) : SO → Prop
  | .lst xs => PV.pures xs = true ∧ ∃ vs, H a = some (.lst vs) ∧ Rels T W xs vs
  | .inst c xs => PV.pures xs = true ∧ ∃ dx vs, H a = some (.ins (T.at_ c) dx ((T.flds c).zip vs)) ∧ W.Φ dx = some (.own a) ∧ vs.length ≤ (T.flds c).length ∧ Rels T W xs vs
  | .dct _ _ => False
structure BR (T : Cs) (W : Wd) (S : Store) (H : Hp) : Prop where
  frz : ∀ a o, W.Φ a = some o → H a = some o
  fhs : ∀ a o, W.Fh a = some o → H a = some o
  dF : ∀ a o, W.Fh a = some o → W.Φ a = none
  dR : ∀ a, a ∈ W.ρ → W.Φ a = none ∧ W.Fh a = none
  nd : W.ρ.Nodup
  len : W.ρ.length = S.length
  sto : ∀ (n : Nat) (so : SO) (a : Addr), S[n]? = some so → W.ρ[n]? = some a → SOR T W H a so
/-- the names of a body -/
abbrev PEnv := List (Option PV)
/-- a new object that never changes -/
theorem BR.alloc {W : Wd} {S : Store} {H : Hp} {p : Addr} {o : HO} (b : BR T W S H) (hp : H p = none) : BR T ⟨upd W.Φ p o, W.ρ, W.Fh⟩ S (upd H p o) ∧ W.le ⟨upd W.Φ p o, W.ρ, W.Fh⟩ := by
  have nF : W.Φ p = none := by
    cases e : W.Φ p with
    | none => rfl
    | some u => rw [b.frz _ _ e] at hp; cases hp
  have nG : W.Fh p = none := by
    cases e : W.Fh p with
    | none => rfl
    | some u => rw [b.fhs _ _ e] at hp; cases hp
  have up : ∀ a u, W.Φ a = some u → upd W.Φ p o a = some u := fun a u e => by
    rw [upd_ne (ne_of_none e nF)]; exact e
  have le : W.le ⟨upd W.Φ p o, W.ρ, W.Fh⟩ := ⟨up, fun _ _ h => h, rfl⟩
  have nR : p ∉ W.ρ := fun hm => by
    obtain ⟨n, hn, e⟩ := List.mem_iff_getElem.mp hm
    have q := b.sto n (S[n]'(by rw [← b.len]; exact hn)) p (List.getElem?_eq_getElem _) (by rw [List.getElem?_eq_getElem hn, e])
    cases hs : (S[n]'(by rw [← b.len]; exact hn)) with
    | lst xs => rw [hs] at q; obtain ⟨_, vs, e, _⟩ := q; rw [hp] at e; cases e
    | inst c xs => rw [hs] at q; obtain ⟨_, dx, vs, e, _⟩ := q; rw [hp] at e; cases e
    | dct ks vs => rw [hs] at q; exact q
  have keep : ∀ a u, H a = some u → upd H p o a = some u := fun a u e => by rw [upd_ne (ne_of_none e hp)]; exact e
  refine ⟨⟨fun a u e => ?_, fun a u e => keep a u (b.fhs a u e), fun a u e => ?_, fun a hm => ?_, b.nd, b.len, fun n so a e1 e2 => ?_⟩, le⟩
  · by_cases h : a = p
    · subst h
      have e' : upd W.Φ a o a = some u := e
      rw [upd_same] at e' ⊢; exact e'
    · have e' : upd W.Φ p o a = some u := e
      rw [upd_ne h] at e' ⊢
      exact b.frz a u e'
  · show upd W.Φ p o a = none
    have h : a ≠ p := fun z => by subst z; rw [nG] at e; cases e
    rw [upd_ne h]; exact b.dF a u e
  · show upd W.Φ p o a = none ∧ _
    have h : a ≠ p := fun z => by subst z; exact nR hm
    rw [upd_ne h]; exact b.dR a hm
  · have q := b.sto n so a e1 e2
    cases so with
    | lst xs => obtain ⟨pu, vs, e, r⟩ := q; exact ⟨pu, vs, keep _ _ e, r.mono le⟩
    | inst c xs => obtain ⟨pu, dx, vs, e, ed, l, r⟩ := q; exact ⟨pu, dx, vs, keep _ _ e, up _ _ ed, l, r.mono le⟩
    | dct ks vs => exact q
end RF
/-! Fb: the small language and what it does. -/
namespace RF
open PySem
inductive BOp where
  | add | sub | mul | fdiv | mod | pow | band
  deriving DecidableEq, Inhabited
inductive COp where
  | eq | ne | lt | le | gt | ge | inn | nin | is | isn
  deriving DecidableEq, Inhabited
/-- built-in functions and types that are called -/
inductive BFn where
  | len | all | any | min | max | abs | int | str | repr | tuple | list | divmod | sum | bool
  deriving DecidableEq, Inhabited
/-- methods of built-in types -/
inductive BMt where
  | split | join | index | count | partition | get | find
  deriving DecidableEq, Inhabited
/-- methods that change a list of the store -/
inductive MMt where
  | append | pop | insert
  deriving DecidableEq, Inhabited
inductive ITy where
  | str | int | bool | tuple | list | dict | own (c : Nat) | exc (c : Nat) | base (n : String)
  deriving DecidableEq, Inhabited
/-- a target -/
inductive Pat where
  | v (i : Nat)
  | nil
  | cons (a b : Pat)
  deriving Inhabited
inductive IR where
  | k (v : PV)
  | var (i : Nat)
  | xattr (i f : Nat) | xis (i d : Nat)
  | nil | cons (a b : IR) | star (a b : IR)
  | tup (l : IR) | lst (l : IR) | lstR (l : IR)
  | bin (o : BOp) (a b : IR)
  | cmp (o : COp) (a b : IR)
  | chain (o1 o2 : COp) (a b c : IR)
  | neg (a : IR) | not (a : IR)
  | and (a b : IR) | or (a b : IR)
  | ite (c a b : IR)
  | call (f : Nat) (l kw : IR) (perm : List (Sum Nat PV))
  | new (c : Nat) (l kw : IR) (perm : List (Sum Nat PV))
  | meth (m : Nat) (o l kw : IR) (perm : List (Sum Nat PV))
  | bfn (b : BFn) (l : IR)
  | listR (a : IR)
  | bmt (b : BMt) (o l : IR)
  | mmt (b : MMt) (o l : IR)
  | isI (a : IR) (t : ITy)
  | attr (o : IR) (f : Nat)
  | idx (o i : IR)
  | slc (o lo hi : IR)
  | rev (o : IR)
  | itV (e : IR) | itR1 (a : IR) | itR2 (a b : IR) | itEnum (e : IR) | itZip (a b : IR)
  | comp (own : List Nat) (p : Pat) (it elt cond : IR)
  | compR (own : List Nat) (p : Pat) (it elt cond : IR)
  | fmt (a : IR)
  | fstr (l : IR)
  | one (a : IR)
  | ocmp (ne : Bool) (m : Nat) (a b : IR)
  | ostr (m : Nat) (a : IR)
  deriving Inhabited
def IR.isNil : IR → Bool
  | .nil => true
  | _ => false
/-! ### by values -/
mutual
def toD : PV → Option PyData
  | .non => some .none
  | .bl b => some (.bool b)
  | .int i => some (.int i)
  | .str x => some (.str x)
  | .tup xs => (toDs xs).map .tuple
  | .lst xs => (toDs xs).map .list
  | _ => none
def toDs : List PV → Option (List PyData)
  | [] => some []
  | x :: xs => match toD x, toDs xs with
    | some d, some ds => some (d :: ds)
    | _, _ => none
end
/-- what is seen of a value: a list of the store as it stands -/
def vw (S : Store) (v : PV) : PV := match v with
  | .ref n => match S[n]? with
    | some (.lst xs) => .lst xs
    | _ => v
  | .scr xs => .lst xs
  | v => v
/-- .. that was made here -/
def vwA (S : Store) (v : PV) : PV := match v with
  | .ref n => match S[n]? with
    | some (.lst xs) => .lst xs
    | _ => v
  | v => v
/-- a text, a list, a tuple -/
def kindB (S : Store) (v : PV) : Option Nat := match vw S v with
  | .str _ => some 0
  | .lst _ => some 1
  | .tup _ => some 2
  | _ => none
def truthV (S : Store) (v : PV) : Option Bool := match vw S v with
  | .non => some false
  | .bl b => some b
  | .int i => some (i != 0)
  | .str x => if x.length ≤ sizeLine then some ((x.length : Int) != 0) else none
  | .tup xs => some (!xs.isEmpty)
  | .lst xs => some (!xs.isEmpty)
  | _ => none
/-- arguments where they belong -/
def arrange (vs : List PV) : List (Sum Nat PV) → Option (List PV)
  | [] => some []
  | .inl i :: r => match vs[i]?, arrange vs r with
    | some v, some l => some (v :: l)
    | _, _ => none
  | .inr d :: r => match arrange vs r with
    | some l => some (d :: l)
    | none => none
def inI64 (i : Int) : Bool := decide (-(2 ^ 64) < i ∧ i < 2 ^ 64)
def binV (S : Store) (o : BOp) (x y : PV) : Option PV := match o, vwA S x, vwA S y with
  | .add, .int i, .int j => some (.int (i + j))
  | .add, .str a, .str b => if a.length + b.length ≤ sizeLine then some (.str (a ++ b)) else none
  | .add, .tup a, .tup b => if a.length + b.length ≤ sizeLine then some (.tup (a ++ b)) else none
  | .add, .lst a, .lst b => if a.length + b.length ≤ sizeLine then some (.lst (a ++ b)) else none
  | .sub, .int i, .int j => some (.int (i - j))
  | .mul, .int i, .int j => if inI64 i || inI64 j then some (.int (i * j)) else none
  | .fdiv, .int i, .int j => if 0 < j ∧ j < 1073741824 then some (.int (i / j)) else none
  | .mod, .int i, .int j => if 0 < j then some (.int (i % j)) else none
  | .pow, .int i, .int j => if 0 ≤ j ∧ j ≤ 1000000 ∧ i.natAbs < 2 ^ 64 then some (.int (i ^ j.toNat)) else none
  | .band, .int i, .int j => some (.int (Builtin.bitAnd i j))
  | _, _, _ => none
def eqD (S : Store) (x y : PV) : Option Bool := match toD (vw S x), toD (vw S y) with
  | some d, some e => if SeqAt.shaped d && SeqAt.shaped e then some (PyData.eqv d e) else none
  | _, _ => none
def inD (S : Store) (x y : PV) : Option Bool := match vw S x, vw S y with
  | .str a, .str b => some (!(Builtin.Str.occurrences b a 0 b.length 1).isEmpty)
  | a, .tup ys => match toD a, toDs ys with
    | some d, some ds => if SeqAt.shaped d && SeqAt.shaped (.tuple ds) then some (ds.any fun z => PyData.eqv z d) else none
    | _, _ => none
  | a, .lst ys => match toD a, toDs ys with
    | some d, some ds => if SeqAt.shaped d && SeqAt.shaped (.list ds) then some (ds.any fun z => PyData.eqv z d) else none
    | _, _ => none
  | _, _ => none
def eqT (S : Store) (x y : PV) : Option Bool := match x, y with
  | .str a, .str b => some (decide (a = b))
  | x, y => eqD S x y
def cmpV (S : Store) (o : COp) (x y : PV) : Option Bool := match o with
  | .eq => eqT S x y
  | .ne => (eqT S x y).map (!·)
  | .inn => inD S x y
  | .nin => (inD S x y).map (!·)
  | .lt => match x, y with
    | .int i, .int j => some (decide (i < j))
    | .str a, .str b => some (decide (a.cps.toList < b.cps.toList))
    | _, _ => none
  | .le => match x, y with | .int i, .int j => some (decide (i ≤ j)) | _, _ => none
  | .gt => match x, y with | .int i, .int j => some (decide (j < i)) | _, _ => none
  | .ge => match x, y with | .int i, .int j => some (decide (j ≤ i)) | _, _ => none
  | .is => match y with
    | .non => some (match x with | .non => true | _ => false)
    | .bl b => match x with | .bl a => some (decide (a = b)) | _ => none
    | _ => none
  | .isn => match y with
    | .non => some (match x with | .non => false | _ => true)
    | .bl b => match x with | .bl a => some (!decide (a = b)) | _ => none
    | _ => none
def boolsP : List PV → Option (List Bool)
  | [] => some []
  | .bl b :: r => (boolsP r).map (b :: ·)
  | _ => none
def intsP : List PV → Option (List Int)
  | [] => some []
  | .int b :: r => (intsP r).map (b :: ·)
  | _ => none
def strsP : List PV → Option (List Str)
  | [] => some []
  | .str b :: r => (strsP r).map (b :: ·)
  | _ => none
def reprV (S : Store) (v : PV) : Option Str := match toD (vw S v) with
  | some d => if d.showable && decide (d.depth ≤ 64) && decide (d.shown.length ≤ sizeLine) then some d.shown else none
  | none => none
/-- a built-in function's answer (nothing new is laid but what never changes) -/
def bfnV (S : Store) (b : BFn) (l : List PV) : Option PV := match b, l with
  | .len, [x] => match vw S x with
    | .str z => if z.length ≤ sizeLine then some (.int z.length) else none
    | .tup xs => some (.int xs.length)
    | .lst xs => some (.int xs.length)
    | _ => none
  | .all, [x] => match vw S x with
    | .lst xs => (boolsP xs).map fun bs => .bl (bs.all id)
    | _ => none
  | .any, [x] => match vw S x with
    | .lst xs => (boolsP xs).map fun bs => .bl (bs.any id)
    | _ => none
  | .min, [.int i, .int j] => some (.int (if j < i then j else i))
  | .max, [.int i, .int j] => some (.int (if j > i then j else i))
  | .abs, [.int i] => some (.int (if i < 0 then -i else i))
  | .int, [.int i] => some (.int i)
  | .int, [.bl b] => some (.int (if b then 1 else 0))
  | .str, [.int i] => if i.natAbs.log2 < 1920 then some (.str (toString i)) else none
  | .repr, [x] => (reprV S x).map .str
  | .tuple, [x] => match vw S x with
    | .lst xs => some (.tup xs)
    | .tup xs => some (.tup xs)
    | _ => none
  | .list, [x] => match vw S x with
    | .lst xs => some (.lst xs)
    | .tup xs => some (.lst xs)
    | _ => none
  | .divmod, [.int i, .int j] => if 0 < j ∧ j < 1073741824 then some (.tup [.int (i / j), .int (i % j)]) else none
  | .sum, [x] => match vw S x with
    | .lst xs => (intsP xs).map fun ns => .int ns.sum
    | _ => none
  | _, _ => none
def idxV (S : Store) (o i : PV) : Option PV := match vw S o, i with
  | .tup xs, .int j => L2.atI xs j
  | .lst xs, .int j => L2.atI xs j
  | .str z, .int j => if z.length ≤ sizeLine then (L2.atI z.cps.toList j).map fun c => .str ⟨#[c]⟩ else none
  | _, _ => none
def partI (S : Store) : PV → Out (Option Int)
  | .int i => .ok (some i) S
  | _ => .bad
def cutP (xs : List PV) (lo hi : Option Int) : List PV := (xs.drop (HT.sIx xs.length 0 lo)).take (HT.sIx xs.length xs.length hi - HT.sIx xs.length 0 lo)
def slcV (S : Store) (o : PV) (lo hi : Option Int) : Option PV := match vw S o with
  | .tup xs => some (.tup (cutP xs lo hi))
  | .lst xs => some (.lst (cutP xs lo hi))
  | .str z => if z.length ≤ sizeLine then some (.str (L2.cutS z lo hi)) else none
  | _ => none
def revV (S : Store) (o : PV) : Option PV := match vw S o with
  | .tup xs => some (.tup xs.reverse)
  | .lst xs => some (.lst xs.reverse)
  | _ => none
def bmtV (S : Store) (b : BMt) (o : PV) (l : List PV) : Option PV := match b, vw S o, l with
  | .split, .str a, [.str c] => if (c.length == 0) = false ∧ a.length + 2 ≤ sizeLine then some (.lst ((Txt.split a c).map .str)) else none
  | .join, .str a, [x] => match vw S x with
    | .lst xs => match strsP xs with
      | some ys => if (ys.map (·.length)).sum + ys.length * a.length ≤ sizeLine then some (.str (Txt.join a ys)) else none
      | none => none
    | .tup xs => match strsP xs with
      | some ys => if (ys.map (·.length)).sum + ys.length * a.length ≤ sizeLine then some (.str (Txt.join a ys)) else none
      | none => none
    | _ => none
  | .index, .tup xs, [y] => match toD y, toDs xs with
    | some d, some ds => match ds.findIdx? (fun z => PyData.eqv z d) with
      | some j => if SeqAt.shaped d && SeqAt.shaped (.tuple ds) then some (.int j) else none
      | none => none
    | _, _ => none
  | .index, .lst xs, [y] => match toD y, toDs xs with
    | some d, some ds => match ds.findIdx? (fun z => PyData.eqv z d) with
      | some j => if SeqAt.shaped d && SeqAt.shaped (.list ds) then some (.int j) else none
      | none => none
    | _, _ => none
  | _, _, _ => none
/-- which methods there are -/
def bmtK : BMt → Option Nat → Bool
  | .split, some 0 => true
  | .join, some 0 => true
  | .index, some 1 => true
  | .index, some 2 => true
  | _, _ => false
/-- a method that changes a list of the store -/
def mmtV (S : Store) (b : MMt) (o : PV) (l : List PV) : Option (PV × Store) := match o with
  | .ref n => match S[n]?, b, l with
    | some (.lst ys), .append, [y] => if y.pure = true ∧ ys.length < sizeLine then some (.non, S.set n (.lst (ys ++ [y]))) else none
    | some (.lst ys), .pop, [.int i] => if -(2 ^ 63) ≤ i ∧ i < 2 ^ 63 then match PySem.seqIndex? i ys.length with
      | some j => match ys[j]? with
        | some y => some (y, S.set n (.lst (ys.eraseIdx j)))
        | none => none
      | none => none
      else none
    | some (.lst ys), .pop, [] => match ys[ys.length - 1]? with
      | some y => some (y, S.set n (.lst ys.dropLast))
      | none => none
    | _, _, _ => none
  | _ => none
/-- the items that a loop goes through -/
def itemsV (S : Store) (v : PV) : Option (List PV) := match vw S v with
  | .tup xs => some xs
  | .lst xs => some xs
  | .str z => some (z.cps.toList.map fun c => .str ⟨#[c]⟩)
  | _ => none
def starV (S : Store) (v : PV) : Option (List PV) := match vw S v with
  | .tup xs => some xs
  | .lst xs => some xs
  | _ => none
def in62 (i : Int) : Bool := decide (-(2 ^ 62) ≤ i ∧ i < 2 ^ 62)
def rangeV (l : List PV) : Option (List PV) := match l with
  | [.int j] => if in62 j then some ((List.range j.toNat).map fun i => .int (i : Nat)) else none
  | [.int i, .int j] => if in62 i && in62 j then some ((List.range (j - i).toNat).map fun (k : Nat) => .int (i + k)) else none
  | _ => none
def enumV (xs : List PV) : List PV := (xs.zipIdx).map fun (x, i) => .tup [.int (i : Nat), x]
def strPart : PV → Option Str
  | .str z => if z.length ≤ sizeLine then some z else none
  | .int i => if i.natAbs.log2 < 1920 then some (toString i) else none
  | _ => none
/-! ### classes, functions -/
structure ClsI where
  flds : List Nat
  meths : List (Nat × Nat)
  init : Nat
  frozen : Bool
  deriving Inhabited
/-- a class of errors: its fields, the classes that it is under (itself too) -/
structure XI where
  flds : List Nat
  sup : List Nat
  deriving Inhabited
structure Gl where
  cls : List ClsI
  exs : List XI
  deriving Inhabited
abbrev CallF := Nat → List PV → Store → Out PV
def PV.isExc : PV → Bool
  | .exc _ _ => true
  | _ => false
def Gl.xfix (G : Gl) (c f : Nat) : Option Nat := match G.exs[c]? with
  | some i => i.flds.findIdx? (· == f)
  | none => none
def Gl.fix (G : Gl) (c f : Nat) : Option Nat := match G.cls[c]? with
  | some i => i.flds.findIdx? (· == f)
  | none => none
def attrV (G : Gl) (S : Store) (o : PV) (f : Nat) : Option PV := match o with
  | .obj c xs => match G.fix c f with
    | some j => xs[j]?
    | none => none
  | .ref n => match S[n]? with
    | some (.inst c xs) => match G.fix c f with
      | some j => xs[j]?
      | none => none
    | _ => none
  | _ => none
def clsOf (S : Store) (o : PV) : Option Nat := match o with
  | .obj c _ => some c
  | .ref n => match S[n]? with
    | some (.inst c _) => some c
    | _ => none
  | _ => none
def isBase : ITy → Bool
  | .str => true
  | .int => true
  | .bool => true
  | .tuple => true
  | .list => true
  | .dict => true
  | _ => false
def isOwn : ITy → Bool
  | .own _ => true
  | _ => false
/-- the method of a value -/
def methOf (G : Gl) (S : Store) (x : PV) (m : Nat) : Option Nat := match clsOf S x with
  | none => none
  | some c => match G.cls[c]? with
    | none => none
    | some ci => ci.meths.lookup m
/-- of a built-in type that is no class of the text: which of the types -/
def isIB (ts : List ITy) (t : ITy) : Option Bool := if isBase t then some (decide (t ∈ ts)) else if isOwn t then some false else none
def isIC (G : Gl) (c : Nat) (t : ITy) : Option Bool := if c < G.cls.length then (match t with
    | .own d => if d < G.cls.length then some (c == d) else none
    | t => if isBase t then some false else none) else none
def isIV (G : Gl) (S : Store) (x : PV) (t : ITy) : Option Bool := match x with
  | .ref n => match S[n]? with
    | some (.lst _) => isIB [.list] t
    | some (.inst c _) => isIC G c t
    | _ => none
  | .obj c _ => isIC G c t
  | .non => isIB [] t
  | .bl _ => isIB [.int, .bool] t
  | .int _ => isIB [.int] t
  | .str _ => isIB [.str] t
  | .tup _ => isIB [.tuple] t
  | .lst _ => isIB [.list] t
  | _ => none
def ofOpt {α : Type} (S : Store) : Option α → Out α
  | some a => .ok a S
  | none => .bad
@[simp] theorem ofOpt_some {α : Type} (S : Store) (a : α) : ofOpt S (some a) = .ok a S := rfl
@[simp] theorem ofOpt_none {α : Type} (S : Store) : ofOpt S (none : Option α) = .bad := rfl
/-- == and != where an own def says so -/
def ocmpO (G : Gl) (C : CallF) (ne : Bool) (m : Nat) (x y : PV) (S : Store) : Out PV := match clsOf S x with
  | none => ofOpt S ((cmpV S (if ne = true then .ne else .eq) x y).map .bl)
  | some c => match methOf G S x m, isIV G S y (.own c) with
    | some f, some _ => match C f [x, y] S with
      | .ok (.bl b) S3 => .ok (.bl (if ne = true then !b else b)) S3
      | _ => .bad
    | _, _ => .bad
/-- str(..) where an own def says so -/
def ostrO (G : Gl) (C : CallF) (m : Nat) (x : PV) (S : Store) : Out PV := match clsOf S x with
  | none => ofOpt S (bfnV S .str [x])
  | some _ => match methOf G S x m with
    | some f => match C f [x] S with
      | .ok (.str z) S3 => .ok (.str z) S3
      | _ => .bad
    | none => .bad
/-- a value that leaves: the store above n goes -/
def gcV (n : Nat) (v : PV) (S : Store) : Out PV := match v with
  | .ref m => if m < n then .ok v (S.take n) else match S[m]? with
    | some (.lst xs) => .ok (.lst xs) (S.take n)
    | some (.inst c xs) => .ok (.obj c xs) (S.take n)
    | _ => .bad
  | v => if v.pure then .ok v (S.take n) else .bad
/-- binding -/
def bindP : Pat → PV → PEnv → Option PEnv
  | .v i, x, env => some (env.set i (some x))
  | .nil, .tup [], env => some env
  | .cons a b, .tup (x :: xs), env => match bindP a x env with
    | some env' => bindP b (.tup xs) env'
    | none => none
  | _, _, _ => none
def wipeP (env : PEnv) : List Nat → PEnv
  | [] => env
  | i :: r => (wipeP env r).set i none
/-- what is gone through is as it was -/
def stands (S : Store) (gv g0 : PV) : Bool := (vw S gv).beq g0
/-- the turns of a comprehension -/
def compL (p : Pat) (elt cond : PEnv → Store → Out PV) (gv g0 : PV) (env : PEnv) : List PV → List PV → Store → Out (List PV)
  | [], acc, S => if stands S gv g0 = true then .ok acc S else .bad
  | x :: xs, acc, S => if stands S gv g0 = true then match bindP p x env with
    | none => .bad
    | some env' => (cond env' S).bind fun c S1 => match truthV S1 c with
      | none => .bad
      | some false => compL p elt cond gv g0 env xs acc S1
      | some true => (elt env' S1).bind fun y S2 => if acc.length < sizeLine then compL p elt cond gv g0 env xs (acc ++ [y]) S2 else .bad
    else .bad
mutual
def ev (G : Gl) (C : CallF) : IR → PEnv → Store → Out PV
  | .k v, _, S => .ok v S
  | .var i, env, S => match env[i]? with
    | some (some v) => if v.isExc = true then .bad else .ok v S
    | _ => .bad
  | .xattr i f, env, S => match env[i]? with
    | some (some (.exc c xs)) => match G.xfix c f with
      | some j => ofOpt S xs[j]?
      | none => .bad
    | _ => .bad
  | .xis i d, env, S => match env[i]? with
    | some (some (.exc c _)) => match G.exs[c]? with
      | some x => .ok (.bl (decide (d ∈ x.sup))) S
      | none => .bad
    | _ => .bad
  | .tup l, env, S => (evs G C l env S).bind fun xs S1 => if xs.length ≤ sizeLine then .ok (.tup xs) S1 else .bad
  | .lst l, env, S => (evs G C l env S).bind fun xs S1 => if xs.length ≤ sizeLine then .ok (.lst xs) S1 else .bad
  | .lstR l, env, S => (evs G C l env S).bind fun xs S1 => if xs.length ≤ sizeLine ∧ PV.pures xs = true then .ok (.ref S1.length) (S1 ++ [.lst xs]) else .bad
  | .bin o a b, env, S => (ev G C a env S).bind fun x S1 => (ev G C b env S1).bind fun y S2 => ofOpt S2 (binV S2 o x y)
  | .cmp o a b, env, S => (ev G C a env S).bind fun x S1 => (ev G C b env S1).bind fun y S2 => ofOpt S2 ((cmpV S2 o x y).map .bl)
  | .chain o1 o2 a b c, env, S => (ev G C a env S).bind fun x S1 => (ev G C b env S1).bind fun y S2 => match cmpV S2 o1 x y with
    | none => .bad
    | some false => .ok (.bl false) S2
    | some true => (ev G C c env S2).bind fun z S3 => ofOpt S3 ((cmpV S3 o2 y z).map .bl)
  | .neg a, env, S => (ev G C a env S).bind fun x S1 => match x with
    | .int i => .ok (.int (-i)) S1
    | _ => .bad
  | .not a, env, S => (ev G C a env S).bind fun x S1 => match truthV S1 x with
    | some b => .ok (.bl (!b)) S1
    | none => .bad
  | .and a b, env, S => (ev G C a env S).bind fun x S1 => match truthV S1 x with
    | some true => ev G C b env S1
    | some false => .ok x S1
    | none => .bad
  | .or a b, env, S => (ev G C a env S).bind fun x S1 => match truthV S1 x with
    | some false => ev G C b env S1
    | some true => .ok x S1
    | none => .bad
  | .ite c a b, env, S => (ev G C c env S).bind fun x S1 => match truthV S1 x with
    | some true => ev G C a env S1
    | some false => ev G C b env S1
    | none => .bad
  | .call f l kw perm, env, S => (evs G C l env S).bind fun xs S1 => (evs G C kw env S1).bind fun zs S2 => match arrange (xs ++ zs) perm with
    | some ys => C f ys S2
    | none => .bad
  | .new c l kw perm, env, S => (evs G C l env S).bind fun xs S1 => (evs G C kw env S1).bind fun zs S2 => match G.cls[c]? with
    | none => .bad
    | some ci => match arrange (.ref S2.length :: (xs ++ zs)) perm with
      | none => .bad
      | some ys => (C ci.init ys (S2 ++ [.inst c []])).bind fun r S3 => match r with
        | .non => if ci.frozen = true then gcV S2.length (.ref S2.length) S3 else .ok (.ref S2.length) S3
        | _ => .bad
  | .meth m o l kw perm, env, S => (ev G C o env S).bind fun x S1 => match methOf G S1 x m with
    | none => .bad
    | some f => (evs G C l env S1).bind fun xs S2 => (evs G C kw env S2).bind fun zs S3 => match arrange (x :: (xs ++ zs)) perm with
      | some ys => C f ys S3
      | none => .bad
  | .bfn b l, env, S => (evs G C l env S).bind fun xs S1 => ofOpt S1 (bfnV S1 b xs)
  | .listR a, env, S => (ev G C a env S).bind fun x S1 => match bfnV S1 .list [x] with
    | some (.lst xs) => if PV.pures xs then .ok (.ref S1.length) (S1 ++ [.lst xs]) else .bad
    | _ => .bad
  | .bmt b o l, env, S => (ev G C o env S).bind fun x S1 => if bmtK b (kindB S1 x) = true then (evs G C l env S1).bind fun xs S2 => ofOpt S2 (bmtV S2 b x xs) else .bad
  | .mmt b o l, env, S => (ev G C o env S).bind fun x S1 => match kindB S1 x with
    | some 1 => (evs G C l env S1).bind fun xs S2 => match mmtV S2 b x xs with
      | some (v, S3) => .ok v S3
      | none => .bad
    | _ => .bad
  | .isI a t, env, S => (ev G C a env S).bind fun x S1 => ofOpt S1 ((isIV G S1 x t).map .bl)
  | .attr o f, env, S => (ev G C o env S).bind fun x S1 => ofOpt S1 (attrV G S1 x f)
  | .idx o i, env, S => (ev G C o env S).bind fun x S1 => (ev G C i env S1).bind fun y S2 => ofOpt S2 (idxV S2 x y)
  | .slc o lo hi, env, S => (ev G C o env S).bind fun x S1 =>
      (if lo.isNil = true then Out.ok none S1 else (ev G C lo env S1).bind fun l S2 => partI S2 l).bind fun l S2 =>
      (if hi.isNil = true then Out.ok none S2 else (ev G C hi env S2).bind fun h S3 => partI S3 h).bind fun h S3 => ofOpt S3 (slcV S3 x l h)
  | .rev o, env, S => (ev G C o env S).bind fun x S1 => ofOpt S1 (revV S1 x)
  | .comp own p it elt cond, env, S => (evs G C it env S).bind fun items S1 => match items with
    | [] => .bad
    | gv :: xs => match compL p (ev G C elt) (ev G C cond) gv (vw S1 gv) (wipeP env own) xs [] S1 with
      | .ok ys S2 => .ok (.lst ys) S2
      | _ => .bad
  | .compR own p it elt cond, env, S => (evs G C it env S).bind fun items S1 => match items with
    | [] => .bad
    | gv :: xs => match compL p (ev G C elt) (ev G C cond) gv (vw S1 gv) (wipeP env own) xs [] S1 with
      | .ok ys S2 => if PV.pures ys = true then .ok (.ref S2.length) (S2 ++ [.lst ys]) else .bad
      | _ => .bad
  | .fmt a, env, S => (ev G C a env S).bind fun x S1 => ofOpt S1 ((strPart x).map .str)
  | .one a, env, S => ev G C a env S
  | .ocmp ne m a b, env, S => (ev G C a env S).bind fun x S1 => (ev G C b env S1).bind fun y S2 => ocmpO G C ne m x y S2
  | .ostr m a, env, S => (ev G C a env S).bind fun x S1 => ostrO G C m x S1
  | .fstr l, env, S => match evs G C l env S with
    | .ok xs S1 => match strsP xs with
      | some ts => if (ts.foldl (· ++ ·) Str.empty).length ≤ sizeLine then .ok (.str (ts.foldl (· ++ ·) Str.empty)) S1 else .bad
      | none => .bad
    | _ => .bad
  | _, _, _ => .bad
/-- several values: arguments, or the items of what a loop goes through -/
def evs (G : Gl) (C : CallF) : IR → PEnv → Store → Out (List PV)
  | .nil, _, S => .ok [] S
  | .cons a b, env, S => (ev G C a env S).bind fun x S1 => (evs G C b env S1).bind fun xs S2 => .ok (x :: xs) S2
  | .star a b, env, S => (ev G C a env S).bind fun x S1 => match starV S1 x with
    | some ys => (evs G C b env S1).bind fun xs S2 => .ok (ys ++ xs) S2
    | none => .bad
  | .itV e, env, S => (ev G C e env S).bind fun x S1 => ofOpt S1 ((itemsV S1 x).map fun l => x :: l)
  | .itR1 a, env, S => (ev G C a env S).bind fun x S1 => ofOpt S1 ((rangeV [x]).map fun l => .non :: l)
  | .itR2 a b, env, S => (ev G C a env S).bind fun x S1 => (ev G C b env S1).bind fun y S2 => ofOpt S2 ((rangeV [x, y]).map fun l => .non :: l)
  | .itEnum e, env, S => (ev G C e env S).bind fun x S1 => ofOpt S1 ((starV S1 x).map fun l => x :: enumV l)
  | _, _, _ => .bad
end
/-! ### statements -/
/-- targets, one behind another -/
inductive Tg where
  | nil
  | v (i : Nat) (r : Tg)
  | ix (o i : IR) (r : Tg)
  deriving Inhabited
inductive IS where
  | skip
  | seq (a b : IS)
  | set (p : Pat) (e : IR)
  | par (is : List Nat) (l : IR)
  | setT (ts : Tg) (e : IR)
  | setAttr (o : IR) (f : Nat) (e : IR)
  | setIdx (o i e : IR)
  | aug (i : Nat) (o : BOp) (e : IR)
  | expr (e : IR)
  | ite (c : IR) (a b : IS)
  | for (p : Pat) (it : IR) (b : IS)
  | while (c : IR) (b : IS)
  | ret (e : IR)
  | raise (c : Nat) (l : IR)
  | try_ (b : IS) (hs : List Nat) (name : Option Nat) (h : IS)
  | brk
  deriving Inhabited
inductive Fl where
  | nx (env : PEnv) (S : Store)
  | rt (v : PV) (S : Store)
  | bk (env : PEnv) (S : Store)
  | xc (e : PV) (env : PEnv) (S : Store)
  | bad
namespace Fl
def bind (f : Fl) (k : PEnv → Store → Fl) : Fl := match f with
  | .nx env S => k env S
  | f => f
@[simp] theorem bind_nx (env : PEnv) (S : Store) (k : PEnv → Store → Fl) : (Fl.nx env S).bind k = k env S := rfl
@[simp] theorem bind_rt (v : PV) (S : Store) (k : PEnv → Store → Fl) : (Fl.rt v S).bind k = .rt v S := rfl
@[simp] theorem bind_bk (env : PEnv) (S : Store) (k : PEnv → Store → Fl) : (Fl.bk env S).bind k = .bk env S := rfl
@[simp] theorem bind_xc (e : PV) (env : PEnv) (S : Store) (k : PEnv → Store → Fl) : (Fl.xc e env S).bind k = .xc e env S := rfl
@[simp] theorem bind_bad (k : PEnv → Store → Fl) : Fl.bad.bind k = .bad := rfl
end Fl
/-- an expression within a statement -/
def Out.thn {α : Type} (o : Out α) (env : PEnv) (k : α → Store → Fl) : Fl := match o with
  | .ok a S => k a S
  | .exc e S => .xc e env S
  | .bad => .bad
@[simp] theorem thn_ok {α : Type} (a : α) (S : Store) (env : PEnv) (k : α → Store → Fl) : (Out.ok a S).thn env k = k a S := rfl
@[simp] theorem thn_exc {α : Type} (e : PV) (S : Store) (env : PEnv) (k : α → Store → Fl) : (Out.exc e S).thn env k = .xc e env S := rfl
@[simp] theorem thn_bad {α : Type} (env : PEnv) (k : α → Store → Fl) : (Out.bad : Out α).thn env k = .bad := rfl
def forL (p : Pat) (body : PEnv → Store → Fl) (gv g0 : PV) : List PV → PEnv → Store → Fl
  | [], env, S => if stands S gv g0 = true then .nx env S else .bad
  | x :: xs, env, S => if stands S gv g0 = true then match bindP p x env with
    | none => .bad
    | some env' => match body env' S with
      | .nx env2 S2 => forL p body gv g0 xs env2 S2
      | .bk env2 S2 => .nx env2 S2
      | f => f
    else .bad
def whileL (c : PEnv → Store → Out PV) (body : PEnv → Store → Fl) : Nat → PEnv → Store → Fl
  | 0, _, _ => .bad
  | n + 1, env, S => (c env S).thn env fun v S1 => match truthV S1 v with
    | none => .bad
    | some false => .nx env S1
    | some true => match body env S1 with
      | .nx env2 S2 => whileL c body n env2 S2
      | .bk env2 S2 => .nx env2 S2
      | f => f
def setMany : List Nat → List PV → PEnv → Option PEnv
  | [], [], env => some env
  | i :: is, x :: xs, env => setMany is xs (env.set i (some x))
  | _, _, _ => none
def setAttrV (G : Gl) (S : Store) (o : PV) (f : Nat) (v : PV) : Option Store := match o with
  | .ref n => match S[n]? with
    | some (.inst c xs) => match G.fix c f with
      | some j => if v.pure = false then none else if j < xs.length then some (S.set n (.inst c (xs.set j v))) else if j = xs.length then some (S.set n (.inst c (xs ++ [v]))) else none
      | none => none
    | _ => none
  | _ => none
def setIdxV (S : Store) (o i v : PV) : Option Store := match o, i with
  | .ref n, .int k => match S[n]? with
    | some (.lst xs) => match L2.ixN xs.length k with
      | some j => if v.pure then some (S.set n (.lst (xs.set j v))) else none
      | none => none
    | _ => none
  | _, _ => none
def Tg.len : Tg → Nat
  | .nil => 0
  | .v _ r => r.len + 1
  | .ix _ _ r => r.len + 1
def setTs (G : Gl) (C : CallF) : Tg → List PV → PEnv → Store → Fl
  | .nil, [], env, S => .nx env S
  | .v i r, x :: xs, env, S => setTs G C r xs (env.set i (some x)) S
  | .ix o i r, x :: xs, env, S => (ev G C o env S).thn env fun ov S1 => (ev G C i env S1).thn env fun iv S2 => match setIdxV S2 ov iv x with
    | some S3 => setTs G C r xs env S3
    | none => .bad
  | _, _, _, _ => .bad
/-- no error stays in a name -/
def purge (env : PEnv) : PEnv := env.map fun o => match o with
  | some v => if v.isExc = true then none else some v
  | none => none
def whileMost : Nat := 1000000000
def ex (G : Gl) (C : CallF) : IS → PEnv → Store → Fl
  | .skip, env, S => .nx env S
  | .seq a b, env, S => (ex G C a env S).bind fun env1 S1 => ex G C b env1 S1
  | .set p e, env, S => (ev G C e env S).thn env fun v S1 => match bindP p v env with
    | some env' => .nx env' S1
    | none => .bad
  | .par is l, env, S => (evs G C l env S).thn env fun vs S1 => match setMany is vs env with
    | some env' => .nx env' S1
    | none => .bad
  | .setT ts e, env, S => (ev G C e env S).thn env fun v S1 => match v with
    | .tup xs => if xs.length = ts.len then setTs G C ts xs env S1 else .bad
    | _ => .bad
  | .setAttr o f e, env, S => (ev G C e env S).thn env fun v S1 => (ev G C o env S1).thn env fun x S2 => match setAttrV G S2 x f v with
    | some S3 => .nx env S3
    | none => .bad
  | .setIdx o i e, env, S => (ev G C e env S).thn env fun v S1 => (ev G C o env S1).thn env fun x S2 => (ev G C i env S2).thn env fun y S3 => match setIdxV S3 x y v with
    | some S4 => .nx env S4
    | none => .bad
  | .aug i o e, env, S => match env[i]? with
    | some (some x) => (ev G C e env S).thn env fun y S1 => match o, x, y with
      | .add, .int a, .int b => .nx (env.set i (some (.int (a + b)))) S1
      | .sub, .int a, .int b => .nx (env.set i (some (.int (a - b)))) S1
      | _, _, _ => .bad
    | _ => .bad
  | .expr e, env, S => (ev G C e env S).thn env fun _ S1 => .nx env S1
  | .ite c a b, env, S => (ev G C c env S).thn env fun v S1 => match truthV S1 v with
    | some true => ex G C a env S1
    | some false => ex G C b env S1
    | none => .bad
  | .for p it b, env, S => (evs G C it env S).thn env fun items S1 => match items with
    | [] => .bad
    | gv :: xs => forL p (ex G C b) gv (vw S1 gv) xs env S1
  | .while c b, env, S => whileL (ev G C c) (ex G C b) whileMost env S
  | .ret e, env, S => (ev G C e env S).thn env fun v S1 => .rt v S1
  | .raise c l, env, S => (evs G C l env S).thn env fun xs S1 => if PV.pures xs = true then .xc (.exc c xs) env S1 else .bad
  | .try_ b hs name h, env, S => match ex G C b env S with
    | .xc (.exc c xs) env1 S1 => match G.exs[c]? with
      | none => .bad
      | some x => if hs.any (fun d => decide (d ∈ x.sup)) = true then
          match name with
          | some i => match ex G C h (env1.set i (some (.exc c xs))) S1 with
            | .nx env2 S2 => .nx (purge (env2.set i none)) S2
            | .rt v S2 => .rt v S2
            | _ => .bad
          | none => match ex G C h env1 S1 with
            | .nx env2 S2 => .nx (purge env2) S2
            | .rt v S2 => .rt v S2
            | _ => .bad
        else .xc (.exc c xs) env1 S1
    | f => f
  | .brk, env, S => .bk env S
structure FnI where
  np : Nat
  ns : Nat
  body : IS
  gc : Bool
  deriving Inhabited
/-- what stands at the end of a call -/
def endF (gc : Bool) (n : Nat) : Fl → Out PV
  | .nx _ S1 => if gc = true then gcV n .non S1 else .ok .non S1
  | .rt v S1 => if gc = true then gcV n v S1 else .ok v S1
  | .xc e _ S1 => .exc e (if gc = true then S1.take n else S1)
  | _ => .bad
def runF (G : Gl) (C : CallF) (fi : FnI) (args : List PV) (S : Store) : Out PV :=
  endF fi.gc S.length (ex G C fi.body (args.map some ++ List.replicate (fi.ns - fi.np) none) S)
def call (G : Gl) (fns : List FnI) : Nat → CallF
  | 0, _, _, _ => .bad
  | n + 1, f, args, S => match fns[f]? with
    | some fi => if args.length = fi.np then runF G (call G fns n) fi args S else .bad
    | none => .bad
end RF
set_option maxRecDepth 100000
/-! Fc: what is wanted behind an expression, a statement. -/
namespace RF
open PySem L2
section
variable (T : Cs)
/-- an exception as it lies: class, own dict -/
def XRel (W : Wd) : PV → Value → Option Addr → Prop
  | .exc c xs, cls, d => cls = .ref (T.xat c) ∧ PV.pures xs = true ∧ ∃ vs, Rels T W xs vs ∧ vs.length = (T.xfl c).length ∧ (vs = [] ∨ ∃ dd, d = some dd ∧ W.Φ dd = some (.xd ((T.xfl c).zip vs)))
  | _, _, _ => False
end
/-- the exception of the suite around -/
abbrev Xi := Option (Addr × Value × Option Addr)
structure WXi where
  w : WX
  ξ : Xi
def RelX (T : Cs) (ξ : Xi) (W : Wd) (v : PV) (w : V) : Prop := match v with
  | .exc c xs => ∃ a cls d, ξ = some (a, cls, d) ∧ w = .ref a ∧ XRel T W (.exc c xs) cls d
  | v => Rel T W v w
theorem RelX.of {T : Cs} {ξ : Xi} {W : Wd} {v : PV} {w : V} (r : Rel T W v w) : RelX T ξ W v w := by cases r <;> (unfold RelX; first | constructor | skip) <;> assumption
theorem RelX.rel {T : Cs} {ξ : Xi} {W : Wd} {v : PV} {w : V} (r : RelX T ξ W v w) (h : v.isExc = false) : Rel T W v w := by
  cases v <;> first | exact r | cases h
theorem XRel.mono {T : Cs} {W W' : Wd} (h : ∀ a o, W.Φ a = some o → W'.Φ a = some o) {x : PV} {cls : Value} {d : Option Addr} (r : XRel T W x cls d) : XRel T W' x cls d := by
  cases x with
  | exc c xs =>
    obtain ⟨e, pu, vs, rr, l, z⟩ := r
    exact ⟨e, pu, vs, Rels.pureUp h pu rr, l, z.imp id fun ⟨dd, e1, e2⟩ => ⟨dd, e1, h _ _ e2⟩⟩
  | _ => exact r.elim
theorem RelX.up {T : Cs} {ξ : Xi} {W W' : Wd} (hF : ∀ a o, W.Φ a = some o → W'.Φ a = some o) (hR : ∀ (n : Nat) (a : Addr), W.ρ[n]? = some a → W'.ρ[n]? = some a) {v : PV} {w : V} (r : RelX T ξ W v w) : RelX T ξ W' v w := by
  cases v with
  | exc c xs =>
    obtain ⟨a, cls, d, e1, e2, x⟩ := r
    exact ⟨a, cls, d, e1, e2, x.mono hF⟩
  | _ => exact Rel.up hF hR r
def ER (T : Cs) (ξ : Xi) (W : Wd) (env : PEnv) (σ : St) : Prop := env.length ≤ σ.length ∧ ∀ (i : Nat) (v : PV), env[i]? = some (some v) → ∃ w, σ[i]? = some (some w) ∧ RelX T ξ W v w
theorem ER.mono {T : Cs} {ξ : Xi} {W W' : Wd} {env : PEnv} {σ : St} (h : W.le W') (e : ER T ξ W env σ) : ER T ξ W' env σ := ⟨e.1, fun i v q => let ⟨w, a, b⟩ := e.2 i v q; ⟨w, a, b.up h.fr h.rf⟩⟩
theorem ER.set {T : Cs} {ξ : Xi} {W : Wd} {env : PEnv} {σ : St} (e : ER T ξ W env σ) (i : Nat) {v : PV} {w : V} (r : Rel T W v w) : ER T ξ W (env.set i (some v)) (σ.set i (some w)) := ⟨by rw [List.length_set, List.length_set]; exact e.1, fun j u q => by
  have hl := e.1
  by_cases hj : i = j
  · subst hj
    have hi : i < env.length := by
      rcases Nat.lt_or_ge i env.length with h | h
      · exact h
      · rw [List.set_eq_of_length_le h] at q
        rw [List.getElem?_eq_none h] at q; cases q
    rw [List.getElem?_set_self hi] at q
    cases q
    exact ⟨w, List.getElem?_set_self (by omega), .of r⟩
  · rw [List.getElem?_set_ne hj] at q ⊢
    exact e.2 j u q⟩
theorem ER.unset {T : Cs} {ξ : Xi} {W : Wd} {env : PEnv} {σ : St} (e : ER T ξ W env σ) (i : Nat) : ER T ξ W (env.set i none) (σ.set i none) := ⟨by rw [List.length_set, List.length_set]; exact e.1, fun j u q => by
  by_cases hj : i = j
  · subst hj
    rcases Nat.lt_or_ge i env.length with h | h
    · rw [List.getElem?_set_self h] at q; cases q
    · rw [List.set_eq_of_length_le h, List.getElem?_eq_none h] at q; cases q
  · rw [List.getElem?_set_ne hj] at q ⊢
    exact e.2 j u q⟩
section
variable (T : Cs)
/-- behind an expression -/
def PoE (Wx : WXi) (W : Wd) (env : PEnv) (σ : St) (Q : VK) : Out PV → Prop
  | .ok v S' => ∀ W' H' w, W.le W' → BR T W' S' H' → Rel T W' v w → Q w H'
  | .exc x S' => ∀ W' H' cls d, W.le W' → BR T W' S' H' → XRel T W' x cls d → Wx.w cls d σ H'
  | .bad => False
def PoEs (Wx : WXi) (W : Wd) (env : PEnv) (σ : St) (Q : List V → Hp → Prop) : Out (List PV) → Prop
  | .ok v S' => ∀ W' H' w, W.le W' → BR T W' S' H' → Rels T W' v w → Q w H'
  | .exc x S' => ∀ W' H' cls d, W.le W' → BR T W' S' H' → XRel T W' x cls d → Wx.w cls d σ H'
  | .bad => False
end
variable {T : Cs} {Wx : WXi} {W W' : Wd} {env : PEnv} {σ : St} {Q Q' : VK}
theorem PoE.up {o : Out PV} (h : W.le W') (p : PoE T Wx W env σ Q o) : PoE T Wx W' env σ Q o := by
  cases o with
  | ok v S => exact fun W2 H2 w l b r => p W2 H2 w (h.trans l) b r
  | exc x S => exact fun W2 H2 c d l b r => p W2 H2 c d (h.trans l) b r
  | bad => exact p
theorem PoEs.up {Q : List V → Hp → Prop} {o : Out (List PV)} (h : W.le W') (p : PoEs T Wx W env σ Q o) : PoEs T Wx W' env σ Q o := by
  cases o with
  | ok v S => exact fun W2 H2 w l b r => p W2 H2 w (h.trans l) b r
  | exc x S => exact fun W2 H2 c d l b r => p W2 H2 c d (h.trans l) b r
  | bad => exact p
/-- one thing, then another -/
theorem PoE.bind {o : Out PV} {f : PV → Store → Out PV} (p : PoE T Wx W env σ Q (o.bind f))
    (h : ∀ v S' W' H' w, W.le W' → BR T W' S' H' → Rel T W' v w → PoE T Wx W' env σ Q (f v S') → Q' w H') : PoE T Wx W env σ Q' o := by
  cases o with
  | ok v S => exact fun W2 H2 w l b r => h v S W2 H2 w l b r (PoE.up l p)
  | exc x S => exact p
  | bad => exact p
theorem PoE.bindL {o : Out (List PV)} {f : List PV → Store → Out PV} {Q' : List V → Hp → Prop} (p : PoE T Wx W env σ Q (o.bind f))
    (h : ∀ v S' W' H' w, W.le W' → BR T W' S' H' → Rels T W' v w → PoE T Wx W' env σ Q (f v S') → Q' w H') : PoEs T Wx W env σ Q' o := by
  cases o with
  | ok v S => exact fun W2 H2 w l b r => h v S W2 H2 w l b r (PoE.up l p)
  | exc x S => exact p
  | bad => exact p
theorem PoEs.bind {o : Out PV} {f : PV → Store → Out (List PV)} {Q : List V → Hp → Prop} (p : PoEs T Wx W env σ Q (o.bind f))
    (h : ∀ v S' W' H' w, W.le W' → BR T W' S' H' → Rel T W' v w → PoEs T Wx W' env σ Q (f v S') → Q' w H') : PoE T Wx W env σ Q' o := by
  cases o with
  | ok v S => exact fun W2 H2 w l b r => h v S W2 H2 w l b r (PoEs.up l p)
  | exc x S => exact p
  | bad => exact p
theorem PoEs.bindL {o : Out (List PV)} {f : List PV → Store → Out (List PV)} {Q Q' : List V → Hp → Prop} (p : PoEs T Wx W env σ Q (o.bind f))
    (h : ∀ v S' W' H' w, W.le W' → BR T W' S' H' → Rels T W' v w → PoEs T Wx W' env σ Q (f v S') → Q' w H') : PoEs T Wx W env σ Q' o := by
  cases o with
  | ok v S => exact fun W2 H2 w l b r => h v S W2 H2 w l b r (PoEs.up l p)
  | exc x S => exact p
  | bad => exact p
/-- what an expression asks, by the small language -/
def tE (T : Cs) (G : Gl) (C : CallF) (Wx : WXi) (e : IR) : TE := fun σ H Q => ∃ W env S, BR T W S H ∧ ER T Wx.ξ W env σ ∧ PoE T Wx W env σ Q (ev G C e env S)
def tEs (T : Cs) (G : Gl) (C : CallF) (Wx : WXi) (e : IR) : TA := fun σ H Q => ∃ W env S, BR T W S H ∧ ER T Wx.ξ W env σ ∧ PoEs T Wx W env σ Q (evs G C e env S)
/-- behind a test -/
def PoB (T : Cs) (Wx : WXi) (W : Wd) (env : PEnv) (σ : St) (Q : Bool → Hp → Prop) : Out Bool → Prop
  | .ok k S' => ∀ W' H', W.le W' → BR T W' S' H' → Q k H'
  | .exc x S' => ∀ W' H' cls d, W.le W' → BR T W' S' H' → XRel T W' x cls d → Wx.w cls d σ H'
  | .bad => False
theorem PoB.up {Q : Bool → Hp → Prop} {o : Out Bool} (h : W.le W') (p : PoB T Wx W env σ Q o) : PoB T Wx W' env σ Q o := by
  cases o with
  | ok v S => exact fun W2 H2 l b => p W2 H2 (h.trans l) b
  | exc x S => exact fun W2 H2 c d l b r => p W2 H2 c d (h.trans l) b r
  | bad => exact p
theorem PoB.bind {o : Out PV} {f : PV → Store → Out Bool} {Q : Bool → Hp → Prop} (p : PoB T Wx W env σ Q (o.bind f))
    (h : ∀ v S' W' H' w, W.le W' → BR T W' S' H' → Rel T W' v w → PoB T Wx W' env σ Q (f v S') → Q' w H') : PoE T Wx W env σ Q' o := by
  cases o with
  | ok v S => exact fun W2 H2 w l b r => h v S W2 H2 w l b r (PoB.up l p)
  | exc x S => exact p
  | bad => exact p
theorem PoB.bindB {o : Out Bool} {f : Bool → Store → Out PV} {Q' : Bool → Hp → Prop} (p : PoE T Wx W env σ Q (o.bind f))
    (h : ∀ v S' W' H', W.le W' → BR T W' S' H' → PoE T Wx W' env σ Q (f v S') → Q' v H') : PoB T Wx W env σ Q' o := by
  cases o with
  | ok v S => exact fun W2 H2 l b => h v S W2 H2 l b (PoE.up l p)
  | exc x S => exact p
  | bad => exact p
theorem PoB.bindBB {o : Out Bool} {f : Bool → Store → Out Bool} {Q Q' : Bool → Hp → Prop} (p : PoB T Wx W env σ Q (o.bind f))
    (h : ∀ v S' W' H', W.le W' → BR T W' S' H' → PoB T Wx W' env σ Q (f v S') → Q' v H') : PoB T Wx W env σ Q' o := by
  cases o with
  | ok v S => exact fun W2 H2 l b => h v S W2 H2 l b (PoB.up l p)
  | exc x S => exact p
  | bad => exact p
/-- an expression as a test -/
def evT (G : Gl) (C : CallF) (e : IR) (env : PEnv) (S : Store) : Out Bool := (ev G C e env S).bind fun v S1 => ofOpt S1 (truthV S1 v)
def tT (T : Cs) (G : Gl) (C : CallF) (Wx : WXi) (e : IR) : TT := fun σ H Q => ∃ W env S, BR T W S H ∧ ER T Wx.ξ W env σ ∧ PoB T Wx W env σ Q (evT G C e env S)
/-- a weaker reading -/
theorem PE.imp {X : Cx} {e : Expr} {t t' : TE} (h : PE X e t) (k : ∀ σ H Q, t' σ H Q → t σ H Q) : PE X e t' := ⟨fun pins s σ H Q I q => h.run pins s σ H Q I (k σ H Q q)⟩
theorem PT.imp {X : Cx} {e : Expr} {t t' : TT} (h : PT X e t) (k : ∀ σ H Q, t' σ H Q → t σ H Q) : PT X e t' := ⟨fun pins s σ H Q I q => h.run pins s σ H Q I (k σ H Q q)⟩
theorem PA.imp {X : Cx} {e : List Expr} {t t' : TA} (h : PA X e t) (k : ∀ σ H Q, t' σ H Q → t σ H Q) : PA X e t' := ⟨fun pos pins s σ H Q I q => h.run pos pins s σ H Q I (k σ H Q q)⟩
theorem PS.imp {X : Cx} {e : Stmt} {t t' : TS} (h : PS X e t) (k : ∀ D σ H, t' D σ H → t D σ H) : PS X e t' := ⟨fun pins s σ H D I q => h.run pins s σ H D I (k D σ H q)⟩
theorem PSs.imp {X : Cx} {e : List Stmt} {t t' : TS} (h : PSs X e t) (k : ∀ D σ H, t' D σ H → t D σ H) : PSs X e t' := ⟨fun pins s σ H D I q => h.run pins s σ H D I (k D σ H q)⟩
/-! ### by values -/
theorem Rel.int_inv {i : Int} {w : V} (r : Rel T W (.int i) w) : w = .int i := by cases r; rfl
theorem Rel.str_inv {i : Str} {w : V} (r : Rel T W (.str i) w) : w = .str i := by cases r; rfl
theorem Rel.bl_inv {i : Bool} {w : V} (r : Rel T W (.bl i) w) : w = .bl i := by cases r; rfl
theorem Rel.non_inv {w : V} (r : Rel T W .non w) : w = .non := by cases r; rfl
/-- what is seen of a value stands in the heap -/
theorem ref_lst {S : Store} {H : Hp} {n : Nat} {a : Addr} {xs : List PV} (b : BR T W S H) (h : W.ρ[n]? = some a) (hs : S[n]? = some (.lst xs)) : ∃ vs, H a = some (.lst vs) ∧ Rels T W xs vs :=
  let ⟨_, vs, e, r⟩ := b.sto n _ a hs h; ⟨vs, e, r⟩
theorem vwA_cases (S : Store) (v : PV) : (∃ n xs, v = .ref n ∧ S[n]? = some (.lst xs) ∧ vwA S v = .lst xs) ∨ vwA S v = v := by
  cases v with
  | ref n =>
    cases hs : S[n]? with
    | none => exact .inr (by simp only [vwA, hs])
    | some so =>
      cases so with
      | lst xs => exact .inl ⟨n, xs, rfl, hs, by simp only [vwA, hs]⟩
      | _ => exact .inr (by simp only [vwA, hs])
  | _ => exact .inr rfl
theorem vw_cases (S : Store) (v : PV) : (∃ n xs, v = .ref n ∧ S[n]? = some (.lst xs) ∧ vw S v = .lst xs) ∨ (∃ xs, v = .scr xs ∧ vw S v = .lst xs) ∨ vw S v = v := by
  cases v with
  | ref n =>
    cases hs : S[n]? with
    | none => exact .inr (.inr (by simp only [vw, hs]))
    | some so =>
      cases so with
      | lst xs => exact .inl ⟨n, xs, rfl, hs, by simp only [vw, hs]⟩
      | _ => exact .inr (.inr (by simp only [vw, hs]))
  | scr xs => exact .inr (.inl ⟨xs, rfl, rfl⟩)
  | _ => exact .inr (.inr rfl)
theorem vwA_lst {S : Store} {H : Hp} {v : PV} {w : V} {xs : List PV} (b : BR T W S H) (r : Rel T W v w) (e : vwA S v = .lst xs) : ∃ a vs, w = .ref a ∧ H a = some (.lst vs) ∧ Rels T W xs vs := by
  rcases vwA_cases S v with ⟨n, ys, rfl, hs, q⟩ | q
  · rw [q] at e; cases e
    cases r with
    | ref h => obtain ⟨vs, e1, r1⟩ := ref_lst b h hs; exact ⟨_, vs, rfl, e1, r1⟩
  · rw [q] at e; subst e
    cases r with
    | lst h r => exact ⟨_, _, rfl, b.frz _ _ h, r⟩
theorem vw_lst {S : Store} {H : Hp} {v : PV} {w : V} {xs : List PV} (b : BR T W S H) (r : Rel T W v w) (e : vw S v = .lst xs) : ∃ a vs, w = .ref a ∧ SqL T.K H a vs ∧ Rels T W xs vs := by
  rcases vw_cases S v with ⟨n, ys, rfl, hs, q⟩ | ⟨ys, rfl, q⟩ | q
  · rw [q] at e; cases e
    cases r with
    | ref h => obtain ⟨vs, e1, r1⟩ := ref_lst b h hs; exact ⟨_, vs, rfl, SqL.of e1, r1⟩
  · rw [q] at e; cases e
    cases r with
    | scr h r => exact ⟨_, _, rfl, SqL.upw b.frz h, r⟩
  · rw [q] at e; subst e
    cases r with
    | lst h r => exact ⟨_, _, rfl, SqL.of (b.frz _ _ h), r⟩
/-- .. for all kinds but lists a value is seen as it is -/
theorem vw_same {S : Store} {v u : PV} (e : vw S v = u) (h : ∀ xs, u ≠ .lst xs) : v = u := by
  rcases vw_cases S v with ⟨n, ys, _, _, q⟩ | ⟨ys, _, q⟩ | q
  · rw [q] at e; exact absurd e.symm (h ys)
  · rw [q] at e; exact absurd e.symm (h ys)
  · rw [q] at e; exact e
theorem vwA_same {S : Store} {v u : PV} (e : vwA S v = u) (h : ∀ xs, u ≠ .lst xs) : v = u := by
  rcases vwA_cases S v with ⟨n, ys, _, _, q⟩ | q
  · rw [q] at e; exact absurd e.symm (h ys)
  · rw [q] at e; exact e
theorem vw_tup {S : Store} {H : Hp} {v : PV} {w : V} {xs : List PV} (b : BR T W S H) (r : Rel T W v w) (e : vw S v = .tup xs) : ∃ a vs, w = .ref a ∧ TupAt T.K H a vs ∧ Rels T W xs vs := by
  cases vw_same e (fun _ => nofun)
  cases r with
  | tup h r => exact ⟨_, _, rfl, TupAt.upw b.frz h, r⟩
theorem vw_int {S : Store} {v : PV} {i : Int} (e : vw S v = .int i) : v = .int i := vw_same e (fun _ => nofun)
theorem vw_str {S : Store} {v : PV} {i : Str} (e : vw S v = .str i) : v = .str i := vw_same e (fun _ => nofun)
theorem vw_bl {S : Store} {v : PV} {i : Bool} (e : vw S v = .bl i) : v = .bl i := vw_same e (fun _ => nofun)
theorem vw_non {S : Store} {v : PV} (e : vw S v = .non) : v = .non := vw_same e (fun _ => nofun)
theorem vwA_int {S : Store} {v : PV} {i : Int} (e : vwA S v = .int i) : v = .int i := vwA_same e (fun _ => nofun)
theorem vwA_str {S : Store} {v : PV} {i : Str} (e : vwA S v = .str i) : v = .str i := vwA_same e (fun _ => nofun)
theorem vwA_tup {S : Store} {H : Hp} {v : PV} {w : V} {xs : List PV} (b : BR T W S H) (r : Rel T W v w) (e : vwA S v = .tup xs) : ∃ a vs, w = .ref a ∧ TupAt T.K H a vs ∧ Rels T W xs vs := by
  cases vwA_same e (fun _ => nofun)
  cases r with
  | tup h r => exact ⟨_, _, rfl, TupAt.upw b.frz h, r⟩
/-! data -/
mutual
theorem dp_of {H : Hp} (hF : ∀ a o, W.Φ a = some o → H a = some o) : ∀ (x : PV) (w : V) (d : PyData), Rel T W x w → toD x = some d → Dp T.K H w d
  | .non, _, _, r, e => by cases r; simp only [toD] at e; cases e; exact .non
  | .bl b, _, _, r, e => by cases r; simp only [toD] at e; cases e; exact .bl b
  | .int i, _, _, r, e => by cases r; simp only [toD] at e; cases e; exact .int i
  | .str x, _, _, r, e => by cases r; simp only [toD] at e; cases e; exact .str x
  | .tup xs, _, _, .tup h r, e => by
    simp only [toD] at e
    cases q : toDs xs with
    | none => rw [q] at e; cases e
    | some ds => rw [q] at e; cases e; exact .tup (TupAt.upw hF h).sq (dps_of hF xs _ ds r q)
  | .lst xs, _, _, .lst h r, e => by
    simp only [toD] at e
    cases q : toDs xs with
    | none => rw [q] at e; cases e
    | some ds => rw [q] at e; cases e; exact .lst (SqL.of (hF _ _ h)) (dps_of hF xs _ ds r q)
  | .dct _ _, _, _, _, e => by simp [toD] at e
  | .obj _ _, _, _, _, e => by simp [toD] at e
  | .exc _ _, _, _, _, e => by simp [toD] at e
  | .ref _, _, _, _, e => by simp [toD] at e
  | .scr _, _, _, _, e => by simp [toD] at e
theorem dps_of {H : Hp} (hF : ∀ a o, W.Φ a = some o → H a = some o) : ∀ (x : List PV) (w : List V) (d : List PyData), Rels T W x w → toDs x = some d → DpAll T.K H w d
  | [], _, _, .nil, e => by simp only [toDs] at e; cases e; exact .nil
  | x :: xs, _, _, .cons h t, e => by
    simp only [toDs] at e
    cases q : toD x with
    | none => rw [q] at e; cases e
    | some d =>
      cases q2 : toDs xs with
      | none => rw [q, q2] at e; cases e
      | some ds =>
        rw [q, q2] at e
        cases e
        exact .cons (dp_of hF x _ d h q) (dps_of hF xs _ ds t q2)
end
theorem dp_vw {S : Store} {H : Hp} {v : PV} {w : V} {d : PyData} (b : BR T W S H) (r : Rel T W v w) (e : toD (vw S v) = some d) : Dp T.K H w d := by
  rcases vw_cases S v with ⟨n, ys, _, _, q⟩ | ⟨ys, _, q⟩ | q
  · obtain ⟨a, vs, rfl, h, rr⟩ := vw_lst b r q
    rw [q] at e; simp only [toD] at e
    cases q : toDs ys with
    | none => rw [q] at e; cases e
    | some ds => rw [q] at e; cases e; exact .lst h (dps_of b.frz ys _ ds rr q)
  · obtain ⟨a, vs, rfl, h, rr⟩ := vw_lst b r q
    rw [q] at e; simp only [toD] at e
    cases q : toDs ys with
    | none => rw [q] at e; cases e
    | some ds => rw [q] at e; cases e; exact .lst h (dps_of b.frz ys _ ds rr q)
  · rw [q] at e; exact dp_of b.frz _ _ _ r e
theorem Rels.empty {xs : List PV} {vs : List V} (r : Rels T W xs vs) : xs.isEmpty = vs.isEmpty := by cases r <;> rfl
/-- truth -/
theorem truthV_ok {S : Store} {H : Hp} {v : PV} {w : V} {k : Bool} (b : BR T W S H) (r : Rel T W v w) (e : truthV S v = some k) : TruV T.K w H k := by
  unfold truthV at e
  cases q : vw S v with
  | non => rw [q] at e; cases e; cases vw_non q; cases r; exact rfl
  | bl a => rw [q] at e; cases e; cases vw_bl q; cases r; exact rfl
  | int a => rw [q] at e; cases e; cases vw_int q; cases r; exact rfl
  | str a =>
    rw [q] at e
    cases vw_str q; cases r
    simp only at e
    split at e
    · cases e; exact ⟨by assumption, rfl⟩
    · cases e
  | tup xs =>
    rw [q] at e; cases e
    obtain ⟨a, vs, rfl, h, rr⟩ := vw_tup b r q
    exact .inr (.inl ⟨vs, h.sq, by rw [rr.empty]⟩)
  | lst xs =>
    rw [q] at e; cases e
    obtain ⟨a, vs, rfl, h, rr⟩ := vw_lst b r q
    exact .inl ⟨vs, h, by rw [rr.empty]⟩
  | _ => rw [q] at e; cases e
end RF
/-! Fd: operators, built-in functions, subscripts: by values. -/
namespace RF
open PySem L2
section
variable (T : Cs)
def R2F (f : Store → PV → PV → Option PV) : R2 := fun x y H Q => ∃ W S a b v, BR T W S H ∧ Rel T W a x ∧ Rel T W b y ∧ f S a b = some v ∧ ∀ W' H' w, W.le W' → BR T W' S H' → Rel T W' v w → Q w H'
def RnF (f : Store → List PV → Option PV) : List V → Hp → VK → Prop := fun xs H Q => ∃ W S as v, BR T W S H ∧ Rels T W as xs ∧ f S as = some v ∧ ∀ W' H' w, W.le W' → BR T W' S H' → Rel T W' v w → Q w H'
end
variable {T : Cs} {X : Cx}
def bop : BOp → Operator
  | .add => .Add | .sub => .Sub | .mul => .Mult | .fdiv => .FloorDiv | .mod => .Mod | .pow => .Pow | .band => .BitAnd
def cop : COp → CmpOp
  | .eq => .Eq | .ne => .NotEq | .lt => .Lt | .le => .LtE | .gt => .Gt | .ge => .GtE | .inn => .In | .nin => .NotIn | .is => .Is | .isn => .IsNot
theorem inI64_iff {i : Int} (h : inI64 i = true) : -(2 ^ 64) < i ∧ i < 2 ^ 64 := of_decide_eq_true h
/-! ### new tuples, with their objects told -/
theorem laid_tup {pins : List (Addr × Obj)} {σ : St} {H : Hp} {s : Shared} {vs : List V} {us : List Value} {t' : Nat} (I : L2.Inv X pins σ H s) (r : Vals vs us) (hz : vs.length ≤ sizeLine) :
    L2.Inv X pins σ (upd H s.heap.objs.size (.frz (tupO us) (.tup vs))) { s with heap := s.heap.push (tupO us), toks := t' } := by
  refine I.laid (fun _ _ q => Heap.get?_push_of_some _ q) (Nat.le_refl _) ?_
  have e : (s.heap.push (tupO us)).get? s.heap.objs.size = some (tupO us) := Heap.get?_push_size _ rfl
  exact ⟨e, hz, us, r, ⟨_, e, rfl, _, rfl⟩⟩
/-- t + u -/
theorem cat_ok : OpR X (binaryOp .Add) (fun x y H Q => ∃ a b xs ys, x = .ref a ∧ y = .ref b ∧ SqT X.K H a xs ∧ SqT X.K H b ys ∧ xs.length + ys.length ≤ sizeLine ∧
    (xs = [] → Q (.ref b) H) ∧ (xs ≠ [] → ys = [] → Q (.ref a) H) ∧ (xs ≠ [] → ys ≠ [] → ∀ p us, H p = none → Q (.ref p) (upd H p (.frz (tupO us) (.tup (xs ++ ys)))))) := by
  intro pins s σ H x y v u Q I rx ry h
  obtain ⟨a, b, xs, ys, rfl, rfl, ha, hb, hz, q0, q1, q2⟩ := h
  by_cases hx : xs = []
  · exact op_catA pins s σ H _ _ v u Q I rx ry ⟨a, b, xs, ys, rfl, rfl, ha, hb, hz, q0, q1, fun h => absurd hx h⟩
  · cases rx
    cases ry
    obtain ⟨l1, r1, p1, _⟩ := I.tuple ha
    obtain ⟨l2, r2, p2, _⟩ := I.tuple hb
    have hl1 := r1.length
    have hl2 := r2.length
    refine HT.cat_tup p1 p2 (fun z => hx (r1.nil_iff.mp z)) (fun z => ⟨.ref a, H, I, rfl, q1 hx (r2.nil_iff.mp z)⟩) (fun z => ?_) (by omega)
    exact ⟨.ref s.heap.objs.size, _, laid_tup (t' := s.toks) I (r1.append r2) (by rw [List.length_append]; exact hz), rfl, q2 hx (fun w => z (r2.nil_iff.mpr w)) _ _ (I.hok.fresh (Nat.le_refl _))⟩
/-- t[lo:hi] -/
theorem cut_ok : SlR X (fun x lo hi H Q => ∃ a xs, x = .ref a ∧ SqT X.K H a xs ∧ (HT.sIx xs.length 0 lo = 0 ∧ HT.sIx xs.length xs.length hi = xs.length → Q (.ref a) H) ∧
    (¬ (HT.sIx xs.length 0 lo = 0 ∧ HT.sIx xs.length xs.length hi = xs.length) → ∀ p us, H p = none → Q (.ref p) (upd H p (.frz (tupO us) (.tup (cutV xs lo hi)))))) := by
  intro pins s σ H x v vl vu lo hi sl Q I rx hs pl pu h
  obtain ⟨a, xs, rfl, hx, q1, q2⟩ := h
  by_cases hw : HT.sIx xs.length 0 lo = 0 ∧ HT.sIx xs.length xs.length hi = xs.length
  · exact sl_tupA pins s σ H _ v vl vu lo hi sl Q I rx hs pl pu ⟨a, xs, rfl, hx, q1, fun h => absurd hw h⟩
  · cases rx
    obtain ⟨its, r, ht, hz⟩ := I.tuple hx
    have hl : its.toArray.size = xs.length := by rw [List.size_toArray]; exact r.length.symm
    refine ⟨"tuple", _, PyProof.Rows.slot_tuple_getitem.lookup, ht.typeIs, HT.getItem_tuple_cut ht hs pl pu (by rw [hl]; exact hw) ?_ (by rw [hl]; exact hz)⟩
    rw [hl]
    exact ⟨.ref s.heap.objs.size, _, laid_tup (t' := s.toks) I ((r.drop _).take _) (Nat.le_trans (cutV_length xs lo hi) hz), rfl, q2 hw _ _ (I.hok.fresh (Nat.le_refl _))⟩
/-- tuple(l), tuple(t) -/
theorem tuple_ok : CallR X (.type "tuple") (fun xs H Q => ∃ p ys, xs = [.ref p] ∧ ((SqL X.K H p ys ∧ ∀ l us, H l = none → Q (.ref l) (upd H l (.frz (tupO us) (.tup ys)))) ∨ (SqT X.K H p ys ∧ Q (.ref p) H))) := by
  intro pins s σ H xs us Q I r h
  obtain ⟨p, ys, rfl, h⟩ := h
  rcases h with ⟨hq, q⟩ | ⟨hq, q⟩
  · obtain ⟨u, rfl, rx⟩ := vals1 r
    cases rx
    obtain ⟨its, r', pl, hz⟩ := I.list hq
    have hl := r'.length
    refine call_tuple_list pl.isList (fun h' kp => ?_) (by simp only [List.size_toArray]; omega)
    have J : L2.Inv X pins σ H { s with heap := h' } := I.kept (t' := s.toks) kp
    exact ⟨.ref h'.objs.size, _, laid_tup (t' := s.toks) J r' hz, rfl, q _ _ (J.hok.fresh (Nat.le_refl _))⟩
  · exact call_tuple_of pins s σ H _ us Q I r ⟨p, ys, rfl, .inr ⟨hq, q⟩⟩
/-- divmod -/
theorem divmod_ok : CallR X (.builtin "divmod") (fun xs H Q => ∃ i j, xs = [.int i, .int j] ∧ CDiv i j ∧ ∀ p us, H p = none → Q (.ref p) (upd H p (.frz (tupO us) (.tup [.int (i / j), .int (i % j)])))) := by
  intro pins s σ H xs us Q I r h
  obtain ⟨i, j, rfl, ⟨h1, h2⟩, q⟩ := h
  obtain ⟨u, w', rfl, ⟨t, rfl⟩, ⟨t', rfl⟩⟩ := vals2 r
  refine PyProof.Rows.divmod_int (by omega) ?_ (.inl (PyProof.noPylong_small (by omega)))
  rw [Int.fdiv_eq_ediv_of_nonneg i (by omega), Int.fmod_eq_emod_of_nonneg i (by omega)]
  exact ⟨.ref s.heap.objs.size, _, laid_tup I (vs := [.int (i / j), .int (i % j)]) (us := [.int (i / j) s.toks, .int (i % j) (s.toks + 1)]) (.cons ⟨_, rfl⟩ (.cons ⟨_, rfl⟩ .nil)) (by show 2 ≤ sizeLine; decide), rfl, q _ _ (I.hok.fresh (Nat.le_refl _))⟩
theorem bin_ok (hK : T.K = X.K) (o : BOp) : OpR X (binaryOp (bop o)) (R2F T fun S => binV S o) := by
  intro pins s σ H x y v u Q I rx ry h
  obtain ⟨W, S, a, b, z, br, ra, rb, e, q⟩ := h
  dsimp only at e
  unfold binV at e
  split at e
  · -- int + int
    rename_i i j e1 e2
    cases e; cases vwA_int e1; cases vwA_int e2; cases ra; cases rb
    exact op_add pins s σ H _ _ v u Q I rx ry ⟨i, j, rfl, rfl, q W H _ (.refl W) br (.int _)⟩
  · -- str + str
    rename_i i j e1 e2
    split at e
    · rename_i hz
      cases e; cases vwA_str e1; cases vwA_str e2; cases ra; cases rb
      exact op_add_str pins s σ H _ _ v u Q I rx ry ⟨i, j, rfl, rfl, hz, q W H _ (.refl W) br (.str _)⟩
    · cases e
  · -- tup + tup
    rename_i i j e1 e2
    split at e
    · rename_i hz
      cases e
      obtain ⟨p1, v1, rfl, h1, r1⟩ := vwA_tup br ra e1
      obtain ⟨p2, v2, rfl, h2, r2⟩ := vwA_tup br rb e2
      have l1 := r1.length
      have l2 := r2.length
      refine cat_ok pins s σ H _ _ v u Q I rx ry ⟨p1, p2, v1, v2, rfl, rfl, by rw [← hK]; exact h1.sq, by rw [← hK]; exact h2.sq, by omega, fun e0 => ?_, fun _ e0 => ?_, fun _ _ p us np => ?_⟩
      · subst e0
        cases r1
        cases vwA_same e2 (fun _ => nofun)
        exact q W H _ (.refl W) br (by simpa using rb)
      · subst e0
        cases r2
        cases vwA_same e1 (fun _ => nofun)
        exact q W H _ (.refl W) br (by simpa using ra)
      · obtain ⟨b2, le⟩ := br.alloc (o := .frz (tupO us) (.tup (v1 ++ v2))) np
        exact q _ _ _ le b2 (.tup TupAt.new ((r1.mono le).append (r2.mono le)))
    · cases e
  · -- lst + lst
    rename_i i j e1 e2
    split at e
    · rename_i hz
      cases e
      obtain ⟨p1, v1, rfl, h1, r1⟩ := vwA_lst br ra e1
      obtain ⟨p2, v2, rfl, h2, r2⟩ := vwA_lst br rb e2
      have l1 := r1.length
      have l2 := r2.length
      refine op_cat pins s σ H _ _ v u Q I rx ry ⟨p1, p2, v1, v2, rfl, rfl, h1, h2, by omega, fun p np => ?_⟩
      obtain ⟨b2, le⟩ := br.alloc (o := .lst (v1 ++ v2)) np
      exact q _ _ _ le b2 (.lst upd_same ((r1.mono le).append (r2.mono le)))
    · cases e
  · rename_i i j e1 e2
    cases e; cases vwA_int e1; cases vwA_int e2; cases ra; cases rb
    exact op_sub pins s σ H _ _ v u Q I rx ry ⟨i, j, rfl, rfl, q W H _ (.refl W) br (.int _)⟩
  · rename_i i j e1 e2
    split at e
    · rename_i hz
      cases e; cases vwA_int e1; cases vwA_int e2; cases ra; cases rb
      refine op_mul pins s σ H _ _ v u Q I rx ry ⟨i, j, rfl, rfl, ?_, q W H _ (.refl W) br (.int _)⟩
      rcases Bool.or_eq_true _ _ ▸ hz with hz | hz
      · exact .inl (inI64_iff hz)
      · exact .inr (inI64_iff hz)
    · cases e
  · rename_i i j e1 e2
    split at e
    · rename_i hz
      cases e; cases vwA_int e1; cases vwA_int e2; cases ra; cases rb
      exact op_fdiv pins s σ H _ _ v u Q I rx ry ⟨i, j, rfl, rfl, hz, q W H _ (.refl W) br (.int _)⟩
    · cases e
  · rename_i i j e1 e2
    split at e
    · rename_i hz
      cases e; cases vwA_int e1; cases vwA_int e2; cases ra; cases rb
      exact op_mod pins s σ H _ _ v u Q I rx ry ⟨i, j, rfl, rfl, hz, q W H _ (.refl W) br (.int _)⟩
    · cases e
  · rename_i i j e1 e2
    split at e
    · rename_i hz
      cases e; cases vwA_int e1; cases vwA_int e2; cases ra; cases rb
      exact op_pow pins s σ H _ _ v u Q I rx ry ⟨i, j, rfl, rfl, hz, q W H _ (.refl W) br (.int _)⟩
    · cases e
  · rename_i i j e1 e2
    cases e; cases vwA_int e1; cases vwA_int e2; cases ra; cases rb
    exact op_and pins s σ H _ _ v u Q I rx ry ⟨i, j, rfl, rfl, q W H _ (.refl W) br (.int _)⟩
  · cases e
/-! ### comparisons -/
theorem occ_str {pins : List (Addr × Obj)} {σ : St} {H : Hp} {s : Shared} : True := trivial
/-- x in a tuple of data -/
theorem op_inDT (hu : X.A.units + 65 < cLine) : OpR X (compareOp .In) (fun x y H Q => ∃ d ds, Dp X.K H x d ∧ Dp X.K H y (.tuple ds) ∧ SeqAt.shaped d = true ∧ SeqAt.shaped (.tuple ds) = true ∧ Q (.bl (ds.any fun z => PyData.eqv z d)) H) := by
  intro pins s σ H x y v u Q I rx ry h
  obtain ⟨d, ds, hd, he, sd, se, q⟩ := h
  obtain ⟨as, r1⟩ := Dp.reads I d x v hd rx
  obtain ⟨bs, r2⟩ := Dp.reads I _ y u he ry
  exact SeqAt.in_tuple_reads r2 r1 (SeqAt.canLay_of_shaped se) (SeqAt.canLay_of_shaped sd) (PyProof.Rows.room_in_shaped sd hu) ⟨.bl _, H, I, rfl, q⟩
theorem op_notInDT (hu : X.A.units + 65 < cLine) : OpR X (compareOp .NotIn) (fun x y H Q => ∃ d ds, Dp X.K H x d ∧ Dp X.K H y (.tuple ds) ∧ SeqAt.shaped d = true ∧ SeqAt.shaped (.tuple ds) = true ∧ Q (.bl (!ds.any fun z => PyData.eqv z d)) H) := by
  intro pins s σ H x y v u Q I rx ry h
  obtain ⟨d, ds, hd, he, sd, se, q⟩ := h
  obtain ⟨as, r1⟩ := Dp.reads I d x v hd rx
  obtain ⟨bs, r2⟩ := Dp.reads I _ y u he ry
  exact SeqAt.notIn_tuple_reads r2 r1 (SeqAt.canLay_of_shaped se) (SeqAt.canLay_of_shaped sd) (PyProof.Rows.room_in_shaped sd hu) ⟨.bl _, H, I, rfl, q⟩
theorem eqD_ok {W : Wd} {S : Store} {H : Hp} {a b : PV} {x y : V} {k : Bool} (br : BR T W S H) (ra : Rel T W a x) (rb : Rel T W b y) (e : eqD S a b = some k) :
    ∃ d e', Dp T.K H x d ∧ Dp T.K H y e' ∧ SeqAt.shaped d = true ∧ SeqAt.shaped e' = true ∧ k = PyData.eqv d e' := by
  unfold eqD at e
  split at e
  · rename_i d f e1 e2
    split at e
    · rename_i hs
      cases e
      rw [Bool.and_eq_true] at hs
      exact ⟨d, f, dp_vw br ra e1, dp_vw br rb e2, hs.1, hs.2, rfl⟩
    · cases e
  · cases e
/-- what x in y says -/
inductive InD (S : Store) (a b : PV) (k : Bool) : Prop where
  | str (i j : Str) (e1 : a = .str i) (e2 : b = .str j) (h : k = !(Builtin.Str.occurrences j i 0 j.length 1).isEmpty)
  | tup (d : PyData) (ys : List PV) (ds : List PyData) (e1 : toD (vw S a) = some d) (e2 : vw S b = .tup ys) (e3 : toDs ys = some ds) (sd : SeqAt.shaped d = true) (se : SeqAt.shaped (.tuple ds) = true) (h : k = ds.any fun z => PyData.eqv z d)
  | lst (d : PyData) (ys : List PV) (ds : List PyData) (e1 : toD (vw S a) = some d) (e2 : vw S b = .lst ys) (e3 : toDs ys = some ds) (sd : SeqAt.shaped d = true) (se : SeqAt.shaped (.list ds) = true) (h : k = ds.any fun z => PyData.eqv z d)
theorem inD_cases {S : Store} {a b : PV} {k : Bool} (e : inD S a b = some k) : InD S a b k := by
  have gT : ∀ ys, vw S b = .tup ys → (match toD (vw S a), toDs ys with
      | some d, some ds => if SeqAt.shaped d && SeqAt.shaped (.tuple ds) then some (ds.any fun z => PyData.eqv z d) else none
      | _, _ => none) = some k → InD S a b k := fun ys e2 e => by
    split at e
    · rename_i d ds q1 q2
      split at e
      · rename_i hs
        cases e
        rw [Bool.and_eq_true] at hs
        exact .tup d ys ds q1 e2 q2 hs.1 hs.2 rfl
      · cases e
    · cases e
  have gL : ∀ ys, vw S b = .lst ys → (match toD (vw S a), toDs ys with
      | some d, some ds => if SeqAt.shaped d && SeqAt.shaped (.list ds) then some (ds.any fun z => PyData.eqv z d) else none
      | _, _ => none) = some k → InD S a b k := fun ys e2 e => by
    split at e
    · rename_i d ds q1 q2
      split at e
      · rename_i hs
        cases e
        rw [Bool.and_eq_true] at hs
        exact .lst d ys ds q1 e2 q2 hs.1 hs.2 rfl
      · cases e
    · cases e
  unfold inD at e
  cases hb : vw S b with
  | tup ys => refine gT ys hb ?_; rw [hb] at e; cases ha : vw S a <;> rw [ha] at e <;> exact e
  | lst ys => refine gL ys hb ?_; rw [hb] at e; cases ha : vw S a <;> rw [ha] at e <;> exact e
  | str j =>
    cases ha : vw S a with
    | str i => rw [ha, hb] at e; cases e; exact .str i j (vw_str ha) (vw_str hb) rfl
    | _ => rw [ha, hb] at e; cases e
  | _ => rw [hb] at e; cases ha : vw S a <;> rw [ha] at e <;> cases e
theorem eqT_cases (S : Store) (a b : PV) : (∃ i j, a = .str i ∧ b = .str j ∧ eqT S a b = some (decide (i = j))) ∨ eqT S a b = eqD S a b := by
  unfold eqT
  split
  · exact .inl ⟨_, _, rfl, rfl, rfl⟩
  · exact .inr rfl
theorem cmp_ok (hK : T.K = X.K) (hu : X.A.units + 65 < cLine) (o : COp) (hn : o ≠ .is ∧ o ≠ .isn) : OpR X (compareOp (cop o)) (R2F T fun S a b => (cmpV S o a b).map .bl) := by
  intro pins s σ H x y v u Q I rx ry h
  obtain ⟨W, S, a, b, z, br, ra, rb, e, q⟩ := h
  cases o with
  | eq =>
    simp only [cmpV] at e
    rcases eqT_cases S a b with ⟨i, j, rfl, rfl, et⟩ | et
    · rw [et] at e; cases e; cases ra; cases rb
      refine op_eq pins s σ H _ _ v u Q I rx ry ⟨rfl, ?_⟩
      have := q W H _ (.refl W) br (.bl _)
      rwa [show decide (V.str i = V.str j) = decide (i = j) by by_cases h : i = j <;> simp [h]]
    rw [et] at e
    cases ek : eqD S a b with
    | none => rw [ek] at e; cases e
    | some k =>
      rw [ek] at e; cases e
      obtain ⟨d, f, h1, h2, s1, s2, rfl⟩ := eqD_ok br ra rb ek
      rw [hK] at h1 h2
      exact op_eqD (by omega) pins s σ H x y v u Q I rx ry ⟨d, f, h1, h2, s1, s2, q W H _ (.refl W) br (.bl _)⟩
  | ne =>
    simp only [cmpV] at e
    rcases eqT_cases S a b with ⟨i, j, rfl, rfl, et⟩ | et
    · rw [et] at e; cases e; cases ra; cases rb
      refine op_ne pins s σ H _ _ v u Q I rx ry ⟨rfl, ?_⟩
      have := q W H _ (.refl W) br (.bl _)
      rwa [show decide (V.str i = V.str j) = decide (i = j) by by_cases h : i = j <;> simp [h]]
    rw [et] at e
    cases ek : eqD S a b with
    | none => rw [ek] at e; cases e
    | some k =>
      rw [ek] at e; cases e
      obtain ⟨d, f, h1, h2, s1, s2, rfl⟩ := eqD_ok br ra rb ek
      rw [hK] at h1 h2
      exact op_neD (by omega) pins s σ H x y v u Q I rx ry ⟨d, f, h1, h2, s1, s2, q W H _ (.refl W) br (.bl _)⟩
  | lt =>
    simp only [cmpV] at e
    split at e
    · cases e; cases ra; cases rb
      exact op_lt pins s σ H _ _ v u Q I rx ry ⟨_, _, rfl, rfl, q W H _ (.refl W) br (.bl _)⟩
    · cases e; cases ra; cases rb
      exact op_lt_str pins s σ H _ _ v u Q I rx ry ⟨_, _, rfl, rfl, q W H _ (.refl W) br (.bl _)⟩
    · cases e
  | le =>
    simp only [cmpV] at e
    split at e
    · cases e; cases ra; cases rb
      exact op_le pins s σ H _ _ v u Q I rx ry ⟨_, _, rfl, rfl, q W H _ (.refl W) br (.bl _)⟩
    · cases e
  | gt =>
    simp only [cmpV] at e
    split at e
    · cases e; cases ra; cases rb
      exact op_gt pins s σ H _ _ v u Q I rx ry ⟨_, _, rfl, rfl, q W H _ (.refl W) br (.bl _)⟩
    · cases e
  | ge =>
    simp only [cmpV] at e
    split at e
    · cases e; cases ra; cases rb
      exact op_ge pins s σ H _ _ v u Q I rx ry ⟨_, _, rfl, rfl, q W H _ (.refl W) br (.bl _)⟩
    · cases e
  | inn =>
    simp only [cmpV] at e
    cases ek : inD S a b with
    | none => rw [ek] at e; cases e
    | some k =>
      rw [ek] at e; cases e
      cases inD_cases ek with
      | str i j e1 e2 h =>
        subst e1 e2 h; cases ra; cases rb
        exact op_in_str pins s σ H _ _ v u Q I rx ry ⟨i, j, rfl, rfl, q W H _ (.refl W) br (.bl _)⟩
      | tup d ys ds e1 e2 e3 sd se h =>
        subst h
        have h1 := dp_vw br ra e1
        have h2 := dp_vw (d := .tuple ds) br rb (by rw [e2]; simp only [toD, e3]; rfl)
        rw [hK] at h1 h2
        exact op_inDT hu pins s σ H x y v u Q I rx ry ⟨d, ds, h1, h2, sd, se, q W H _ (.refl W) br (.bl _)⟩
      | lst d ys ds e1 e2 e3 sd se h =>
        subst h
        have h1 := dp_vw br ra e1
        have h2 := dp_vw (d := .list ds) br rb (by rw [e2]; simp only [toD, e3]; rfl)
        rw [hK] at h1 h2
        exact op_inD hu pins s σ H x y v u Q I rx ry ⟨d, ds, h1, h2, sd, se, q W H _ (.refl W) br (.bl _)⟩
  | nin =>
    simp only [cmpV] at e
    cases ek : inD S a b with
    | none => rw [ek] at e; cases e
    | some k =>
      rw [ek] at e; cases e
      cases inD_cases ek with
      | str i j e1 e2 h =>
        subst e1 e2 h; cases ra; cases rb
        exact op_notin_str pins s σ H _ _ v u Q I rx ry ⟨i, j, rfl, rfl, q W H _ (.refl W) br (.bl _)⟩
      | tup d ys ds e1 e2 e3 sd se h =>
        subst h
        have h1 := dp_vw br ra e1
        have h2 := dp_vw (d := .tuple ds) br rb (by rw [e2]; simp only [toD, e3]; rfl)
        rw [hK] at h1 h2
        exact op_notInDT hu pins s σ H x y v u Q I rx ry ⟨d, ds, h1, h2, sd, se, q W H _ (.refl W) br (.bl _)⟩
      | lst d ys ds e1 e2 e3 sd se h =>
        subst h
        have h1 := dp_vw br ra e1
        have h2 := dp_vw (d := .list ds) br rb (by rw [e2]; simp only [toD, e3]; rfl)
        rw [hK] at h1 h2
        exact op_notInD hu pins s σ H x y v u Q I rx ry ⟨d, ds, h1, h2, sd, se, q W H _ (.refl W) br (.bl _)⟩
  | is => exact absurd rfl hn.1
  | isn => exact absurd rfl hn.2
end RF
/-! Fe: built-in functions, subscripts, slices, methods: by values. -/
namespace RF
open PySem L2
variable {T : Cs} {X : Cx}
theorem is_ok (hK : T.K = X.K) (neg : Bool) : OpR X (compareOp (if neg then .IsNot else .Is)) (R2F T fun S a b => (cmpV S (if neg then .isn else .is) a b).map .bl) := by
  intro pins s σ H x y v u Q I rx ry h
  obtain ⟨W, S, a, b, z, br, ra, rb, e, q⟩ := h
  have nonIff : ∀ {a : PV} {x : V}, Rel T W a x → (decide (x = V.non)) = (match a with | .non => true | _ => false) := fun {a x} r => by
    cases r <;> rfl
  cases neg with
  | false =>
    simp only [Bool.false_eq_true, if_false, cmpV] at e ⊢
    split at e
    · cases e; cases rb
      refine op_isN pins s σ H _ _ v u Q I rx ry ⟨rfl, ?_⟩
      rw [nonIff ra]
      exact q W H _ (.refl W) br (.bl _)
    · split at e
      · cases e; cases ra; cases rb
        exact op_is_bl pins s σ H _ _ v u Q I rx ry ⟨_, _, rfl, rfl, q W H _ (.refl W) br (.bl _)⟩
      · cases e
    · cases e
  | true =>
    simp only [if_true, cmpV] at e ⊢
    split at e
    · cases e; cases rb
      refine op_notN pins s σ H _ _ v u Q I rx ry ⟨rfl, ?_⟩
      rw [nonIff ra]
      refine q W H _ (.refl W) br ?_
      cases a <;> exact .bl _
    · split at e
      · cases e; cases ra; cases rb
        exact op_isnot_bl pins s σ H _ _ v u Q I rx ry ⟨_, _, rfl, rfl, q W H _ (.refl W) br (.bl _)⟩
      · cases e
    · cases e
def bval : BFn → Value
  | .len => .builtin "len" | .all => .builtin "all" | .any => .builtin "any" | .min => .builtin "min" | .max => .builtin "max" | .abs => .builtin "abs"
  | .int => .type "int" | .str => .type "str" | .repr => .builtin "repr" | .tuple => .type "tuple" | .list => .type "list" | .divmod => .builtin "divmod"
  | .sum => .builtin "sum" | .bool => .type "bool"
theorem boolsP_ok {W : Wd} : ∀ {xs : List PV} {vs : List V} {bs : List Bool}, Rels T W xs vs → boolsP xs = some bs → vs = bs.map V.bl
  | [], _, _, .nil, e => by simp only [boolsP] at e; cases e; rfl
  | x :: xs, _, _, .cons h t, e => by
    cases x with
    | bl b =>
      simp only [boolsP] at e
      cases q : boolsP xs with
      | none => rw [q] at e; cases e
      | some l =>
        rw [q] at e; cases e; cases h
        rw [boolsP_ok t q]; rfl
    | _ => simp [boolsP] at e
theorem intsP_ok {W : Wd} : ∀ {xs : List PV} {vs : List V} {bs : List Int}, Rels T W xs vs → intsP xs = some bs → vs = bs.map V.int
  | [], _, _, .nil, e => by simp only [intsP] at e; cases e; rfl
  | x :: xs, _, _, .cons h t, e => by
    cases x with
    | int b =>
      simp only [intsP] at e
      cases q : intsP xs with
      | none => rw [q] at e; cases e
      | some l =>
        rw [q] at e; cases e; cases h
        rw [intsP_ok t q]; rfl
    | _ => simp [intsP] at e
theorem strsP_ok {W : Wd} : ∀ {xs : List PV} {vs : List V} {bs : List Str}, Rels T W xs vs → strsP xs = some bs → vs = bs.map V.str
  | [], _, _, .nil, e => by simp only [strsP] at e; cases e; rfl
  | x :: xs, _, _, .cons h t, e => by
    cases x with
    | str b =>
      simp only [strsP] at e
      cases q : strsP xs with
      | none => rw [q] at e; cases e
      | some l =>
        rw [q] at e; cases e; cases h
        rw [strsP_ok t q]; rfl
    | _ => simp [strsP] at e
mutual
theorem dp_nodict {K : PySem.W.Frag} {H : Hp} : ∀ {x : V} {d : PyData}, Dp K H x d → d.hasDict = false
  | _, _, .non => by simp only [PyData.hasDict]
  | _, _, .bl _ => by simp only [PyData.hasDict]
  | _, _, .int _ => by simp only [PyData.hasDict]
  | _, _, .str _ => by simp only [PyData.hasDict]
  | _, _, .lst _ h => by simp only [PyData.hasDict]; exact dps_nodict h
  | _, _, .tup _ h => by simp only [PyData.hasDict]; exact dps_nodict h
theorem dps_nodict {K : PySem.W.Frag} {H : Hp} : ∀ {x : List V} {d : List PyData}, DpAll K H x d → PyData.hasDictAll d = false
  | _, _, .nil => by simp only [PyData.hasDictAll]
  | _, _, .cons h t => by simp only [PyData.hasDictAll, dp_nodict h, dps_nodict t, Bool.or_self]
end
/-- repr of data -/
theorem reads_repr {pins : List (Addr × Obj)} {σ : St} {H : Hp} {s : Shared} {x : V} {u : Value} {d : PyData} {Q : VK} (hg : X.A.guards = some []) (hu : X.A.units + 70 < cLine) (I : L2.Inv X pins σ H s) (h : Dp X.K H x d) (r : RelV x u)
    (hs : d.showable = true) (hd : d.depth ≤ 64) (hz : d.shown.length ≤ sizeLine) (q : Q (.str d.shown) H) : wpAny (model X.prog X.w) X.A (PySem.call (.builtin "repr") [u]) (EP X pins σ Q) X.xe s := by
  have fin : ∀ (t : Tok) (k : Nat), EP X pins σ Q (.str d.shown t) { s with toks := k } := fun t k => ⟨.str d.shown, H, I.tok _, ⟨t, rfl⟩, q⟩
  have big : ∀ {a : Addr} {as : List Addr}, Reads s.heap (.ref a) d as → d.hasDict = false → wpAny (model X.prog X.w) X.A (PySem.call (.builtin "repr") [.ref a]) (EP X pins σ Q) X.xe s := fun {a as} rd nd =>
    repr_of_reads' rd hs (PyData.noDict_hsm nd) hg (by omega) (fun _ _ e => e) (fun h' t tk kp => ⟨.str d.shown, H, I.kept (t' := tk) kp, ⟨t, rfl⟩, q⟩) hz
  have hD := h
  cases h with
  | non =>
    cases r
    simp only [PyData.shown] at fin
    exact P.repr_of_none (fin _ _)
  | bl b =>
    cases r
    simp only [PyData.shown] at fin
    exact P.repr_of_bool (fin _ _)
  | int i =>
    obtain ⟨t, rfl⟩ := r
    simp only [PyData.shown] at fin
    simp only [PyData.showable, decide_eq_true_eq] at hs
    exact P.repr_of_int hs (fin _ _)
  | str z =>
    obtain ⟨t, rfl⟩ := r
    simp only [PyData.shown] at fin hz
    exact P.repr_of_str (fin _ _) hz
  | lst h1 h2 =>
    cases r
    obtain ⟨as, rd⟩ := Dp.reads I _ _ _ (.lst h1 h2) rfl
    exact big rd (dp_nodict hD)
  | tup h1 h2 =>
    cases r
    obtain ⟨as, rd⟩ := Dp.reads I _ _ _ (.tup h1 h2) rfl
    exact big rd (dp_nodict hD)
/-- divmod of great numbers -/
theorem vals_one {x : V} {us : List Value} (r : Vals [x] us) : ∃ u, us = [u] ∧ RelV x u := by
  cases r with
  | cons a b => cases b; exact ⟨_, rfl, a⟩
theorem Rels.one {W : Wd} {x : PV} {vs : List V} (r : Rels T W [x] vs) : ∃ w, vs = [w] ∧ Rel T W x w := by
  cases r with
  | cons h t => cases t; exact ⟨_, rfl, h⟩
theorem Rels.two {W : Wd} {x y : PV} {vs : List V} (r : Rels T W [x, y] vs) : ∃ w u, vs = [w, u] ∧ Rel T W x w ∧ Rel T W y u := by
  cases r with
  | cons h t =>
    obtain ⟨u, rfl, h2⟩ := Rels.one t
    exact ⟨_, _, rfl, h, h2⟩
def bCalm : BFn → Bool
  | .all => true | .any => true | .min => true | .max => true | .sum => true
  | _ => false
theorem bfn_ok (hK : T.K = X.K) (b : BFn) (hc : bCalm b = true → X.calm = true) (hg : X.A.guards = some []) (hu : X.A.units + 70 < cLine) : CallR X (bval b) (RnF T fun S l => bfnV S b l) := by
  intro pins s σ H xs us Q I rx h
  obtain ⟨W, S, as, z, br, ra, e, q⟩ := h
  dsimp only at e
  have one : ∀ {w}, Rel T W z w → Q w H := fun {w} r => q W H w (.refl W) br r
  unfold bfnV at e
  split at e
  · -- len
    rename_i x
    obtain ⟨vx, rfl, h1⟩ := ra.one
    split at e
    · rename_i zz e1
      split at e
      · rename_i hz
        cases e; cases vw_str e1; cases h1
        exact call_len_str pins s σ H _ us Q I rx ⟨zz, rfl, hz, one (.int _)⟩
      · cases e
    · rename_i ys e1
      cases e
      obtain ⟨p, vs, rfl, hh, rr⟩ := vw_tup br h1 e1
      refine call_len_seq pins s σ H _ us Q I rx ⟨p, vs, rfl, .inr (hK ▸ hh.sq), ?_⟩
      rw [← rr.length]; exact one (.int _)
    · rename_i ys e1
      cases e
      obtain ⟨p, vs, rfl, hh, rr⟩ := vw_lst br h1 e1
      refine call_len_seq pins s σ H _ us Q I rx ⟨p, vs, rfl, .inl (hK ▸ hh), ?_⟩
      rw [← rr.length]; exact one (.int _)
    · cases e
  · -- all
    obtain ⟨_, rfl, h1⟩ := ra.one
    split at e
    · rename_i ys e1
      cases hb : boolsP ys with
      | none => rw [hb] at e; cases e
      | some bs =>
        rw [hb] at e; cases e
        obtain ⟨p, vs, rfl, hh, rr⟩ := vw_lst br h1 e1
        cases boolsP_ok rr hb
        exact cr_all (hc rfl) pins s σ H _ us Q I rx ⟨p, bs, rfl, hK ▸ hh, one (.bl _)⟩
    · cases e
  · -- any
    obtain ⟨_, rfl, h1⟩ := ra.one
    split at e
    · rename_i ys e1
      cases hb : boolsP ys with
      | none => rw [hb] at e; cases e
      | some bs =>
        rw [hb] at e; cases e
        obtain ⟨p, vs, rfl, hh, rr⟩ := vw_lst br h1 e1
        cases boolsP_ok rr hb
        exact cr_any (hc rfl) pins s σ H _ us Q I rx ⟨p, bs, rfl, hK ▸ hh, one (.bl _)⟩
    · cases e
  · -- min
    obtain ⟨_, _, rfl, h1, h2⟩ := ra.two; cases h1; cases h2; cases e
    exact call_min2 (hc rfl) pins s σ H _ us Q I rx ⟨_, _, rfl, one (.int _)⟩
  · obtain ⟨_, _, rfl, h1, h2⟩ := ra.two; cases h1; cases h2; cases e
    exact call_max2 (hc rfl) pins s σ H _ us Q I rx ⟨_, _, rfl, one (.int _)⟩
  · obtain ⟨_, rfl, h1⟩ := ra.one; cases h1; cases e
    exact call_abs pins s σ H _ us Q I rx ⟨_, rfl, one (.int _)⟩
  · obtain ⟨_, rfl, h1⟩ := ra.one; cases h1; cases e
    exact call_int1 pins s σ H _ us Q I rx (.inl ⟨_, rfl, one (.int _)⟩)
  · obtain ⟨_, rfl, h1⟩ := ra.one; cases h1; cases e
    exact call_int1 pins s σ H _ us Q I rx (.inr ⟨_, rfl, one (.int _)⟩)
  · obtain ⟨_, rfl, h1⟩ := ra.one; cases h1
    split at e
    · rename_i hz
      cases e
      exact call_str_int pins s σ H _ us Q I rx ⟨_, rfl, hz, one (.str _)⟩
    · cases e
  · -- repr
    obtain ⟨_, rfl, h1⟩ := ra.one
    unfold reprV at e
    split at e
    · cases hd : toD (vw S _) with
      | none => rename_i e0; rw [hd] at e0; cases e0
      | some d =>
        rename_i e0
        cases hd.symm.trans e0
        split at e
        · rename_i hs
          cases e
          simp only [Bool.and_eq_true, decide_eq_true_eq] at hs
          obtain ⟨u, rfl, ru⟩ := vals_one rx
          exact reads_repr hg hu I (hK ▸ dp_vw br h1 hd) ru hs.1.1 hs.1.2 hs.2 (one (.str _))
        · cases e
    · cases e
  · -- tuple
    obtain ⟨_, rfl, h1⟩ := ra.one
    split at e
    · rename_i ys e1
      cases e
      obtain ⟨p, vs, rfl, hh, rr⟩ := vw_lst br h1 e1
      refine tuple_ok pins s σ H _ us Q I rx ⟨p, vs, rfl, .inl ⟨hK ▸ hh, fun l us' nl => ?_⟩⟩
      obtain ⟨b2, le⟩ := br.alloc (o := .frz (tupO us') (.tup vs)) nl
      exact q _ _ _ le b2 (.tup TupAt.new (rr.mono le))
    · rename_i ys e1
      cases e
      obtain ⟨p, vs, rfl, hh, rr⟩ := vw_tup br h1 e1
      refine tuple_ok pins s σ H _ us Q I rx ⟨p, vs, rfl, .inr ⟨hK ▸ hh.sq, ?_⟩⟩
      cases vw_same e1 (fun _ => nofun)
      exact one h1
    · cases e
  · -- list
    obtain ⟨_, rfl, h1⟩ := ra.one
    split at e
    · rename_i ys e1
      cases e
      obtain ⟨p, vs, rfl, hh, rr⟩ := vw_lst br h1 e1
      refine call_list_of pins s σ H _ us Q I rx ⟨p, vs, rfl, .inl (hK ▸ hh), fun l nl => ?_⟩
      obtain ⟨b2, le⟩ := br.alloc (o := .lst vs) nl
      exact q _ _ _ le b2 (.lst upd_same (rr.mono le))
    · rename_i ys e1
      cases e
      obtain ⟨p, vs, rfl, hh, rr⟩ := vw_tup br h1 e1
      refine call_list_of pins s σ H _ us Q I rx ⟨p, vs, rfl, .inr (hK ▸ hh.sq), fun l nl => ?_⟩
      obtain ⟨b2, le⟩ := br.alloc (o := .lst vs) nl
      exact q _ _ _ le b2 (.lst upd_same (rr.mono le))
    · cases e
  · -- divmod
    obtain ⟨_, _, rfl, h1, h2⟩ := ra.two; cases h1; cases h2
    split at e
    · rename_i hz
      cases e
      refine divmod_ok pins s σ H _ us Q I rx ⟨_, _, rfl, hz, fun p us' np => ?_⟩
      obtain ⟨b2, le⟩ := br.alloc (o := .frz (tupO us') (.tup [.int _, .int _])) np
      exact q _ _ _ le b2 (.tup TupAt.new (.cons (.int _) (.cons (.int _) .nil)))
    · cases e
  · -- sum
    obtain ⟨_, rfl, h1⟩ := ra.one
    split at e
    · rename_i ys e1
      cases hb : intsP ys with
      | none => rw [hb] at e; cases e
      | some bs =>
        rw [hb] at e; cases e
        obtain ⟨p, vs, rfl, hh, rr⟩ := vw_lst br h1 e1
        cases intsP_ok rr hb
        exact cr_sum (hc rfl) pins s σ H _ us Q I rx ⟨p, bs, rfl, hK ▸ hh, one (.int _)⟩
    · cases e
  · cases e
/-! ### subscripts -/
theorem atI_rel {W : Wd} {xs : List PV} {vs : List V} {i : Int} {v : PV} (r : Rels T W xs vs) (e : atI xs i = some v) : ∃ w, atI vs i = some w ∧ Rel T W v w := by
  unfold atI at e ⊢
  rw [← r.length]
  cases hn : ixN xs.length i with
  | none => rw [hn] at e; cases e
  | some j =>
    rw [hn] at e
    exact r.get e
theorem idx_ok (hK : T.K = X.K) : IxR X (R2F T idxV) := by
  intro ve se pins s σ H x y v u Q I rx ry h hsub
  obtain ⟨W, S, a, b, z, br, ra, rb, e, q⟩ := h
  have one : ∀ {w}, Rel T W z w → Q w H := fun {w} r => q W H w (.refl W) br r
  unfold idxV at e
  split at e
  · rename_i ys j e1
    obtain ⟨p, vs, rfl, hh, rr⟩ := vw_tup br ra e1
    obtain ⟨w, e2, r2⟩ := atI_rel rr e
    cases rb
    exact ix_tup ve se pins s σ H _ _ v u Q I rx ry ⟨p, vs, j, w, rfl, rfl, hK ▸ hh.sq, e2, one r2⟩ hsub
  · rename_i ys j e1
    obtain ⟨p, vs, rfl, hh, rr⟩ := vw_lst br ra e1
    obtain ⟨w, e2, r2⟩ := atI_rel rr e
    cases rb
    exact ix_list ve se pins s σ H _ _ v u Q I rx ry ⟨p, vs, j, w, rfl, rfl, hK ▸ hh, e2, one r2⟩ hsub
  · rename_i zz j e1
    split at e
    · rename_i hz
      cases hc : atI zz.cps.toList j with
      | none => rw [hc] at e; cases e
      | some c =>
        rw [hc] at e; cases e
        cases vw_str e1; cases ra; cases rb
        exact ix_str ve se pins s σ H _ _ v u Q I rx ry ⟨zz, j, c, rfl, rfl, hz, hc, one (.str _)⟩ hsub
    · cases e
  · cases e
/-! ### slices -/
def RsF (T : Cs) : V → Option Int → Option Int → Hp → VK → Prop := fun x lo hi H Q => ∃ W S a v, BR T W S H ∧ Rel T W a x ∧ slcV S a lo hi = some v ∧ ∀ W' H' w, W.le W' → BR T W' S H' → Rel T W' v w → Q w H'
theorem cut_rels {W : Wd} {xs : List PV} {vs : List V} (r : Rels T W xs vs) (lo hi : Option Int) : Rels T W (cutP xs lo hi) (cutV vs lo hi) := by
  unfold cutP cutV
  rw [r.length]
  exact (r.drop _).take _
theorem cutP_all {xs : List PV} {lo hi : Option Int} (h : HT.sIx xs.length 0 lo = 0 ∧ HT.sIx xs.length xs.length hi = xs.length) : cutP xs lo hi = xs := by
  unfold cutP
  rw [h.1, h.2]; simp
theorem slc_ok (hK : T.K = X.K) : SlR X (RsF T) := by
  intro pins s σ H x v vl vu lo hi sl Q I rx hs pl pu h
  obtain ⟨W, S, a, z, br, ra, e, q⟩ := h
  unfold slcV at e
  split at e
  · rename_i ys e1
    cases e
    obtain ⟨p, vs, rfl, hq, rr⟩ := vw_tup br ra e1
    have hl := rr.length
    refine cut_ok pins s σ H _ v vl vu lo hi sl Q I rx hs pl pu ⟨p, vs, rfl, hK ▸ hq.sq, fun hw => ?_, fun hw p2 us' np => ?_⟩
    · rw [← hl] at hw
      rw [cutP_all hw] at q
      cases vw_same e1 (fun _ => nofun)
      exact q W H _ (.refl W) br ra
    · obtain ⟨b2, le⟩ := br.alloc (o := .frz (tupO us') (.tup (cutV vs lo hi))) np
      exact q _ _ _ le b2 (.tup TupAt.new ((cut_rels rr lo hi).mono le))
  · rename_i ys e1
    cases e
    obtain ⟨p, vs, rfl, hq, rr⟩ := vw_lst br ra e1
    refine sl_list pins s σ H _ v vl vu lo hi sl Q I rx hs pl pu ⟨p, vs, rfl, hK ▸ hq, fun p2 np => ?_⟩
    obtain ⟨b2, le⟩ := br.alloc (o := .lst (cutV vs lo hi)) np
    exact q _ _ _ le b2 (.lst upd_same ((cut_rels rr lo hi).mono le))
  · rename_i zz e1
    split at e
    · rename_i hz
      cases e
      cases vw_str e1; cases ra
      exact sl_str pins s σ H _ v vl vu lo hi sl Q I rx hs pl pu ⟨zz, rfl, hz, q W H _ (.refl W) br (.str _)⟩
    · cases e
  · cases e
end RF
/-! Fp0: how arguments are bound. -/
namespace RF
open PySem L2
theorem forIn_run {α β : Type} {f : α → β → Sem (ForInStep β)} (g : β → α → β) (P : List α → β → Prop) (h : ∀ a l s, P (a :: l) s → f a s = pure (.yield (g s a)) ∧ P l (g s a)) : ∀ (l : List α) (s : β), P l s → forIn l s f = (pure (l.foldl g s) : Sem β)
  | [], s, _ => by simp
  | a :: l, s, hp => by
    obtain ⟨e, hp2⟩ := h a l s hp
    rw [List.forIn_cons, e, pure_bind]
    exact forIn_run g P h l (g s a) hp2
/-- the names of keywords, one behind the other -/
def KwOk (ps : List Str) : List (Str × Value) → List (Str × Value) → Prop
  | [], _ => True
  | (k, v) :: l, sl => ps.contains k = true ∧ (sl.lookup k).isSome = false ∧ KwOk ps l (sl ++ [(k, v)])
theorem foldl_app {α : Type} : ∀ (l s : List α), l.foldl (fun s a => s ++ [a]) s = s ++ l
  | [], s => by simp
  | a :: l, s => by rw [List.foldl_cons, foldl_app l]; simp
def fill (s : List (Str × Value)) (a : Str × Value) : List (Str × Value) := if (s.lookup a.1).isNone = true then s ++ [a] else s
theorem lookup_app {α : Type} {n : Str} : ∀ (a b : List (Str × α)), (a ++ b).lookup n = match a.lookup n with
    | some v => some v
    | none => b.lookup n
  | [], b => rfl
  | (k, v) :: a, b => by
    rw [List.cons_append, List.lookup_cons, List.lookup_cons]
    cases n == k with
    | true => rfl
    | false => exact lookup_app a b
theorem lookup_fill {n : Str} : ∀ (l s : List (Str × Value)), (l.foldl fill s).lookup n = (s ++ l).lookup n
  | [], s => by simp
  | a :: l, s => by
    rw [List.foldl_cons, lookup_fill l]
    unfold fill
    split
    · rw [List.append_assoc]; rfl
    · rename_i h
      rw [lookup_app, lookup_app]
      cases q : s.lookup n with
      | some v => rfl
      | none =>
        have hne : (n == a.1) = false := by
          cases z : n == a.1 with
          | false => rfl
          | true =>
            rw [beq_iff_eq.mp z] at q
            rw [q] at h
            exact absurd rfl h
        show List.lookup n l = List.lookup n ((a.1, a.2) :: l)
        rw [List.lookup_cons, hne]
structure Plain (fd : FuncData) (ps : List Str) : Prop where
  po : fd.params.posonlyargs = []
  ar : fd.params.args.map (·.arg) = ps
  ko : fd.params.kwonlyargs = []
  va : fd.params.vararg = none
  kw : fd.params.kwarg = none
set_option maxHeartbeats 1000000 in
theorem bind_gen {fd : FuncData} {ps : List Str} {us : List Value} {kws : List (Str × Value)} (p : Plain fd ps) (hk : KwOk ps kws (ps.zip us)) (hn : us.length ≤ ps.length) :
    ∃ k, bindArgs fd ⟨us, kws⟩ = seqItems? fd.defaults >>= k ∧ ∀ o : Option (Array Value), (o.getD #[]).toList.length ≤ ps.length →
      ((ps.take (ps.length - (o.getD #[]).toList.length)).filter fun n => ((ps.zip us ++ kws).lookup n).isNone) = [] →
      k o = pure (ps.filterMap fun n => ((ps.zip us ++ kws ++ (ps.drop (ps.length - (o.getD #[]).toList.length)).zip (o.getD #[]).toList).lookup n).map fun v => (n, v)) := by
  obtain ⟨p1, p2, p3, p4, p5⟩ := p
  unfold bindArgs
  simp only [p1, p2, p3, p4, p5, List.map_nil, List.nil_append]
  rw [forIn_run (g := fun s a => (s.1 ++ [a], s.2)) (P := fun l s => KwOk ps l s.1 ∧ s.2 = []) (fun a l s h => ?_) kws (ps.zip us, []) ⟨hk, rfl⟩]
  · rw [pure_bind]
    refine ⟨_, rfl, fun o ho hm => ?_⟩
    have hf : ∀ (l : List (Str × Value)) (s : List (Str × Value) × List (Str × Value)), l.foldl (fun s a => (s.1 ++ [a], s.2)) s = (s.1 ++ l, s.2) := by
      intro l
      induction l with
      | nil => intro s; simp
      | cons a l ih => intro s; rw [List.foldl_cons, ih]; simp
    rw [hf]
    simp only [gt_iff_lt, Nat.not_lt.mpr hn, decide_false, Bool.false_and, if_false, Bool.false_eq_true, false_and]
    have hd : (o.getD #[]).toList.length - ps.length = 0 := by omega
    rw [hd, List.drop_zero, hm]
    simp only [List.isEmpty_nil, Bool.not_true, Bool.false_eq_true, if_false, List.append_nil]
    rw [forIn_run (g := fill) (P := fun _ _ => True) (fun a l s _ => ?_) _ _ trivial]
    · rw [pure_bind]
      simp only [List.forIn_nil, pure_bind, List.isEmpty_nil, Bool.not_true, Bool.false_eq_true, if_false]
      simp only [lookup_fill]
    · refine ⟨?_, trivial⟩
      unfold fill
      split <;> rfl
  · obtain ⟨⟨h1, h2, h3⟩, h4⟩ := h
    refine ⟨?_, h3, h4⟩
    simp only [h1, Bool.true_or, if_true, h2, Bool.false_eq_true, if_false]
/-! ### by shapes -/
def shapeAt (nm : List Str) (m : Nat) (dvs : List PV) (p : Str) : Option (Sum Nat PV) := match nm.findIdx? (· == p) with
  | some j => if j < m then some (.inl j) else (dvs[j - m]?).map .inr
  | none => none
def shapeL (nm : List Str) (m : Nat) (dvs : List PV) : List Str → Option (List (Sum Nat PV))
  | [] => some []
  | p :: ps => match shapeAt nm m dvs p, shapeL nm m dvs ps with
    | some e, some l => some (e :: l)
    | _, _ => none
def keysB (ps : List Str) : List Str → List Str → Bool
  | [], _ => true
  | k :: ks, seen => ps.contains k && !seen.contains k && keysB ps ks (seen ++ [k])
def shapeNm (ps : List Str) (nd n : Nat) (ks : List Str) : List Str := ps.take n ++ ks ++ ps.drop (ps.length - nd)
def shape (ps : List Str) (dvs : List PV) (n : Nat) (ks : List Str) : Option (List (Sum Nat PV)) :=
  if decide (n ≤ ps.length) && decide (dvs.length ≤ ps.length) && keysB ps ks (ps.take n) && (ps.take (ps.length - dvs.length)).all (fun p => (ps.take n ++ ks).contains p) then shapeL (shapeNm ps dvs.length n ks) (n + ks.length) dvs ps else none
theorem zip_find {α : Type} {p : Str} : ∀ {nm : List Str} {vals : List α} {j : Nat}, nm.length = vals.length → nm.findIdx? (· == p) = some j → (nm.zip vals).lookup p = vals[j]?
  | [], _, _, _, h => by simp at h
  | n :: nm, [], _, hl, _ => by simp at hl
  | n :: nm, v :: vals, j, hl, h => by
    rw [List.findIdx?_cons] at h
    rw [List.zip_cons_cons, List.lookup_cons]
    have hc : (p == n) = (n == p) := by
      cases q : n == p with
      | true => rw [beq_iff_eq.mp q]; exact beq_self_eq_true p
      | false => exact beq_eq_false_iff_ne.mpr fun e => by rw [e, beq_self_eq_true] at q; cases q
    rw [hc]
    cases q : n == p with
    | true =>
      rw [q] at h
      cases h
      rfl
    | false =>
      rw [q] at h
      simp only [if_false, Bool.false_eq_true, Option.map_eq_some_iff] at h
      obtain ⟨j', h1, rfl⟩ := h
      have := zip_find (vals := vals) (by simpa using hl) h1
      simpa using this
theorem zip_take {α : Type} : ∀ (ps : List Str) (us : List α), ps.zip us = (ps.take us.length).zip us
  | [], us => by simp
  | p :: ps, [] => by simp
  | p :: ps, u :: us => by
    rw [List.zip_cons_cons, List.length_cons, List.take_succ_cons, List.zip_cons_cons, zip_take ps us]
theorem keys_of {ps : List Str} : ∀ {ks : List Str} {ws : List Value} {seen : List Str} {sl : List (Str × Value)}, keysB ps ks seen = true → (∀ k, seen.contains k = false → (sl.lookup k).isSome = false) → KwOk ps (ks.zip ws) sl
  | [], _, _, _, _, _ => trivial
  | k :: ks, [], _, _, _, _ => trivial
  | k :: ks, w :: ws, seen, sl, h, hs => by
    simp only [keysB, Bool.and_eq_true, Bool.not_eq_true'] at h
    refine ⟨h.1.1, hs k h.1.2, keys_of h.2 fun k' hk' => ?_⟩
    have h1 : seen.contains k' = false ∧ (k' == k) = false := by
      simp only [List.contains_eq_any_beq, List.any_append, Bool.or_eq_false_iff, List.any_cons, List.any_nil, Bool.or_false] at hk' ⊢
      exact hk'
    rw [lookup_app]
    have := hs k' h1.1
    cases q : sl.lookup k' with
    | some v => rw [q] at this; cases this
    | none =>
      show (List.lookup k' [(k, w)]).isSome = false
      rw [List.lookup_cons, h1.2]; rfl
theorem lookup_zip_none {α : Type} {k : Str} : ∀ {ps : List Str} {us : List α}, ps.contains k = false → ((ps.zip us).lookup k).isSome = false
  | [], _, _ => rfl
  | p :: ps, [], _ => rfl
  | p :: ps, u :: us, h => by
    simp only [List.contains_eq_any_beq, List.any_cons, Bool.or_eq_false_iff] at h
    rw [List.zip_cons_cons, List.lookup_cons, h.1]
    exact lookup_zip_none (by simpa only [List.contains_eq_any_beq] using h.2)
theorem lookup_zip_some {α : Type} {k : Str} : ∀ {ps : List Str} {us : List α}, ps.length ≤ us.length → ps.contains k = true → ((ps.zip us).lookup k).isSome = true
  | [], _, _, h => by simp at h
  | p :: ps, [], hl, h => by simp at hl
  | p :: ps, u :: us, hl, h => by
    rw [List.zip_cons_cons, List.lookup_cons]
    cases q : k == p with
    | true => rfl
    | false =>
      simp only [List.contains_eq_any_beq, List.any_cons, q, Bool.false_or] at h
      exact lookup_zip_some (by simpa using hl) (by simpa only [List.contains_eq_any_beq] using h)
theorem shape_vals {T : Cs} {W : Wd} {nm : List Str} {m : Nat} {dvs xs : List PV} {vs dV : List V} {us its : List Value} (hl : nm.length = (us ++ its).length) (hm : us.length = m) (rx : Rels T W xs vs) (vx : Vals vs us) (rd : Rels T W dvs dV) (vd : Vals dV its) :
    ∀ {ps : List Str} {perm : List (Sum Nat PV)} {ys : List PV}, shapeL nm m dvs ps = some perm → arrange xs perm = some ys →
      ∃ vals vs2, (ps.filterMap fun n => ((nm.zip (us ++ its)).lookup n).map fun v => (n, v)) = ps.zip vals ∧ Vals vs2 vals ∧ Rels T W ys vs2 ∧ vals.length = ps.length
  | [], perm, ys, h, e => by
    simp only [shapeL] at h
    cases h
    simp only [arrange] at e
    cases e
    exact ⟨[], [], rfl, .nil, .nil, rfl⟩
  | p :: ps, perm, ys, h, e => by
    simp only [shapeL] at h
    split at h
    · rename_i e1 l h1 h2
      cases h
      have key : ∀ (y : PV) (w : V) (u : Value) (ys' : List PV), ys = y :: ys' → arrange xs l = some ys' → Rel T W y w → RelV w u → (nm.zip (us ++ its)).lookup p = some u →
          ∃ vals vs2, ((p :: ps).filterMap fun n => ((nm.zip (us ++ its)).lookup n).map fun v => (n, v)) = (p :: ps).zip vals ∧ Vals vs2 vals ∧ Rels T W ys vs2 ∧ vals.length = (p :: ps).length := by
        rintro y w u ys' rfl ea ry ru hu
        obtain ⟨vals, vs2, g1, g2, g3, g4⟩ := shape_vals hl hm rx vx rd vd h2 ea
        refine ⟨u :: vals, w :: vs2, ?_, .cons ru g2, .cons ry g3, by rw [List.length_cons, List.length_cons, g4]⟩
        rw [List.filterMap_cons, hu]
        simp only [Option.map_some]
        rw [g1, List.zip_cons_cons]
      unfold shapeAt at h1
      split at h1
      · rename_i j hj
        have hz := zip_find (vals := us ++ its) hl hj
        split at h1
        · rename_i hjm
          cases h1
          simp only [arrange] at e
          split at e
          · rename_i y ys' hy hys
            cases e
            obtain ⟨w, hw, rw'⟩ := rx.get hy
            obtain ⟨u, hu, ru⟩ := vx.get hw
            exact key y w u ys' rfl hys rw' ru (by rw [hz, List.getElem?_append_left (by omega)]; exact hu)
          · cases e
        · rename_i hjm
          cases hd : dvs[j - m]? with
          | none => rw [hd] at h1; cases h1
          | some d =>
            rw [hd] at h1
            cases h1
            simp only [arrange] at e
            split at e
            · rename_i ys' hys
              cases e
              obtain ⟨w, hw, rw'⟩ := rd.get hd
              obtain ⟨u, hu, ru⟩ := vd.get hw
              exact key d w u ys' rfl hys rw' ru (by rw [hz, List.getElem?_append_right (by omega), hm]; exact hu)
            · cases e
      · cases h1
    · cases h
theorem seq_none : seqItems? .none = pure none := by first | rfl | simp [seqItems?]
theorem shape_binds {T : Cs} {W : Wd} {K : PySem.W.Frag} {s : Shared} {fd : FuncData} {ps ks : List Str} {dvs xs ys : List PV} {vs zs dV : List V} {us ws : List Value} {perm : List (Sum Nat PV)} (p : Plain fd ps) (hK : K.In s.heap) (hD : DflV K fd.defaults dV)
    (rx : Rels T W xs (vs ++ zs)) (v1 : Vals vs us) (v2 : Vals zs ws) (rd : Rels T W dvs dV) (hz : ws.length = ks.length) (hs : shape ps dvs us.length ks = some perm) (ha : arrange xs perm = some ys) :
    ∃ vals vs2, BindsTo s fd ⟨us, ks.zip ws⟩ (ps.zip vals) ∧ Vals vs2 vals ∧ Rels T W ys vs2 ∧ vals.length = ps.length := by
  unfold shape at hs
  split at hs
  · rename_i hc
    simp only [Bool.and_eq_true, decide_eq_true_eq] at hc
    obtain ⟨⟨⟨h1, h2⟩, h3⟩, h4⟩ := hc
    have hkw : KwOk ps (ks.zip ws) (ps.zip us) := keys_of h3 fun k hk => by rw [zip_take]; exact lookup_zip_none hk
    obtain ⟨k, e1, e2⟩ := bind_gen p hkw h1
    have main : ∀ its : List Value, Vals dV its → ∃ vals vs2, k (if its = [] then none else some its.toArray) = pure (ps.zip vals) ∧ Vals vs2 vals ∧ Rels T W ys vs2 ∧ vals.length = ps.length := fun its vd => by
      have hl : its.length = dvs.length := by rw [← vd.length, rd.length]
      have hg : ((if its = [] then none else some its.toArray : Option (Array Value)).getD #[]).toList = its := by
        split
        · rename_i h; rw [h]; rfl
        · rfl
      have hnm : shapeNm ps dvs.length us.length ks = ps.take us.length ++ ks ++ ps.drop (ps.length - its.length) := by rw [hl]; rfl
      have hl2 : (shapeNm ps dvs.length us.length ks).length = (us ++ ws ++ its).length := by
        rw [hnm]
        simp only [List.length_append, List.length_take, List.length_drop]
        omega
      have hT : ps.zip us ++ ks.zip ws ++ (ps.drop (ps.length - its.length)).zip its = (shapeNm ps dvs.length us.length ks).zip (us ++ ws ++ its) := by
        rw [hnm, zip_take ps us, ← List.zip_append (by simp; omega), ← List.zip_append (by simp; omega)]
      obtain ⟨vals, vs2, g1, g2, g3, g4⟩ := shape_vals (us := us ++ ws) hl2 (by rw [List.length_append, hz]) rx (v1.append v2) rd vd hs ha
      refine ⟨vals, vs2, ?_, g2, g3, g4⟩
      rw [e2 _ (by rw [hg, hl]; exact h2), hg, hT, g1]
      rw [hg]
      refine List.filter_eq_nil_iff.mpr fun n hn => ?_
      have hc := List.all_eq_true.mp h4 n (by rw [← hl]; exact hn)
      rw [zip_take ps us, ← List.zip_append (by simp; omega)]
      have := lookup_zip_some (us := us ++ ws) (k := n) (ps := ps.take us.length ++ ks) (by simp; omega) hc
      cases q : List.lookup n ((List.take us.length ps ++ ks).zip (us ++ ws)) with
      | some v => simp
      | none => rw [q] at this; cases this
    rcases hD with ⟨rfl, hN⟩ | ⟨hne, Ta, o, its, n, hR, lT, oT, rT⟩
    · obtain ⟨vals, vs2, g1, g2, g3, g4⟩ := main [] .nil
      refine ⟨vals, vs2, BindsTo.of_looks fun M => ?_, g2, g3, g4⟩
      rw [e1, hN, seq_none, pure_bind]
      exact .of_pure g1
    · obtain ⟨vals, vs2, g1, g2, g3, g4⟩ := main its rT
      refine ⟨vals, vs2, BindsTo.of_looks fun M => ?_, g2, g3, g4⟩
      rw [e1, hR]
      have hi : its ≠ [] := fun z => by subst z; cases rT; exact hne rfl
      rw [if_neg hi] at g1
      exact looks_items hK lT oT (.of_pure g1)
  · cases hs
end RF
/-! Fp1: own classes of errors. -/
namespace RF
open PySem L2
/-- the stores of an __init__: (field, parameter) -/
def AsgOk (self : Str) : List Stmt → List (Str × Str) → Bool
  | [], [] => true
  | .Assign [.Attribute (.Name s _) f _] (.Name p _) _ :: r, (f', p') :: l => (s == self) && (f == f') && (p == p') && AsgOk self r l
  | _, _ => false
/-- the body of an __init__ -/
def XBody (self : Str) (asg : List (Str × Str)) : List Stmt → Bool
  | .Expr (.Call (.Attribute (.Call (.Name sup _) [] [] _) ini apos) [] [] cpos) _ :: r => (sup == ("super" : Str)) && (ini == ("__init__" : Str)) && (apos.endLine == cpos.line) && AsgOk self r asg
  | _ => false
/-- what stands of an own class of errors, and of its __init__ -/
structure XInit (K : PySem.W.Frag) (prog : Program) (C fI cc ca : Addr) (fd : FuncData) (ps : List Str) (me : Str) (asg : List (Str × Str)) : Prop where
  cl : OexC K C
  ini : PySem.W.findIn K (.ref C) "__init__" = some (some (.ref fI))
  tI : PySem.W.typeIn K (.ref fI) = some (.type "function")
  fn : ∃ oc od osl, K.lookup fI = some ⟨oc, od, .func fd, osl⟩
  pl : Plain fd ps
  dv : fd.defaults = .none
  hd : ps.head? = some me
  nd : ps.Nodup
  bd : ∃ body, fd.body = .stmts body ∧ XBody me asg body = true
  ne : asg ≠ []
  fw : asg.length ≤ 100
  sn : (asg.map (·.1)).Nodup
  pt : asg.map (·.2) = ps.tail
  kd : fd.scope.kind = .function
  co : fd.scope.isCoroutine = false
  ge : fd.scope.isGenerator = false
  nc : ∀ x ∈ fd.scope.names, x.2 ≠ .cell
  lc : ∀ p ∈ ps, fd.scope.names.lookup p = some .local
  ks : fd.scope.names.lookup ("super" : Str) = some .globalImplicit
  kc : fd.scope.names.lookup ("__class__" : Str) = some .free
  dbg : ∀ p ∈ ps, (p == ("__debug__" : Str)) = false
  cls : fd.closure = [(("__class__" : Str), cc)]
  cel : ∃ a b c, K.lookup cc = some ⟨a, b, .cell (some (.ref C)), c⟩
  cod : fd.code = .ref ca
  cin : PySem.W.codeIn K fd.code fd.qualname = true
  fil : ∃ a b vs c tf, K.lookup ca = some ⟨a, b, .fields vs, c⟩ ∧ vs[2]? = some (.str prog.main.file tf)
  top : (prog.main.scope.names.lookup ("super" : Str)).isSome = false
  glb : fd.globals = mainGlobals
  blt : fd.builtins = builtinsNs
  sup : PySem.W.ks_superIn K C C "__init__" = some (some (.builtin "ValueError.__init__"))
  sve : PySem.W.subIn K (.ref C) (.type "ValueError") = some true
  mro : PySem.W.mroIn K C (.ref C) = some true
  opq : PySem.W.nsIn K cStatics "thirdparty.any" = some none
  nof : ∀ q, q ∈ asg → PySem.W.findIn K (.ref C) q.1 = some none
/-- a class of errors: cls its place among them -/
structure XOk (K : PySem.W.Frag) (prog : Program) (T : Cs) (nm : List Str) (n c : Nat) (xi : XI) : Prop where
  fl : ∀ (j f : Nat), xi.flds[j]? = some f → (T.xfl c)[j]? = nm[f]?
  ln : xi.flds.length = (T.xfl c).length
  nd : (T.xfl c).Nodup
  ex : ∀ d, d < n → PySem.W.exmOne K (.ref (T.xat c)) (.ref (T.xat d)) = some (decide (d ∈ xi.sup))
  xf : XfC K (T.xat c)
  no : ∀ f, f ∈ T.xfl c → PySem.W.findIn K (.ref (T.xat c)) f = some none
  ini : xi.flds ≠ [] → ∃ fI cc ca fd ps me asg, XInit K prog (T.xat c) fI cc ca fd ps me asg ∧ T.xfl c = asg.map (·.1)
end RF
/-! Ff: the small language against the text: what is looked at, what is known. -/
namespace RF
open PySem L2
structure Sc where
  N : List Str
  sc : Scope
  raw : Option Scope
  calm : Bool
  gk : List (Str × PV)
  gf : List (Option Str)
  gc : List Str
  ge : List Str
  bt : List Str
  nm : List Str
  sig : List (List Str × List PV)
def visB (sc : Scope) (x : Str) : Bool := match sc.names.lookup x with
  | some .local => true
  | some .cell => true
  | some .free => true
  | _ => false
def glB (sc : Scope) (x : Str) : Bool := match sc.names.lookup x with
  | some .globalImplicit => true
  | _ => false
/-- a name's cell may be written -/
def fnB : Option Scope → Str → Bool
  | none, _ => true
  | some sc, x => match sc.names.lookup x with
    | some .cell => true
    | _ => false
/-- a name that can be written -/
def locB (sc : Scope) (raw : Option Scope) (x : Str) : Bool := match sc.names.lookup x with
  | some .local => true
  | some .cell => fnB raw x
  | _ => false
theorem visB_ok {sc : Scope} {x : Str} (h : visB sc x = true) : Vis sc x := by
  unfold visB at h
  split at h
  · exact .inl (by assumption)
  · exact .inr (.inl (by assumption))
  · exact .inr (.inr (by assumption))
  · cases h
theorem glB_ok {sc : Scope} {x : Str} (h : glB sc x = true) : sc.names.lookup x = some .globalImplicit := by
  unfold glB at h
  split at h
  · assumption
  · cases h
def okName (x : Str) : Bool := !(x == ("__debug__" : Str)) && !(x == ("__classdict__" : Str)) && !(x == ("__name__" : Str))
theorem okName_d {x : Str} (h : okName x = true) : (x == ("__debug__" : Str)) = false := by
  unfold okName at h; simp only [Bool.and_eq_true, Bool.not_eq_true'] at h; exact h.1.1
theorem okName_c {x : Str} (h : okName x = true) : (x == ("__classdict__" : Str)) = false := by
  unfold okName at h; simp only [Bool.and_eq_true, Bool.not_eq_true'] at h; exact h.1.2
theorem okName_n {x : Str} (h : okName x = true) : x ≠ "__name__" := by
  unfold okName at h; simp only [Bool.and_eq_true, Bool.not_eq_true'] at h
  exact fun e => by subst e; simp at h
def notSet : Expr → Bool
  | .Set .. => false
  | _ => true
def notSlice : Expr → Bool
  | .Slice .. => false
  | _ => true
def notStar : Expr → Bool
  | .Starred .. => false
  | _ => true
def isTest : Expr → Bool
  | .UnaryOp .Not _ _ => true
  | .BoolOp .. => true
  | .IfExp .. => true
  | .Compare .. => true
  | _ => false
theorem behind_no {op : CmpOp} {e : Expr} (h : notSet e = true) : behindInMarks op e = false := by
  cases e <;> first | rfl | cases h
theorem plainIx_no {e : Expr} (h : notSlice e = true) : PlainIx e := by
  intro o i
  cases e <;> first | rfl | cases h
theorem isTrue_val {e : Expr} {env : Env} (h : isTest e = false) : ∀ whole, isTrue e env whole = (do let v ← whole; standAt e.pos; holding [v] (truthy v)) := by
  intro whole
  cases e with
  | UnaryOp op x p => cases op <;> first | rfl | cases h
  | _ => first | rfl | cases h
theorem star_no {e : Expr} {es : List Expr} {env : Env} (h : notStar e = true) : starEach (e :: es) env = (false, eval e env) :: starEach es env := by
  cases e <;> first | rfl | cases h
/-- the rest of a chain of and, or -/
def boolRest (op : BoolOp) (e : Expr) (rest : List Expr) (pos : Pos) : Expr := match rest with
  | [] => e
  | _ => .BoolOp op (e :: rest) pos
def tyNm : ITy → String
  | .str => "str"
  | .int => "int"
  | .bool => "bool"
  | .tuple => "tuple"
  | .list => "list"
  | .dict => "dict"
  | _ => ""
/-- a class of the text -/
structure ClsOk (T : Cs) (nm : List Str) (n c : Nat) (ci : ClsI) : Prop where
  cl : Cls T.K (T.at_ c)
  fl : ∀ (j f : Nat), ci.flds[j]? = some f → (T.flds c)[j]? = nm[f]?
  ln : ci.flds.length = (T.flds c).length
  nd : (T.flds c).Nodup
  few : (T.flds c).length < 1000
  ds : ci.flds.Nodup
  na : ∀ f, f ∈ T.flds c → NoAttr T.K (T.at_ c) f
  ha : PySem.W.findIn T.K (.ref (T.at_ c)) "__class__" = some (some (.builtin "object.__class__"))
  hm : PySem.W.mroIn T.K (T.at_ c) (.type "object") = some true
  kt : ∀ t, isBase t = true → PySem.W.kitOne T.K (.ref (T.at_ c)) (.type (tyNm t)) = some false
  kf : ∀ t, t ∈ ["NoneType", "bool", "int", "str", "list", "tuple"] → PySem.W.kitOne T.K (.type t) (.ref (T.at_ c)) = some false
  made : Mk T.K (T.at_ c) (T.fa ci.init)
  me : ∀ (m f : Nat) (name : Str), ci.meths.lookup m = some f → nm[m]? = some name → Meth T.K (T.at_ c) name (T.fa f) ∧ name ∉ T.flds c
  kc : ∀ d, d < n → PySem.W.kitOne T.K (.ref (T.at_ c)) (.ref (T.at_ d)) = some (c == d)
  ne : PySem.W.findIn T.K (.ref (T.at_ c)) "__ne__" = some (some (.builtin "object.__ne__"))
structure KOk (T : Cs) (G : Gl) (nm : List Str) : Prop where
  cls : ∀ (c : Nat) (ci : ClsI), G.cls[c]? = some ci → ClsOk T nm G.cls.length c ci
  hn : PySem.W.specialIn T.K (.builtin "object.__class__") "__get__" = some (some (.builtin "getset_descriptor.__get__"))
  htk : PySem.W.takesIn T.K (.builtin "object.__class__") = some true
/-- what is wanted of a call's end -/
def PoC (T : Cs) (W : Wd) (Q : VK) (E : XK) : Out PV → Prop
  | .ok v S' => ∀ W' H' w, W.le W' → BR T W' S' H' → Rel T W' v w → Q w H'
  | .exc x S' => ∀ W' H' cls d, W.le W' → BR T W' S' H' → XRel T W' x cls d → E cls d H'
  | .bad => False
/-- a def's promise, by the small language -/
def spF (T : Cs) (C : CallF) (f : Nat) : Sp := fun vs H Q E => ∃ W S args, BR T W S H ∧ Rels T W args vs ∧ PoC T W Q E (C f args S)
/-- a def keeps it, where no text is being shown -/
def FnG (P : Program) (w : World) (K : PySem.W.Frag) (mg : Str → Option Value) (base : Heap) (k : Nat) (f : Addr) (fd : FuncData) (ps : List Str) (sp : Sp) : Prop :=
  ∀ (A : Around) (outer : List Env) (s : Shared) (H : Hp) (args : Args) (us : List Value) (vs : List V) (Q : VK) (E : XK), Room k A → A.guards = some [] → Env0 P w K mg base A outer s H → BindsTo s fd args (ps.zip us) → Vals vs us → us.length = ps.length → sp vs H Q E →
    codeAny (model P w) A (.call (.ref f) args) (CR (CX P w) outer P w H s Q E) s
structure FnHas (X : Cx) (T : Cs) (C : CallF) (f : Nat) (ps : List Str) (dvs : List PV) : Prop where
  ex : ∃ kk fd dV, FnG X.prog X.w X.K X.mg X.base kk (T.fa f) fd ps (spF T C f) ∧ Plain fd ps ∧ DflV X.K fd.defaults dV ∧ (∀ W, Rels T W dvs dV) ∧ Room (kk + 1) X.A
  kp : PySem.W.keepIn X.K (.ref (T.fa f)) = true
/-- what is known in a body -/
structure Good (X : Cx) (T : Cs) (G : Gl) (C : CallF) (Wx : WXi) (Q : Sc) : Prop where
  hK : T.K = X.K
  hN : X.N = Q.N
  sc : X.env.scope = Q.sc
  fn : ∀ x, fnB Q.raw x = true → X.fn x = true
  nd : X.N.Nodup
  calm : Q.calm = true → X.calm = true
  grd : X.A.guards = some []
  un : X.A.units + 100 < cLine
  tk : Takes X Wx.w
  knd : X.env.scope.kind = .function
  gk : ∀ x v, Q.gk.lookup x = some v → ∃ u w, X.mg x = some u ∧ RelV w u ∧ ∀ W, Rel T W v w
  bt : ∀ x, x ∈ Q.bt → X.mg x = none
  kok : KOk T G Q.nm
  fns : Q.calm = true → ∀ (f : Nat) (ps : List Str) (dvs : List PV), Q.sig[f]? = some (ps, dvs) → FnHas X T C f ps dvs
  xs : ∀ (c : Nat) (xi : XI), G.exs[c]? = some xi → XOk X.K X.prog T Q.nm G.exs.length c xi
  ge : ∀ (x : Str) (c : Nat), Q.ge[c]? = some x → X.mg x = some (.ref (T.xat c)) ∧ c < G.exs.length
  sup : X.mg "super" = none
  rm : Q.calm = true → Room 1 X.A
  xn : Q.calm = true → Wx.ξ = none
  sui : ∀ a cls d, Wx.ξ = some (a, cls, d) → ∃ X0 oe pn, X = Cx.suite X0 a ((a, oe) :: pn) ∧ Zc cls d oe ∧ ∃ vs, oe.data = .fields vs
  gf : ∀ (x : Str) (f : Nat), Q.gf[f]? = some (some x) → X.mg x = some (.ref (T.fa f))
  gc : ∀ (x : Str) (c : Nat), Q.gc[c]? = some x → X.mg x = some (.ref (T.at_ c)) ∧ c < G.cls.length
section
variable {X : Cx} {T : Cs} {G : Gl} {C : CallF} {Wx : WXi} {Q : Sc}
theorem Good.gl (g : Good X T G C Wx Q) {x : Str} (h : glB Q.sc x = true) : L2.Gl X x := by
  show X.env.scope.names.lookup x = _
  rw [g.sc]; exact glB_ok h
def kEq : Const → PV → Bool
  | .int i, .int j => decide (i = j)
  | .bool a, .bl b => a == b
  | .none, .non => true
  | .str a, .str b => decide (a = b)
  | _, _ => false
theorem snd_const {c : Const} {v : PV} {k : Nat} {pos : Pos} (h : kEq c v = true) : PE X (.Constant c k pos) (tE T G C Wx (.k v)) := by
  unfold kEq at h
  split at h
  · cases of_decide_eq_true h
    exact PE.imp pe_int fun σ H Q ⟨W, env, S, b, _, p⟩ => p W H _ (.refl W) b (.int _)
  · cases (beq_iff_eq.mp h)
    exact PE.imp pe_bl fun σ H Q ⟨W, env, S, b, _, p⟩ => p W H _ (.refl W) b (.bl _)
  · exact PE.imp pe_non fun σ H Q ⟨W, env, S, b, _, p⟩ => p W H _ (.refl W) b .non
  · cases of_decide_eq_true h
    exact PE.imp pe_str fun σ H Q ⟨W, env, S, b, _, p⟩ => p W H _ (.refl W) b (.str _)
  · cases h
theorem snd_var (g : Good X T G C Wx Q) {i : Nat} {x : Str} {pos : Pos} (h1 : Q.N[i]? = some x) (h2 : visB Q.sc x = true) (h3 : okName x = true) : PE X (.Name x pos) (tE T G C Wx (.var i)) := by
  refine PE.imp (pe_var (by rw [g.hN]; exact h1) (by rw [g.sc]; exact visB_ok h2) (okName_d h3) (okName_c h3)) fun σ H K ⟨W, env, S, b, e, p⟩ => ?_
  simp only [ev] at p
  split at p
  · rename_i v hv
    split at p
    · exact p.elim
    · rename_i hx
      obtain ⟨w, a, r⟩ := e.2 i v hv
      exact ⟨w, a, p W H _ (.refl W) b (r.rel (by simpa using hx))⟩
  · exact p.elim
theorem snd_gk (g : Good X T G C Wx Q) {v : PV} {x : Str} {pos : Pos} (h1 : glB Q.sc x = true) (h2 : Q.gk.lookup x = some v) (h3 : okName x = true) : PE X (.Name x pos) (tE T G C Wx (.k v)) := by
  obtain ⟨u, w, hm, r, hr⟩ := g.gk x v h2
  exact PE.imp (pe_glob (g.gl h1) hm r (okName_d h3)) fun σ H K ⟨W, env, S, b, e, p⟩ => p W H w (.refl W) b (hr W)
/-- two values, then an operator by values -/
theorem two_of {a b : IR} {f : Store → PV → PV → Option PV} {σ : St} {H : Hp} {K : VK} {W : Wd} {env : PEnv} {S : Store} (br : BR T W S H) (er : ER T Wx.ξ W env σ)
    (p : PoE T Wx W env σ K ((ev G C a env S).bind fun x S1 => (ev G C b env S1).bind fun y S2 => ofOpt S2 (f S2 x y))) :
    tE T G C Wx a σ H fun x H1 => tE T G C Wx b σ H1 fun y H2 => R2F T f x y H2 K := by
  refine ⟨W, env, S, br, er, p.bind fun v S1 W1 H1 w l1 b1 r1 p1 => ?_⟩
  refine ⟨W1, env, S1, b1, er.mono l1, p1.bind fun u S2 W2 H2 w2 l2 b2 r2 p2 => ?_⟩
  cases hf : f S2 v u with
  | none => rw [hf] at p2; exact p2.elim
  | some z => rw [hf] at p2; exact ⟨W2, S2, v, u, z, b2, r1.mono l2, r2, hf, fun W3 H3 w3 l3 b3 r3 => p2 W3 H3 w3 l3 b3 r3⟩
theorem snd_bin (g : Good X T G C Wx Q) {o : BOp} {a b : IR} {ea eb : Expr} {pos : Pos} (ha : PE X ea (tE T G C Wx a)) (hb : PE X eb (tE T G C Wx b)) : PE X (.BinOp ea (bop o) eb pos) (tE T G C Wx (.bin o a b)) :=
  PE.imp (pe_op (bin_ok g.hK o) ha hb) fun σ H K ⟨W, env, S, br, er, p⟩ => two_of (f := fun S => binV S o) br er (by simpa only [ev] using p)
theorem cmpR (g : Good X T G C Wx Q) (o : COp) : OpR X (compareOp (cop o)) (R2F T fun S a b => (cmpV S o a b).map .bl) := by
  by_cases h1 : o = .is
  · subst h1; exact is_ok g.hK false
  · by_cases h2 : o = .isn
    · subst h2; exact is_ok g.hK true
    · exact cmp_ok g.hK (by have := g.un; omega) o ⟨h1, h2⟩
theorem snd_cmp (g : Good X T G C Wx Q) {o : COp} {a b : IR} {ea eb : Expr} {pos : Pos} (hm : notSet eb = true) (ha : PE X ea (tE T G C Wx a)) (hb : PE X eb (tE T G C Wx b)) : PE X (.Compare ea [cop o] [eb] pos) (tE T G C Wx (.cmp o a b)) :=
  PE.imp (pe_cmpR (cmpR g o) ha hb (behind_no hm)) fun σ H K ⟨W, env, S, br, er, p⟩ => two_of (f := fun S a b => (cmpV S o a b).map .bl) br er (by simpa only [ev] using p)
/-- an end that is a truth -/
def IsBl (o : Out PV) : Prop := ∀ v S', o = .ok v S' → ∃ b, v = .bl b
theorem IsBl.bind {o : Out PV} {f : PV → Store → Out PV} (h : ∀ v S, IsBl (f v S)) : IsBl (o.bind f) := by
  cases o with
  | ok v S => exact h v S
  | exc e S => intro v S' e; cases e
  | bad => intro v S' e; cases e
theorem isBl_opt {S : Store} {o : Option Bool} : IsBl (ofOpt S (o.map .bl)) := by
  cases o with
  | none => intro v S' e; cases e
  | some b => intro v S' e; cases e; exact ⟨b, rfl⟩
theorem PoB.isBl {W : Wd} {env : PEnv} {σ : St} {K : Bool → Hp → Prop} {o : Out PV} (hb : IsBl o) (p : PoB T Wx W env σ K (o.bind fun v S1 => ofOpt S1 (truthV S1 v))) : PoE T Wx W env σ (fun w H' => ∃ k, w = .bl k ∧ K k H') o := by
  cases o with
  | ok v S =>
    intro W' H' w l b r
    obtain ⟨z, rfl⟩ := hb v S rfl
    cases r
    exact ⟨z, rfl, p W' H' l b⟩
  | exc e S => exact p
  | bad => exact p
/-- a test by a value that is a truth -/
theorem snd_cmpT (g : Good X T G C Wx Q) {o : COp} {a b : IR} {ea eb : Expr} {pos : Pos} (hm : notSet eb = true) (ha : PE X ea (tE T G C Wx a)) (hb : PE X eb (tE T G C Wx b)) : PT X (.Compare ea [cop o] [eb] pos) (tT T G C Wx (.cmp o a b)) := by
  refine PT.imp (pt_cmpR (cmpR g o) ha hb (behind_no hm)) fun σ H K ⟨W, env, S, br, er, p⟩ => ?_
  have p' := PoB.isBl (by simp only [ev]; exact IsBl.bind fun x S1 => IsBl.bind fun y S2 => isBl_opt) p
  exact two_of (f := fun S a b => (cmpV S o a b).map .bl) br er (by simpa only [ev] using p')
theorem snd_chain (g : Good X T G C Wx Q) {o o' : COp} {a b c : IR} {ea eb ec : Expr} {pos : Pos} (hm : notSet ec = true) (ha : PE X ea (tE T G C Wx a)) (hb : PE X eb (tE T G C Wx b)) (hc : PE X ec (tE T G C Wx c)) :
    PE X (.Compare ea [cop o, cop o'] [eb, ec] pos) (tE T G C Wx (.chain o o' a b c)) ∧ PT X (.Compare ea [cop o, cop o'] [eb, ec] pos) (tT T G C Wx (.chain o o' a b c)) := by
  have lm : lastMarks [cop o, cop o'] [eb, ec] = false := by show behindInMarks (cop o') ec = false; exact behind_no hm
  have key : ∀ (σ : St) (H : Hp) (K : VK), tE T G C Wx (.chain o o' a b c) σ H K → tChain (R2F T fun S a b => (cmpV S o a b).map .bl) (R2F T fun S a b => (cmpV S o' a b).map .bl) (tE T G C Wx a) (tE T G C Wx b) (tE T G C Wx c) σ H K := by
    rintro σ H K ⟨W, env, S, br, er, p⟩
    refine ⟨W, env, S, br, er, PoE.bind (by simpa only [ev] using p) fun v S1 W1 H1 w l1 b1 r1 p1 => ?_⟩
    refine ⟨W1, env, S1, b1, er.mono l1, p1.bind fun u S2 W2 H2 w2 l2 b2 r2 p2 => ?_⟩
    cases hf : cmpV S2 o v u with
    | none => rw [hf] at p2; exact p2.elim
    | some k =>
      rw [hf] at p2
      refine ⟨W2, S2, v, u, .bl k, b2, r1.mono l2, r2, by simp only [hf, Option.map], fun W3 H3 w3 l3 b3 r3 => ?_⟩
      cases r3
      refine ⟨k, rfl, ?_⟩
      cases k with
      | false => rw [if_neg Bool.false_ne_true]; exact p2 W3 H3 _ l3 b3 (.bl _)
      | true =>
        rw [if_pos rfl]
        refine ⟨W3, env, S2, b3, er.mono (l1.trans (l2.trans l3)), (PoE.up l3 p2).bind fun z S4 W4 H4 w4 l4 b4 r4 p4 => ?_⟩
        cases hf2 : cmpV S4 o' u z with
        | none => rw [hf2] at p4; exact p4.elim
        | some zz => rw [hf2] at p4; exact ⟨W4, S4, u, _, _, b4, r2.mono (l3.trans l4), r4, by simp only [hf2, Option.map], fun W5 H5 w5 l5 b5 r5 => p4 W5 H5 w5 l5 b5 r5⟩
  refine ⟨PE.imp (pe_chain (cmpR g o) (cmpR g o') ha hb hc lm) key, PT.imp (pt_chain (cmpR g o) (cmpR g o') ha hb hc lm) fun σ H K ⟨W, env, S, br, er, p⟩ => ?_⟩
  refine key σ H _ ⟨W, env, S, br, er, ?_⟩
  refine PoB.isBl ?_ p
  simp only [ev]
  refine IsBl.bind fun x S1 => IsBl.bind fun y S2 => ?_
  split
  · intro v S' e; cases e
  · intro v S' e; cases e; exact ⟨false, rfl⟩
  · exact IsBl.bind fun z S3 => isBl_opt
/-- a value as a test -/
theorem snd_truth (g : Good X T G C Wx Q) {a : IR} {e : Expr} (h : isTest e = false) (ha : PE X e (tE T G C Wx a)) : PT X e (tT T G C Wx a) :=
  PT.imp (pt_truth ha (isTrue_val h)) fun σ H K ⟨W, env, S, br, er, p⟩ => ⟨W, env, S, br, er, PoB.bind p fun v S1 W1 H1 w l1 b1 r1 p1 => by
    cases q : truthV S1 v with
    | none => rw [q] at p1; exact p1.elim
    | some k => rw [q] at p1; exact ⟨k, g.hK ▸ truthV_ok b1 r1 q, p1 W1 H1 (.refl _) b1⟩⟩
/-- the first of a chain, then the rest -/
theorem evT_of {a : IR} {W : Wd} {env : PEnv} {S : Store} {σ : St} {K : VK} {K' : Bool → Hp → Prop} {f : Bool → PV → Store → Out PV}
    (p : PoE T Wx W env σ K ((ev G C a env S).bind fun x S1 => match truthV S1 x with
      | some k => f k x S1
      | none => .bad)) (h : ∀ k x S1 W1 H1, W.le W1 → BR T W1 S1 H1 → PoE T Wx W1 env σ K (f k x S1) → K' k H1) : PoB T Wx W env σ K' (evT G C a env S) := by
  unfold evT
  cases ho : ev G C a env S with
  | ok v S1 =>
    rw [ho] at p
    simp only [Out.bind_ok] at p ⊢
    cases q : truthV S1 v with
    | none => rw [q] at p; exact p.elim
    | some k => rw [q] at p; exact fun W1 H1 l b => h k v S1 W1 H1 l b (PoE.up l p)
  | exc e S1 => rw [ho] at p; exact p
  | bad => rw [ho] at p; exact p
theorem snd_ite (g : Good X T G C Wx Q) {c a b : IR} {ec ea eb : Expr} {pos : Pos} (hc : PT X ec (tT T G C Wx c)) (ha : PE X ea (tE T G C Wx a)) (hb : PE X eb (tE T G C Wx b)) : PE X (.IfExp ec ea eb pos) (tE T G C Wx (.ite c a b)) := by
  refine PE.imp (pe_ifExp hc ha hb) fun σ H K ⟨W, env, S, br, er, p⟩ => ⟨W, env, S, br, er, ?_⟩
  refine evT_of (f := fun k x S1 => if k = true then ev G C a env S1 else ev G C b env S1) (K := K) ?_ fun k x S1 W1 H1 l b1 p1 => ?_
  · simp only [ev] at p
    refine (congrArg (PoE T Wx W env σ K) (congrArg (Out.bind _) ?_)).mp p
    funext x S1
    cases truthV S1 x with
    | none => rfl
    | some k => cases k <;> rfl
  · cases k with
    | true => rw [if_pos rfl] at p1 ⊢; exact ⟨W1, env, S1, b1, er.mono l, p1⟩
    | false => rw [if_neg Bool.false_ne_true] at p1 ⊢; exact ⟨W1, env, S1, b1, er.mono l, p1⟩
end
end RF
/-! Fg: and, or, not; displays; subscripts; f-strings. -/
namespace RF
open PySem L2
section
variable {X : Cx} {T : Cs} {G : Gl} {C : CallF} {Wx : WXi} {Q : Sc}
theorem pt_ifT {c a b : Expr} {tc ta tb : TT} {pos : Pos} (hc : PT X c tc) (ha : PT X a ta) (hb : PT X b tb) : PT X (.IfExp c a b pos) (fun σ H K => tc σ H fun k H1 => if k = true then ta σ H1 K else tb σ H1 K) := by
  refine ⟨fun pins s σ H K I h => ?_⟩
  show wpAny _ _ (do if ← isTrue c X.env (eval c X.env) then isTrue a X.env (eval a X.env) else isTrue b X.env (eval b X.env)) _ _ _
  refine wpAny_bind (thn (hc.run pins s σ H _ I h) fun k s1 ⟨H1, I1, q⟩ => ?_)
  cases k with
  | true => exact ha.run pins s1 σ H1 K I1 q
  | false => exact hb.run pins s1 σ H1 K I1 q
theorem snd_iteT (g : Good X T G C Wx Q) {c a b : IR} {ec ea eb : Expr} {pos : Pos} (hc : PT X ec (tT T G C Wx c)) (ha : PT X ea (tT T G C Wx a)) (hb : PT X eb (tT T G C Wx b)) : PT X (.IfExp ec ea eb pos) (tT T G C Wx (.ite c a b)) := by
  refine PT.imp (pt_ifT hc ha hb) fun σ H K ⟨W, env, S, br, er, p⟩ => ⟨W, env, S, br, er, ?_⟩
  unfold evT at p ⊢
  simp only [ev] at p
  cases ho : ev G C c env S with
  | ok v S1 =>
    rw [ho] at p
    simp only [Out.bind_ok] at p ⊢
    cases q : truthV S1 v with
    | none => rw [q] at p; exact p.elim
    | some k =>
      rw [q] at p
      intro W1 H1 l b1
      cases k with
      | true => rw [if_pos rfl]; exact ⟨W1, env, S1, b1, er.mono l, PoB.up l p⟩
      | false => rw [if_neg Bool.false_ne_true]; exact ⟨W1, env, S1, b1, er.mono l, PoB.up l p⟩
  | exc e S1 => rw [ho] at p; exact p
  | bad => rw [ho] at p; exact p
theorem snd_not (g : Good X T G C Wx Q) {a : IR} {e : Expr} {pos : Pos} (ha : PE X e (tE T G C Wx a)) : PE X (.UnaryOp .Not e pos) (tE T G C Wx (.not a)) :=
  PE.imp (pe_notT ha) fun σ H K ⟨W, env, S, br, er, p⟩ => ⟨W, env, S, br, er, PoE.bind (by simpa only [ev] using p) fun v S1 W1 H1 w l1 b1 r1 p1 => by
    cases q : truthV S1 v with
    | none => rw [q] at p1; exact p1.elim
    | some k => rw [q] at p1; exact ⟨k, g.hK ▸ truthV_ok b1 r1 q, p1 W1 H1 _ (.refl _) b1 (.bl _)⟩⟩
theorem snd_notT (g : Good X T G C Wx Q) {a : IR} {e : Expr} {pos : Pos} (ha : PT X e (tT T G C Wx a)) : PT X (.UnaryOp .Not e pos) (tT T G C Wx (.not a)) := by
  refine PT.imp (pt_not ha) fun σ H K ⟨W, env, S, br, er, p⟩ => ⟨W, env, S, br, er, ?_⟩
  unfold evT at p ⊢
  simp only [ev] at p
  cases ho : ev G C a env S with
  | ok v S1 =>
    rw [ho] at p
    simp only [Out.bind_ok] at p ⊢
    cases q : truthV S1 v with
    | none => rw [q] at p; exact p.elim
    | some k => rw [q] at p; exact fun W1 H1 l b1 => p W1 H1 l b1
  | exc e S1 => rw [ho] at p; exact p
  | bad => rw [ho] at p; exact p
theorem snd_neg (g : Good X T G C Wx Q) {a : IR} {e : Expr} {pos : Pos} (ha : PE X e (tE T G C Wx a)) : PE X (.UnaryOp .USub e pos) (tE T G C Wx (.neg a)) :=
  PE.imp (pe_un un_neg ha) fun σ H K ⟨W, env, S, br, er, p⟩ => ⟨W, env, S, br, er, PoE.bind (by simpa only [ev] using p) fun v S1 W1 H1 w l1 b1 r1 p1 => by
    cases v with
    | int i => cases r1; exact ⟨i, rfl, p1 W1 H1 _ (.refl _) b1 (.int _)⟩
    | _ => exact p1.elim⟩
/-- a and b, as a value -/
theorem snd_and (g : Good X T G C Wx Q) {a b : IR} {ea eb : Expr} {rest : List Expr} {pos : Pos} (ha : PE X ea (tE T G C Wx a)) (hb : PE X (boolRest .And eb rest pos) (tE T G C Wx b)) : PE X (.BoolOp .And (ea :: eb :: rest) pos) (tE T G C Wx (.and a b)) := by
  have hb' : PE X (.BoolOp .And (eb :: rest) pos) (tE T G C Wx b) := by
    cases rest with
    | nil => exact pe_one hb
    | cons _ _ => exact hb
  refine PE.imp (pe_andT ha hb') fun σ H K ⟨W, env, S, br, er, p⟩ => ⟨W, env, S, br, er, PoE.bind (by simpa only [ev] using p) fun v S1 W1 H1 w l1 b1 r1 p1 => ?_⟩
  cases q : truthV S1 v with
  | none => rw [q] at p1; exact p1.elim
  | some k =>
    rw [q] at p1
    refine ⟨k, g.hK ▸ truthV_ok b1 r1 q, ?_⟩
    cases k with
    | true => rw [if_pos rfl]; exact ⟨W1, env, S1, b1, er.mono l1, p1⟩
    | false => rw [if_neg Bool.false_ne_true]; exact p1 W1 H1 w (.refl _) b1 r1
theorem snd_or (g : Good X T G C Wx Q) {a b : IR} {ea eb : Expr} {rest : List Expr} {pos : Pos} (ha : PE X ea (tE T G C Wx a)) (hb : PE X (boolRest .Or eb rest pos) (tE T G C Wx b)) : PE X (.BoolOp .Or (ea :: eb :: rest) pos) (tE T G C Wx (.or a b)) := by
  have hb' : PE X (.BoolOp .Or (eb :: rest) pos) (tE T G C Wx b) := by
    cases rest with
    | nil => exact pe_one hb
    | cons _ _ => exact hb
  refine PE.imp (pe_orT ha hb') fun σ H K ⟨W, env, S, br, er, p⟩ => ⟨W, env, S, br, er, PoE.bind (by simpa only [ev] using p) fun v S1 W1 H1 w l1 b1 r1 p1 => ?_⟩
  cases q : truthV S1 v with
  | none => rw [q] at p1; exact p1.elim
  | some k =>
    rw [q] at p1
    refine ⟨k, g.hK ▸ truthV_ok b1 r1 q, ?_⟩
    cases k with
    | false => rw [if_neg Bool.false_ne_true]; exact ⟨W1, env, S1, b1, er.mono l1, p1⟩
    | true => rw [if_pos rfl]; exact p1 W1 H1 w (.refl _) b1 r1
theorem pw_rest {op : BoolOp} {eb : Expr} {rest : List Expr} {pos : Pos} {t : TT} (hb : PT X (boolRest op eb rest pos) t) : PW X (.BoolOp op (eb :: rest) pos) t := by
  cases rest with
  | nil => cases op with
    | And => exact pw_and1 hb
    | Or => exact pw_or1 hb
  | cons _ _ => exact ⟨fun wh pins s σ H K I h => hb.run pins s σ H K I h⟩
theorem snd_andT (g : Good X T G C Wx Q) {a b : IR} {ea eb : Expr} {rest : List Expr} {pos : Pos} (ha : PT X ea (tT T G C Wx a)) (hb : PT X (boolRest .And eb rest pos) (tT T G C Wx b)) : PT X (.BoolOp .And (ea :: eb :: rest) pos) (tT T G C Wx (.and a b)) := by
  refine PT.imp (pw_and ha (pw_rest hb)).pt fun σ H K ⟨W, env, S, br, er, p⟩ => ⟨W, env, S, br, er, ?_⟩
  unfold evT at p ⊢
  simp only [ev] at p
  cases ho : ev G C a env S with
  | ok v S1 =>
    rw [ho] at p
    simp only [Out.bind_ok] at p ⊢
    cases q : truthV S1 v with
    | none => rw [q] at p; exact p.elim
    | some k =>
      rw [q] at p
      intro W1 H1 l b1
      cases k with
      | true => rw [if_pos rfl]; exact ⟨W1, env, S1, b1, er.mono l, PoB.up l p⟩
      | false =>
        rw [if_neg Bool.false_ne_true]
        simp only [Out.bind_ok, q, ofOpt_some] at p
        exact p W1 H1 l b1
  | exc e S1 => rw [ho] at p; exact p
  | bad => rw [ho] at p; exact p
theorem snd_orT (g : Good X T G C Wx Q) {a b : IR} {ea eb : Expr} {rest : List Expr} {pos : Pos} (ha : PT X ea (tT T G C Wx a)) (hb : PT X (boolRest .Or eb rest pos) (tT T G C Wx b)) : PT X (.BoolOp .Or (ea :: eb :: rest) pos) (tT T G C Wx (.or a b)) := by
  refine PT.imp (pw_or ha (pw_rest hb)).pt fun σ H K ⟨W, env, S, br, er, p⟩ => ⟨W, env, S, br, er, ?_⟩
  unfold evT at p ⊢
  simp only [ev] at p
  cases ho : ev G C a env S with
  | ok v S1 =>
    rw [ho] at p
    simp only [Out.bind_ok] at p ⊢
    cases q : truthV S1 v with
    | none => rw [q] at p; exact p.elim
    | some k =>
      rw [q] at p
      intro W1 H1 l b1
      cases k with
      | false => rw [if_neg Bool.false_ne_true]; exact ⟨W1, env, S1, b1, er.mono l, PoB.up l p⟩
      | true =>
        rw [if_pos rfl]
        simp only [Out.bind_ok, q, ofOpt_some] at p
        exact p W1 H1 l b1
  | exc e S1 => rw [ho] at p; exact p
  | bad => rw [ho] at p; exact p
/-! ### subscripts -/
theorem snd_idx (g : Good X T G C Wx Q) {a b : IR} {ea eb : Expr} {pos : Pos} (hn : notSlice eb = true) (ha : PE X ea (tE T G C Wx a)) (hb : PE X eb (tE T G C Wx b)) : PE X (.Subscript ea eb pos) (tE T G C Wx (.idx a b)) :=
  PE.imp (pe_ix (idx_ok g.hK) ha hb (plainIx_no hn)) fun σ H K ⟨W, env, S, br, er, p⟩ => two_of (f := idxV) br er (by simpa only [ev] using p)
/-- an end of a slice -/
def evP (G : Gl) (C : CallF) (a : IR) (env : PEnv) (S : Store) : Out (Option Int) :=
  if a.isNil = true then Out.ok none S else (ev G C a env S).bind fun l S2 => partI S2 l
def PoO (X : Cx) (T : Cs) (G : Gl) (C : CallF) (Wx : WXi) (o : Option Expr) (a : IR) : Prop := match o with
  | none => a = .nil
  | some e => a.isNil = false ∧ PE X e (tE T G C Wx a)
/-- an end, then the rest -/
theorem part_of {o : Option Expr} {a : IR} (h : PoO X T G C Wx o a) : ∃ t, PO X o t ∧ ∀ (W : Wd) (env : PEnv) (S : Store) (σ : St) (H : Hp) (K : VK) (f : Option Int → Store → Out PV) (R : Option Int → Hp → Prop), BR T W S H → ER T Wx.ξ W env σ →
    PoE T Wx W env σ K ((evP G C a env S).bind f) → (∀ i S1 W1 H1, W.le W1 → BR T W1 S1 H1 → PoE T Wx W1 env σ K (f i S1) → R i H1) → t σ H R := by
  cases o with
  | none =>
    cases (show a = .nil from h)
    exact ⟨_, po_none, fun W env S σ H K f R br er p q => q none S W H (.refl W) br (by simpa only [evP, IR.isNil, if_true, Out.bind_ok] using p)⟩
  | some e =>
    obtain ⟨hn, h⟩ := h
    refine ⟨_, po_some h, fun W env S σ H K f R br er p q => ⟨W, env, S, br, er, ?_⟩⟩
    have e : evP G C a env S = (ev G C a env S).bind fun l S2 => partI S2 l := by
      unfold evP
      rw [if_neg (by rw [hn]; exact Bool.false_ne_true)]
    rw [e] at p
    have p' : PoE T Wx W env σ K ((ev G C a env S).bind fun l S2 => (partI S2 l).bind f) := by
      refine (congrArg (PoE T Wx W env σ K) ?_).mp p
      cases ev G C a env S <;> rfl
    refine p'.bind fun v S1 W1 H1 w l1 b1 r1 p1 => ?_
    cases v with
    | int i => cases r1; exact ⟨i, rfl, q (some i) S1 W1 H1 l1 b1 p1⟩
    | _ => exact p1.elim
theorem snd_slc (g : Good X T G C Wx Q) {a l h : IR} {ea : Expr} {lo hi : Option Expr} {p2 pos : Pos} (ha : PE X ea (tE T G C Wx a)) (hl : PoO X T G C Wx lo l) (hh : PoO X T G C Wx hi h) : PE X (.Subscript ea (.Slice lo hi none p2) pos) (tE T G C Wx (.slc a l h)) := by
  obtain ⟨tl, pl, kl⟩ := part_of hl
  obtain ⟨th, ph, kh⟩ := part_of hh
  refine PE.imp (pe_slice (slc_ok g.hK) ha pl ph) fun σ H K ⟨W, env, S, br, er, p⟩ => ⟨W, env, S, br, er, ?_⟩
  have p0 : PoE T Wx W env σ K ((ev G C a env S).bind fun x S1 => (evP G C l env S1).bind fun l S2 => (evP G C h env S2).bind fun h S3 => ofOpt S3 (slcV S3 x l h)) := by
    simpa only [ev, evP] using p
  refine p0.bind fun v S1 W1 H1 w l1 b1 r1 p1 => ?_
  refine kl W1 env S1 σ H1 K _ _ b1 (er.mono l1) p1 fun i S2 W2 H2 l2 b2 p2 => ?_
  refine kh W2 env S2 σ H2 K _ _ b2 (er.mono (l1.trans l2)) p2 fun j S3 W3 H3 l3 b3 p3 => ?_
  cases hf : slcV S3 v i j with
  | none => rw [hf] at p3; exact p3.elim
  | some z => rw [hf] at p3; exact ⟨W3, S3, v, z, b3, r1.mono (l2.trans l3), hf, fun W4 H4 w4 l4 b4 r4 => p3 W4 H4 w4 l4 b4 r4⟩
end
end RF
/-! Fh: arguments, displays, f-strings, built-in functions called. -/
namespace RF
open PySem L2
section
variable {X : Cx} {T : Cs} {G : Gl} {C : CallF} {Wx : WXi} {Q : Sc}
theorem snd_nil : PA X [] (tEs T G C Wx .nil) := PA.imp pa_nil fun σ H K ⟨W, env, S, br, er, p⟩ => by
  simp only [evs] at p
  exact p W H [] (.refl W) br .nil
theorem snd_cons {a b : IR} {e : Expr} {es : List Expr} (hn : notStar e = true) (ha : PE X e (tE T G C Wx a)) (hb : PA X es (tEs T G C Wx b)) : PA X (e :: es) (tEs T G C Wx (.cons a b)) :=
  PA.imp (pa_cons ha hb (star_no hn)) fun σ H K ⟨W, env, S, br, er, p⟩ => by
    simp only [evs] at p
    refine ⟨W, env, S, br, er, p.bind fun v S1 W1 H1 w l1 b1 r1 p1 => ⟨W1, env, S1, b1, er.mono l1, p1.bindL fun vs S2 W2 H2 ws l2 b2 r2 p2 => ?_⟩⟩
    exact p2 W2 H2 (w :: ws) (.refl W2) b2 (.cons (r1.mono l2) r2)
theorem snd_star (g : Good X T G C Wx Q) {a b : IR} {e : Expr} {es : List Expr} {pos : Pos} (ha : PE X e (tE T G C Wx a)) (hb : PA X es (tEs T G C Wx b)) : PA X (.Starred e pos :: es) (tEs T G C Wx (.star a b)) :=
  PA.imp (StX.pa_star ha hb) fun σ H K ⟨W, env, S, br, er, p⟩ => by
    simp only [evs] at p
    refine ⟨W, env, S, br, er, p.bind fun v S1 W1 H1 w l1 b1 r1 p1 => ?_⟩
    have go : ∀ ys, starV S1 v = some ys → (∃ (a : Addr) (vs : List V), w = .ref a ∧ (SqT T.K H1 a vs ∨ SqL T.K H1 a vs) ∧ Rels T W1 ys vs) → ∃ p xs, w = V.ref p ∧ (SqT X.K H1 p xs ∨ SqL X.K H1 p xs) ∧ tEs T G C Wx b σ H1 fun ys H2 => K (xs ++ ys) H2 := by
      rintro ys hs ⟨a, vs, rfl, hq, rr⟩
      rw [hs] at p1
      refine ⟨a, vs, rfl, g.hK ▸ hq, W1, env, S1, b1, er.mono l1, p1.bindL fun zs S2 W2 H2 ws l2 b2 r2 p2 => ?_⟩
      exact p2 W2 H2 _ (.refl W2) b2 ((rr.mono l2).append r2)
    cases q : vw S1 v with
    | tup ys =>
      obtain ⟨a, vs, rfl, hq, rr⟩ := vw_tup b1 r1 q
      exact go ys (by simp only [starV, q]) ⟨a, vs, rfl, .inl hq.sq, rr⟩
    | lst ys =>
      obtain ⟨a, vs, rfl, hq, rr⟩ := vw_lst b1 r1 q
      exact go ys (by simp only [starV, q]) ⟨a, vs, rfl, .inr hq, rr⟩
    | _ => simp only [starV, q] at p1; exact p1.elim
/-- a tuple that is written -/
theorem pe_tupF {es : List Expr} {t : TA} {k : Nat} {pos : Pos} (h : PA X es t) : PE X (.Tuple es k pos) (fun σ H K => t σ H fun xs H1 => xs.length ≤ sizeLine ∧ ∀ p us, H1 p = none → K (.ref p) (upd H1 p (.frz (tupO us) (.tup xs)))) := by
  refine ⟨fun pins s σ H K I hq => ?_⟩
  refine wpAny_Tuple_spliced (thn (h.run pos pins s σ H _ I hq) fun us s1 ⟨xs, H1, I1, r, z, q⟩ => ⟨by rw [← r.length]; exact z, ?_⟩)
  exact ⟨.ref s1.heap.objs.size, _, laid_tup (t' := s1.toks) I1 r z, rfl, q _ _ (I1.hok.fresh (Nat.le_refl _))⟩
theorem snd_tup {l : IR} {es : List Expr} {k : Nat} {pos : Pos} (h : PA X es (tEs T G C Wx l)) : PE X (.Tuple es k pos) (tE T G C Wx (.tup l)) :=
  PE.imp (pe_tupF h) fun σ H K ⟨W, env, S, br, er, p⟩ => by
    simp only [ev] at p
    refine ⟨W, env, S, br, er, p.bindL fun vs S1 W1 H1 ws l1 b1 r1 p1 => ?_⟩
    by_cases hz : vs.length ≤ sizeLine
    · rw [if_pos hz] at p1
      refine ⟨by rw [← r1.length]; exact hz, fun a us na => ?_⟩
      obtain ⟨b2, le⟩ := b1.alloc (o := .frz (tupO us) (.tup ws)) na
      exact p1 _ _ _ le b2 (.tup TupAt.new (r1.mono le))
    · rw [if_neg hz] at p1; exact p1.elim
theorem snd_lst {l : IR} {es : List Expr} {pos : Pos} (h : PA X es (tEs T G C Wx l)) : PE X (.List es pos) (tE T G C Wx (.lst l)) :=
  PE.imp (pe_lst h) fun σ H K ⟨W, env, S, br, er, p⟩ => by
    simp only [ev] at p
    refine ⟨W, env, S, br, er, p.bindL fun vs S1 W1 H1 ws l1 b1 r1 p1 => ?_⟩
    by_cases hz : vs.length ≤ sizeLine
    · rw [if_pos hz] at p1
      refine ⟨by rw [← r1.length]; exact hz, fun a na => ?_⟩
      obtain ⟨b2, le⟩ := b1.alloc (o := .lst ws) na
      exact p1 _ _ _ le b2 (.lst upd_same (r1.mono le))
    · rw [if_neg hz] at p1; exact p1.elim
end
/-- a new list of the store -/
theorem BR.push {T : Cs} {W : Wd} {S : Store} {H : Hp} {p : Addr} {so : SO} {o : HO} (b : BR T W S H) (hp : H p = none) (ho : SOR T ⟨W.Φ, W.ρ ++ [p], W.Fh⟩ (upd H p o) p so) :
    BR T ⟨W.Φ, W.ρ ++ [p], W.Fh⟩ (S ++ [so]) (upd H p o) ∧ W.le ⟨W.Φ, W.ρ ++ [p], W.Fh⟩ := by
  have nF : W.Φ p = none := by
    cases e : W.Φ p with
    | none => rfl
    | some u => rw [b.frz _ _ e] at hp; cases hp
  have nG : W.Fh p = none := by
    cases e : W.Fh p with
    | none => rfl
    | some u => rw [b.fhs _ _ e] at hp; cases hp
  have there : ∀ a ∈ W.ρ, ∃ o, H a = some o := fun a hm => by
    obtain ⟨n, hn, e⟩ := List.mem_iff_getElem.mp hm
    have q := b.sto n (S[n]'(by rw [← b.len]; exact hn)) a (List.getElem?_eq_getElem _) (by rw [List.getElem?_eq_getElem hn, e])
    cases hs : (S[n]'(by rw [← b.len]; exact hn)) with
    | lst xs => rw [hs] at q; obtain ⟨_, vs, e, _⟩ := q; exact ⟨_, e⟩
    | inst c xs => rw [hs] at q; obtain ⟨_, dx, vs, e, _⟩ := q; exact ⟨_, e⟩
    | dct ks vs => rw [hs] at q; exact q.elim
  have nR : p ∉ W.ρ := fun hm => by
    obtain ⟨o, e⟩ := there p hm
    rw [hp] at e; cases e
  have keep : ∀ a u, H a = some u → upd H p o a = some u := fun a u e => by rw [upd_ne (ne_of_none e hp)]; exact e
  have le : W.le ⟨W.Φ, W.ρ ++ [p], W.Fh⟩ := ⟨fun _ _ h => h, fun n a h => by
    rw [List.getElem?_append_left]
    · exact h
    · exact (List.getElem?_eq_some_iff.mp h).1, rfl⟩
  refine ⟨⟨fun a u e => keep a u (b.frz a u e), fun a u e => keep a u (b.fhs a u e), b.dF, fun a hm => ?_, ?_, ?_, fun n so' a e1 e2 => ?_⟩, le⟩
  · rcases List.mem_append.mp hm with h | h
    · exact b.dR a h
    · cases List.mem_singleton.mp h
      exact ⟨nF, nG⟩
  · refine List.nodup_append.mpr ⟨b.nd, by simp, fun a ha c hc => ?_⟩
    cases List.mem_singleton.mp hc
    exact fun e => nR (e ▸ ha)
  · show (W.ρ ++ [p]).length = _
    rw [List.length_append, List.length_append, b.len]; rfl
  · have e2 : (W.ρ ++ [p])[n]? = some a := e2
    by_cases hn : n < S.length
    · rw [List.getElem?_append_left hn] at e1
      rw [List.getElem?_append_left (by rw [b.len]; exact hn)] at e2
      have q := b.sto n so' a e1 e2
      cases so' with
      | lst xs => obtain ⟨pu, vs, e, r⟩ := q; exact ⟨pu, vs, keep _ _ e, r.mono le⟩
      | inst c xs => obtain ⟨pu, dx, vs, e, ed, l, r⟩ := q; exact ⟨pu, dx, vs, keep _ _ e, ed, l, r.mono le⟩
      | dct ks vs => exact q
    · have hn' : n = S.length := by
        have := (List.getElem?_eq_some_iff.mp e1).1
        rw [List.length_append] at this
        simp only [List.length_cons, List.length_nil] at this
        omega
      subst hn'
      rw [List.getElem?_append_right (Nat.le_refl _), Nat.sub_self] at e1
      rw [List.getElem?_append_right (by rw [b.len]; exact Nat.le_refl _), b.len, Nat.sub_self] at e2
      cases e1
      cases e2
      exact ho
section
variable {X : Cx} {T : Cs} {G : Gl} {C : CallF} {Wx : WXi} {Q : Sc}
theorem snd_lstR {l : IR} {es : List Expr} {pos : Pos} (h : PA X es (tEs T G C Wx l)) : PE X (.List es pos) (tE T G C Wx (.lstR l)) :=
  PE.imp (pe_lst h) fun σ H K ⟨W, env, S, br, er, p⟩ => by
    simp only [ev] at p
    refine ⟨W, env, S, br, er, p.bindL fun vs S1 W1 H1 ws l1 b1 r1 p1 => ?_⟩
    by_cases hz : vs.length ≤ sizeLine ∧ PV.pures vs = true
    · rw [if_pos hz] at p1
      refine ⟨by rw [← r1.length]; exact hz.1, fun a na => ?_⟩
      obtain ⟨b2, le⟩ := b1.push (so := .lst vs) (o := .lst ws) na ⟨hz.2, ws, upd_same, Rels.pureUp (W := W1) (W' := ⟨W1.Φ, W1.ρ ++ [a], W1.Fh⟩) (fun _ _ h => h) hz.2 r1⟩
      refine p1 _ _ _ le b2 (.ref ?_)
      show (W1.ρ ++ [a])[S1.length]? = some a
      rw [← b1.len, List.getElem?_append_right (Nat.le_refl _), Nat.sub_self]; rfl
    · rw [if_neg hz] at p1; exact p1.elim
end
end RF
/-! Fi: built-in functions called, isinstance, methods of built-in types, attributes, f-strings. -/
namespace RF
open PySem L2
section
variable {X : Cx} {T : Cs} {G : Gl} {C : CallF} {Wx : WXi} {Q : Sc}
def bname : BFn → Str
  | .len => "len" | .all => "all" | .any => "any" | .min => "min" | .max => "max" | .abs => "abs"
  | .int => "int" | .str => "str" | .repr => "repr" | .tuple => "tuple" | .list => "list" | .divmod => "divmod"
  | .sum => "sum" | .bool => "bool"
theorem boot_b (b : BFn) : bootBuiltins (bname b) = some (bval b) := by cases b <;> decide +kernel
def noStars : List Expr → Bool
  | [] => true
  | e :: es => notStar e && noStars es
theorem noStars_any {es : List Expr} {env : Env} {pos : Pos} (h : noStars es = true) : (backTo pos (starEach es env)).any (·.1) = false := by
  induction es with
  | nil => rfl
  | cons e es ih =>
    simp only [noStars, Bool.and_eq_true] at h
    rw [star_no h.1]
    show (false || (backTo pos (starEach es env)).any (·.1)) = false
    rw [ih h.2]; rfl
theorem noStars_all {es : List Expr} {env : Env} {pos : Pos} (h : noStars es = true) : (backTo pos (starEach es env)).all (fun x => !x.1) = true := by
  induction es with
  | nil => rfl
  | cons e es ih =>
    simp only [noStars, Bool.and_eq_true] at h
    rw [star_no h.1]
    show (true && (backTo pos (starEach es env)).all (fun x => !x.1)) = true
    rw [ih h.2]; rfl
theorem pe_callV {b : BFn} {r : List V → Hp → VK → Prop} {p pos : Pos} {e : Expr} {es : List Expr} {t : TA} (hc : CallR X (bval b) r) (hg : L2.Gl X (bname b)) (hm : X.mg (bname b) = none) (ha : PA X (e :: es) t) (hn : noStars (e :: es) = true) :
    PE X (.Call (.Name (bname b) p) (e :: es) [] pos) (tCB r t) := by
  have hn2 := hn
  simp only [noStars, Bool.and_eq_true] at hn2
  have h1 := star_no (env := X.env) (es := es) hn2.1
  have h2 := noStars_any (env := X.env) (pos := pos) hn2.2
  have hb := boot_b b
  cases b <;> first
    | exact pe_callB hc hg hm hb ha (by decide) (by decide) h1 h2
    | exact pe_callTy hc hg hm hb ha (by decide) (by decide) h1 h2
theorem snd_bfn (g : Good X T G C Wx Q) {b : BFn} (hq : bCalm b = true → Q.calm = true) {l : IR} {p pos : Pos} {x : Str} {e : Expr} {es : List Expr} (hx : x = bname b) (h1 : glB Q.sc x = true) (h2 : x ∈ Q.bt) (hn : noStars (e :: es) = true) (h : PA X (e :: es) (tEs T G C Wx l)) :
    PE X (.Call (.Name x p) (e :: es) [] pos) (tE T G C Wx (.bfn b l)) := by
  subst hx
  refine PE.imp (pe_callV (bfn_ok g.hK b (fun h => g.calm (hq h)) g.grd (by have := g.un; omega)) (g.gl h1) (g.bt _ h2) h hn) fun σ H K ⟨W, env, S, br, er, p⟩ => ?_
  simp only [ev] at p
  refine ⟨W, env, S, br, er, p.bindL fun vs S1 W1 H1 ws l1 b1 r1 p1 => ?_⟩
  cases hf : bfnV S1 b vs with
  | none => rw [hf] at p1; exact p1.elim
  | some z => rw [hf] at p1; exact ⟨W1, S1, vs, z, b1, r1, hf, fun W2 H2 w l2 b2 r2 => p1 W2 H2 w l2 b2 r2⟩
theorem snd_listR (g : Good X T G C Wx Q) {a : IR} {p pos : Pos} {x : Str} {e : Expr} (hx : x = bname .list) (h1 : glB Q.sc x = true) (h2 : x ∈ Q.bt) (hn : notStar e = true) (h : PE X e (tE T G C Wx a)) :
    PE X (.Call (.Name x p) [e] [] pos) (tE T G C Wx (.listR a)) := by
  subst hx
  refine PE.imp (pe_callV (b := .list) call_list_of (g.gl h1) (g.bt _ h2) (pa_cons h pa_nil (star_no hn)) (by simp only [noStars, hn, Bool.and_self])) fun σ H K ⟨W, env, S, br, er, p⟩ => ?_
  simp only [ev] at p
  refine ⟨W, env, S, br, er, p.bind fun v S1 W1 H1 w l1 b1 r1 p1 => ?_⟩
  have go : ∀ ys, bfnV S1 .list [v] = some (.lst ys) → (∃ (a : Addr) (vs : List V), w = .ref a ∧ (SqL T.K H1 a vs ∨ SqT T.K H1 a vs) ∧ Rels T W1 ys vs) → (tNil σ H1 fun ys H2 => ∃ p zs, (w :: ys) = [V.ref p] ∧ (SqL X.K H2 p zs ∨ SqT X.K H2 p zs) ∧ ∀ l, H2 l = none → K (.ref l) (upd H2 l (.lst zs))) := by
    rintro ys hf ⟨a, vs, rfl, hq, rr⟩
    rw [hf] at p1
    dsimp only at p1
    split at p1
    · rename_i hp
      refine ⟨a, vs, rfl, g.hK ▸ hq, fun l hl => ?_⟩
      obtain ⟨b2, le⟩ := b1.push (so := .lst ys) (o := .lst vs) hl ⟨hp, vs, upd_same, Rels.pureUp (W := W1) (W' := ⟨W1.Φ, W1.ρ ++ [l], W1.Fh⟩) (fun _ _ h => h) hp rr⟩
      refine p1 _ _ _ le b2 (.ref ?_)
      show (W1.ρ ++ [l])[S1.length]? = some l
      rw [← b1.len, List.getElem?_append_right (Nat.le_refl _), Nat.sub_self]; rfl
    · exact p1.elim
  cases q : vw S1 v with
  | tup ys =>
    obtain ⟨a, vs, rfl, hq, rr⟩ := vw_tup b1 r1 q
    exact go ys (by simp only [bfnV, q]) ⟨a, vs, rfl, .inr hq.sq, rr⟩
  | lst ys =>
    obtain ⟨a, vs, rfl, hq, rr⟩ := vw_lst b1 r1 q
    exact go ys (by simp only [bfnV, q]) ⟨a, vs, rfl, .inl hq, rr⟩
  | _ => simp only [bfnV, q] at p1; exact p1.elim
/-! ### isinstance -/
def itVal (T : Cs) : ITy → Value
  | .own c => .ref (T.at_ c)
  | t => .type (tyNm t)
theorem isB_ok (ts : List ITy) (tn : String) {t : ITy} {k : Bool} (ok : KOk T G Q.nm) (e : isIB ts t = some k) (ho : ∀ c, t = .own c → c < G.cls.length)
    (hm : tn ∈ ["NoneType", "bool", "int", "str", "list", "tuple"]) (hd : ∀ t, isBase t = true → kitB tn (tyNm t) = some (decide (t ∈ ts))) : PySem.W.kitOne T.K (.type tn) (itVal T t) = some k := by
  unfold isIB at e
  split at e
  · rename_i hb
    cases e
    have := kit_ty (K := T.K) (hd t hb)
    cases t <;> first | exact this | cases hb
  · split at e
    · rename_i h1
      cases e
      cases t with
      | own c =>
        have hc := ho c rfl
        exact (ok.cls c _ (List.getElem?_eq_getElem hc)).kf tn hm
      | _ => cases h1
    · cases e
theorem isC_ok {c : Nat} {t : ITy} {k : Bool} (ok : KOk T G Q.nm) (e : isIC G c t = some k) : c < G.cls.length ∧ PySem.W.kitOne T.K (.ref (T.at_ c)) (itVal T t) = some k := by
  unfold isIC at e
  split at e
  · rename_i hc
    refine ⟨hc, ?_⟩
    have co := ok.cls c _ (List.getElem?_eq_getElem hc)
    split at e
    · rename_i d
      split at e
      · cases e; exact co.kc d (by assumption)
      · cases e
    · split at e
      · rename_i hb
        cases e
        have := co.kt t hb
        cases t <;> first | exact this | cases hb
      · cases e
  · cases e
theorem KOk.ins (ok : KOk T G Q.nm) {H : Hp} {a dx : Addr} {c : Nat} {fs : List (Str × V)} (hc : c < G.cls.length) (h : H a = some (.ins (T.at_ c) dx fs)) : TyOf T.K H (.ref a) (.ref (T.at_ c)) :=
  have co := ok.cls c _ (List.getElem?_eq_getElem hc)
  .ins h co.cl co.ha ok.hn ok.htk co.hm
def kitAll (tn : String) (ts : List ITy) : Bool := [ITy.str, .int, .bool, .tuple, .list, .dict].all fun t => kitB tn (tyNm t) == some (decide (t ∈ ts))
theorem kitAll_ok {tn : String} {ts : List ITy} (h : kitAll tn ts = true) : ∀ t, isBase t = true → kitB tn (tyNm t) = some (decide (t ∈ ts)) := by
  intro t ht
  simp only [kitAll, List.all_cons, List.all_nil, Bool.and_true, Bool.and_eq_true, beq_iff_eq] at h
  obtain ⟨h1, h2, h3, h4, h5, h6⟩ := h
  cases t <;> first | assumption | cases ht
theorem isI_ok {W : Wd} {S : Store} {H : Hp} {v : PV} {w : V} {t : ITy} {k : Bool} (ok : KOk T G Q.nm) (br : BR T W S H) (r : Rel T W v w) (ho : ∀ c, t = .own c → c < G.cls.length) (e : isIV G S v t = some k) :
    ∃ ty, TyX T.K H w ty ∧ PySem.W.kitOne T.K ty (itVal T t) = some k := by
  have base : ∀ (ts : List ITy) (tn : String), isIB ts t = some k → tn ∈ ["NoneType", "bool", "int", "str", "list", "tuple"] → kitAll tn ts = true → PySem.W.kitOne T.K (.type tn) (itVal T t) = some k :=
    fun ts tn e hm hk => isB_ok ts tn ok e ho hm (kitAll_ok hk)
  cases r with
  | non => exact ⟨_, .base .non, base [] "NoneType" e (by decide) (by decide +kernel)⟩
  | bl b => exact ⟨_, .base (.bl _), base [.int, .bool] "bool" e (by decide) (by decide +kernel)⟩
  | int b => exact ⟨_, .base (.int _), base [.int] "int" e (by decide) (by decide +kernel)⟩
  | str b => exact ⟨_, .base (.str _), base [.str] "str" e (by decide) (by decide +kernel)⟩
  | tup h r =>
    have hk := base [.tuple] "tuple" e (by decide) (by decide +kernel)
    rcases TupAt.upw br.frz h with ⟨o, h, _⟩ | ⟨o, its, n, h1, h2, _⟩
    · exact ⟨_, .fTuple h, hk⟩
    · exact ⟨_, .kTuple h1 h2, hk⟩
  | lst h r => exact ⟨_, .base (.lst (br.frz _ _ h)), base [.list] "list" e (by decide) (by decide +kernel)⟩
  | scr h r => simp only [isIV] at e; cases e
  | obj h hd hf hl r =>
    obtain ⟨hc, hk⟩ := isC_ok ok e
    exact ⟨_, .base (ok.ins hc (br.frz _ _ h)), hk⟩
  | @ref n a h =>
    simp only [isIV] at e
    split at e
    · rename_i xs hs
      obtain ⟨vs, e1, _⟩ := ref_lst br h hs
      exact ⟨_, .base (.lst e1), base [.list] "list" e (by decide) (by decide +kernel)⟩
    · rename_i c xs hs
      obtain ⟨hc, hk⟩ := isC_ok ok e
      obtain ⟨_, dx, vs, e1, _⟩ := br.sto n _ a hs h
      exact ⟨_, .base (ok.ins hc e1), hk⟩
    · cases e
theorem boot_isi : bootBuiltins "isinstance" = some (.builtin "isinstance") := by decide +kernel
theorem snd_isI (g : Good X T G C Wx Q) {a : IR} {t : ITy} {e e2 : Expr} {p pos : Pos} {x : Str} (hx : x = "isinstance") (h1 : glB Q.sc x = true) (h2 : x ∈ Q.bt) (hn : notStar e = true) (hn2 : notStar e2 = true) (ho : ∀ c, t = .own c → c < G.cls.length)
    (h : PE X e (tE T G C Wx a)) (ht : ∃ c, PE X e2 (tC c) ∧ ClsV c (itVal T t)) : PE X (.Call (.Name x p) [e, e2] [] pos) (tE T G C Wx (.isI a t)) := by
  subst hx
  obtain ⟨c, ht, hcv⟩ := ht
  refine PE.imp (pe_callB call_isi (g.gl h1) (g.bt _ h2) boot_isi (pa_cons h (pa_cons ht pa_nil (star_no hn2)) (star_no hn)) (by decide) (by decide) (star_no hn) (noStars_any (by simp only [noStars, hn2, Bool.and_self]))) fun σ H K ⟨W, env, S, br, er, p⟩ => ?_
  simp only [ev] at p
  refine ⟨W, env, S, br, er, p.bind fun v S1 W1 H1 w l1 b1 r1 p1 => ?_⟩
  cases hf : isIV G S1 v t with
  | none => rw [hf] at p1; exact p1.elim
  | some k =>
    rw [hf] at p1
    obtain ⟨ty, h1, h2⟩ := isI_ok (Q := Q) g.kok b1 r1 ho hf
    exact ⟨w, c, ty, _, k, rfl, hcv, g.hK ▸ h1, g.hK ▸ h2, p1 W1 H1 _ (.refl _) b1 (.bl _)⟩
theorem cls_own (g : Good X T G C Wx Q) {x : Str} {c : Nat} {p : Pos} (h1 : glB Q.sc x = true) (h2 : Q.gc[c]? = some x) (h3 : okName x = true) : PE X (.Name x p) (tC (.ref (T.at_ c))) ∧ ClsV (.ref (T.at_ c)) (itVal T (.own c)) :=
  ⟨pe_glob (g.gl h1) (g.gc x c h2).1 rfl (okName_d h3), .own _⟩
theorem boot_ty (t : ITy) (h : isBase t = true) : bootBuiltins (tyNm t) = some (.type (tyNm t)) := by
  cases t <;> first | decide +kernel | cases h
theorem cls_ty (g : Good X T G C Wx Q) {x : Str} {t : ITy} {p : Pos} (hb : isBase t = true) (hx : x = tyNm t) (h1 : glB Q.sc x = true) (h2 : x ∈ Q.bt) (h3 : okName x = true) : PE X (.Name x p) (tC (.ty (tyNm t))) ∧ ClsV (.ty (tyNm t)) (itVal T t) := by
  subst hx
  refine ⟨pe_bltn (g.gl h1) (g.bt _ h2) (boot_ty t hb) rfl (okName_n h3) (okName_d h3), ?_⟩
  cases t <;> first | exact .ty _ | cases hb
end
end RF
/-! Fj: a tuple turned about, methods of built-in types. -/
namespace RF
open PySem L2 PySem.Spec PyProof.Rows
section
variable {prog : Program} {w : World} {A : Around} {E : Value → Shared → Prop} {s : Shared}
theorem adjust_back (n : Nat) : Builtin.Slice.sliceAdjust none none (-1) (n : Int) = ((n : Int) - 1, -1) := by
  unfold Builtin.Slice.sliceAdjust
  simp
theorem places_back (n : Nat) : Builtin.Slice.slicePlaces ((n : Int) - 1) (-1) (-1) = n := by
  unfold Builtin.Slice.slicePlaces
  have h1 : ¬ ((-1 : Int) > 0) := by omega
  simp only [h1, if_false]
  have e : (- -1 : Int) = 1 := by decide
  rw [e, Int.ediv_one]
  split <;> omega
theorem sliceApplied_back {sl : Addr} {n : Nat} {u : Tok} {Q : Int × Int × Nat → Shared → Prop} (hs : s.heap.IsSliceOf sl .none .none (.int (-1) u)) (h : Q ((n : Int) - 1, -1, n) s) :
    wpAny (model prog w) A (Builtin.Slice.sliceApplied (.ref sl) (pure (n : Int))) Q E s := by
  obtain ⟨os, hos, hcs, hds⟩ := id hs
  unfold Builtin.Slice.sliceApplied Builtin.Slice.sliceFields
  refine wpAny_bind (wpAny_bind (wpAny_field hos hds (x := .none) rfl (wpAny_bind (wpAny_field hos hds (x := .none) rfl (wpAny_bind (wpAny_field hos hds (x := .int (-1) u) rfl (wpAny_pure ?_)))))))
  refine wpAny_bind (slicePart_int ?_)
  show wpAny _ _ (if ((-1 : Int) == 0) = true then _ else _) _ _ s
  rw [if_neg (by decide)]
  refine wpAny_bind (slicePart_none (wpAny_bind (slicePart_none (wpAny_bind (wpAny_pure ?_)))))
  show wpAny _ _ (match Builtin.Slice.sliceAdjust none none (-1) (n : Int) with | (lo, hi) => pure (lo, (-1 : Int), Builtin.Slice.slicePlaces lo hi (-1))) _ _ s
  rw [adjust_back n]
  show wpAny _ _ (pure ((n : Int) - 1, (-1 : Int), Builtin.Slice.slicePlaces ((n : Int) - 1) (-1) (-1))) _ _ s
  rw [places_back]
  exact wpAny_pure h
theorem pick_back (xs : Array Value) : ((List.range xs.size).filterMap fun (k : Nat) => xs[(((xs.size : Nat) : Int) - 1 + (k : Int) * -1).toNat]?).toArray = xs.toList.reverse.toArray := by
  have e : (fun (k : Nat) => xs[(((xs.size : Nat) : Int) - 1 + (k : Int) * -1).toNat]?) = (fun i => xs[i]?) ∘ fun k => xs.size - 1 - k := by
    funext k
    show _ = xs[xs.size - 1 - k]?
    have : (((xs.size : Nat) : Int) - 1 + (k : Int) * -1).toNat = xs.size - 1 - k := by omega
    rw [this]
  rw [e, ← List.filterMap_map, PySem.W.krv_range, List.filterMap_reverse, PySem.W.krv_all]
theorem getItem_tuple_back {t sl : Addr} {items : Array Value} {u : Tok} {Q : Value → Shared → Prop} (ht : IsTup s.heap t items) (hs : s.heap.IsSliceOf sl .none .none (.int (-1) u))
    (h : Q (.ref s.heap.objs.size) { s with heap := s.heap.push { cls := .type "tuple", data := .seq items.toList.reverse.toArray } })
    (hsz : items.size ≤ sizeLine) : wpAny (model prog w) A (getItem (.ref t) (.ref sl)) Q E s := by
  have htake : sizeOk (.seq items.toList.reverse.toArray) := by
    show items.toList.reverse.toArray.size ≤ sizeLine
    rw [List.size_toArray, List.length_reverse, Array.length_toList]
    omega
  obtain ⟨os, hos, hcs, hds⟩ := id hs
  have hTs : s.TypeIs (.ref sl) "slice" := ⟨os, hos, hcs⟩
  unfold getItem
  try with_reducible refine wpAny_holding ?_
  first | refine wpAny_bind (wpAny_pure ?_) | skip
  refine wpAny_bind (wpAny_sequenceKey ht.typeIs (by decide) ?_)
  refine wpAny_bind (wpAny_callSpecial?_slot (name := Str.ofString "__getitem__") ht.typeIs PyProof.Rows.slot_tuple_getitem
    (wpAny_call_entry PyProof.Rows.slot_tuple_getitem ht.typeIs PyProof.Rows.entry_tuple_getitem ?_ (PyProof.Rows.args_tuple_getitem _ _)))
  show wpAny _ _ (Builtin.Tuple.tupleItemsOf (.ref t) >>= _) _ _ s
  refine wpAny_bind (tupleItemsOf_ ht ?_)
  refine wpAny_bind (wpAny_typeOf hTs ?_)
  rw [if_pos (by decide)]
  refine wpAny_bind (sliceApplied_back hs ?_)
  have hno : ¬ ((((items.size : Int) - 1) == 0 && (-1 : Int) == 1 && items.size == items.size) = true) := by
    intro q
    rw [Bool.and_eq_true, Bool.and_eq_true] at q
    exact absurd q.1.2 (by decide)
  show wpAny _ _ (if (((items.size : Int) - 1) == 0 && (-1 : Int) == 1 && items.size == items.size) = true then _ else _) _ _ s
  rw [if_neg hno, pick_back]
  first
    | exact wpAny_bind (m := Builtin.Tuple.tupleExact _) (wpAny_newObj_type (wpAny_pure ⟨_, rfl, wpAny_pure h⟩) htake)
    | exact wpAny_bind (m := Builtin.Tuple.tupleExact _) (wpAny_newObj_type (wpAny_bind (wpAny_pure (wpAny_pure ⟨_, rfl, wpAny_pure h⟩))) htake)
    | exact wpAny_bind (wpAny_bind (m := Builtin.Tuple.tupleExact _) (wpAny_newObj_type (wpAny_pure (wpAny_pure ⟨_, rfl, wpAny_pure h⟩)) htake))
    | exact wpAny_bind (wpAny_bind (m := Builtin.Tuple.tupleExact _) (wpAny_newObj_type (wpAny_pure ⟨_, rfl, wpAny_pure h⟩) htake))
end
section
variable {X : Cx} {T : Cs} {G : Gl} {C : CallF} {Wx : WXi} {Q : Sc}
/-- xs[::-1], a list or a tuple -/
theorem pe_rev {e : Expr} {te : TE} {k : Nat} {p1 p2 p3 pos : Pos} (he : PE X e te) : PE X (.Subscript e (.Slice none none (some (.UnaryOp .USub (.Constant (.int 1) k p1) p2)) p3) pos)
    (fun σ H K => te σ H fun x H1 => ∃ a xs, x = .ref a ∧ ((SqL X.K H1 a xs ∧ ∀ p, H1 p = none → K (.ref p) (upd H1 p (.lst xs.reverse))) ∨ (SqT X.K H1 a xs ∧ ∀ p us, H1 p = none → K (.ref p) (upd H1 p (.frz (tupO us) (.tup xs.reverse)))))) := by
  refine ⟨fun pins s σ H K I h => ?_⟩
  refine Subscript_ (thn (he.run pins s σ H _ I h) fun v s1 ⟨x, H1, I1, r1, q1⟩ => ?_)
  obtain ⟨a, xs, ex, q⟩ := q1
  subst ex
  cases r1
  have hst : PO X (some (.UnaryOp .USub (.Constant (.int 1) k p1) p2)) (tPart (tUn (rU fun i => .int (-i)) (tC (.int 1)))) := po_some (pe_un un_neg pe_int)
  refine wpAny_Slice (thn (po_none.run pins s1 σ H1 (fun o H2 => o = none ∧ H2 = H1) I1 ⟨rfl, rfl⟩) fun vl s2 ⟨l, H2, I2, pl, el, e2⟩ => ?_)
  subst el e2
  refine thn (po_none.run pins s2 σ H2 (fun o H3 => o = none ∧ H3 = H2) I2 ⟨rfl, rfl⟩) fun vu s3 ⟨u, H3, I3, pu, eu, e3⟩ => ?_
  subst eu e3
  refine thn (hst.run pins s3 σ H3 (fun o H4 => o = some (-1) ∧ H4 = H3) I3 ⟨1, rfl, -1, rfl, rfl, rfl⟩) fun vs s4 ⟨o, H4, I4, ps, eo, e4⟩ => ?_
  subst eo e4
  have I5 : L2.Inv X pins σ H4 { s4 with heap := s4.heap.push { cls := .type "slice", data := .fields #[vl, vu, vs] } } := I4.kept (t' := s4.toks) fun b ob q => Heap.get?_push_of_some _ q
  rcases q with ⟨hx, q⟩ | ⟨hx, q⟩
  · obtain ⟨its, r, ht, hz⟩ := I5.list hx
    have hlen := r.length
    show wpAny (model X.prog X.w) X.A (subscriptTail e (.Slice none none (some (.UnaryOp .USub (.Constant (.int 1) k p1) p2)) p3) (.ref a) (.ref s4.heap.objs.size)) (EP X pins σ K) X.xe { s4 with heap := s4.heap.push { cls := .type "slice", data := .fields #[vl, vu, vs] } }
    refine tail_any (ops := [.ref a, .ref s4.heap.objs.size]) ht.isList.typeIs (PySem.slot_list_getitem.lookup) ?_ (by with_unfolding_all rfl)
    refine wpAny_getItem_list_slice ht.isList (Heap.IsSliceOf.new _ vl vu vs) pl pu ps (by decide) ?_ (by rw [List.size_toArray]; omega)
    rw [PySem.W.krv_pick]
    refine ⟨.ref _, _, I5.laid (t' := s4.toks) (o := .lst xs.reverse) (fun b ob q => Heap.get?_push_of_some _ q) (Nat.le_refl _) ?_, rfl, q _ (I5.hok.fresh (Nat.le_refl _))⟩
    exact ⟨by rw [List.length_reverse]; exact hz, _, 0, r.reverse, Heap.get?_push_size _ rfl⟩
  · obtain ⟨its, r, ht, hz⟩ := I5.tuple hx
    have hlen := r.length
    cases pl; cases pu; cases ps
    show wpAny (model X.prog X.w) X.A (subscriptTail e (.Slice none none (some (.UnaryOp .USub (.Constant (.int 1) k p1) p2)) p3) (.ref a) (.ref s4.heap.objs.size)) (EP X pins σ K) X.xe { s4 with heap := s4.heap.push { cls := .type "slice", data := .fields #[.none, .none, _] } }
    refine tail_any (ops := [.ref a, .ref s4.heap.objs.size]) ht.typeIs PyProof.Rows.slot_tuple_getitem.lookup ?_ (by with_unfolding_all rfl)
    refine getItem_tuple_back ht (Heap.IsSliceOf.new _ _ _ _) ?_ (by rw [List.size_toArray]; omega)
    refine ⟨.ref _, _, laid_tup (us := its.reverse) (t' := s4.toks) I5 r.reverse (by rw [List.length_reverse]; exact hz), rfl, q _ _ (I5.hok.fresh (Nat.le_refl _))⟩
theorem snd_rev (g : Good X T G C Wx Q) {a : IR} {e : Expr} {k : Nat} {p1 p2 p3 pos : Pos} (h : PE X e (tE T G C Wx a)) : PE X (.Subscript e (.Slice none none (some (.UnaryOp .USub (.Constant (.int 1) k p1) p2)) p3) pos) (tE T G C Wx (.rev a)) :=
  PE.imp (pe_rev h) fun σ H K ⟨W, env, S, br, er, p⟩ => by
    simp only [ev] at p
    refine ⟨W, env, S, br, er, p.bind fun v S1 W1 H1 w l1 b1 r1 p1 => ?_⟩
    cases q : vw S1 v with
    | tup ys =>
      simp only [revV, q] at p1
      obtain ⟨a, vs, rfl, hq, rr⟩ := vw_tup b1 r1 q
      refine ⟨a, vs, rfl, .inr ⟨g.hK ▸ hq.sq, fun p us np => ?_⟩⟩
      obtain ⟨b2, le⟩ := b1.alloc (o := .frz (tupO us) (.tup vs.reverse)) np
      exact p1 _ _ _ le b2 (.tup TupAt.new (rr.reverse.mono le))
    | lst ys =>
      simp only [revV, q] at p1
      obtain ⟨a, vs, rfl, hq, rr⟩ := vw_lst b1 r1 q
      refine ⟨a, vs, rfl, .inl ⟨g.hK ▸ hq, fun p np => ?_⟩⟩
      obtain ⟨b2, le⟩ := b1.alloc (o := .lst vs.reverse) np
      exact p1 _ _ _ le b2 (.lst upd_same (rr.reverse.mono le))
    | _ => simp only [revV, q] at p1; exact p1.elim
/-! ### methods of built-in types -/
def tyF (K : PySem.W.Frag) (T : String) (x : V) (H : Hp) : Prop := match x with
  | .str _ => T = "str"
  | .ref p => (T = "list" ∧ ∃ xs, SqL K H p xs) ∨ (T = "tuple" ∧ ∃ xs, TupAt K H p xs)
  | _ => False
theorem tyF_is {pins : List (Addr × Obj)} {σ : L2.St} {H : Hp} {s : Shared} {T : String} {x : V} {v : Value} (I : L2.Inv X pins σ H s) (r : RelV x v) (ty : tyF X.K T x H) :
    s.TypeIs v T ∧ ∀ a, v = .ref a → ∃ ob, s.heap.get? a = some ob ∧ ob.dict = none := by
  cases x with
  | str z => exact tyV_is (T := T) (x := .str z) I r ty
  | ref p =>
    rcases ty with ⟨rfl, xs, hq⟩ | ⟨rfl, xs, ⟨o, h1, h2⟩ | ⟨o, its, n, h1, h2, _, _, _, h3⟩⟩
    · exact tyV_is (x := .ref p) I r (.inl ⟨rfl, xs, hq⟩)
    · cases r
      obtain ⟨e, _, its, _, o', e', c, _⟩ := (show ObjOk X.prog X.w H s.heap p (.frz o (.tup xs)) from I.hok p _ h1)
      exact ⟨⟨o', e', c⟩, fun a z => by cases z; exact ⟨o, e, h2⟩⟩
    · exact tyV_is (x := .ref p) I r (.inr (.inl ⟨rfl, o, h1, h2, h3⟩))
  | _ => exact False.elim ty
/-- the methods that are known -/
def mtId : String → String → Option String
  | "str", "split" => some "str.split"
  | "str", "join" => some "str.join"
  | "tuple", "index" => some "tuple.index"
  | "list", "index" => some "list.index"
  | "list", "append" => some "list.append"
  | "list", "pop" => some "list.pop"
  | _, _ => none
structure MOk (T : String) (name : Str) (id : String) : Prop where
  pa : PlainAttrs T
  slot : Slot T name id
  ty : typeOf (.builtin id) = pure (.type "method_descriptor")
theorem mok_split : MOk "str" "split" "str.split" := ⟨PySem.F.plainAttrs_str, PySem.F.slot_str_split, PySem.F.type_str_split⟩
theorem mok_join : MOk "str" "join" "str.join" := ⟨PySem.F.plainAttrs_str, PySem.F.slot_str_join, PySem.F.type_str_join⟩
theorem mok_tindex : MOk "tuple" "index" "tuple.index" := ⟨PySem.F.plainAttrs_tuple, PySem.F.slot_tuple_index, PySem.F.type_tuple_index⟩
theorem mok_lindex : MOk "list" "index" "list.index" := ⟨PySem.F.plainAttrs_list, PySem.F.slot_list_index, PySem.F.type_list_index⟩
theorem mok_append : MOk "list" "append" "list.append" := ⟨PySem.F.plainAttrs_list, PySem.F.slot_list_append, PySem.F.type_list_append⟩
theorem mok_pop : MOk "list" "pop" "list.pop" := ⟨PySem.F.plainAttrs_list, PySem.F.slot_list_pop, PySem.F.type_list_pop⟩
/-- o.name(e, ..): the method by the value -/
theorem pe_bmF {o e : Expr} {es : List Expr} {to : TE} {t : TA} {name : Str} {apos cpos : Pos} (ho : PE X o to) (ha : PA X (e :: es) t) (hbase : attributeBase o name X.env (eval o X.env) = eval o X.env)
    (hn : noStars (e :: es) = true) (hlen : (e :: es).length < 30) (hline : (apos.endLine == cpos.line) = true) :
    PE X (.Call (.Attribute o name apos) (e :: es) [] cpos) (fun σ H K => to σ H fun x H1 => ∃ (T id : String) (r : V → List V → Hp → VK → Prop), MOk T name id ∧ tyF X.K T x H1 ∧ MtR X id r ∧ t σ H1 fun xs H2 => r x xs H2 K) := by
  refine ⟨fun pins s σ H K I h => ?_⟩
  have hfew : ((backTo cpos (starEach (e :: es) X.env)).all (fun x => !x.1) && (backToKw cpos (keywordEach [] X.env)).all (fun x => x.1.isSome)
      && decide ((e :: es).length + ([] : List Keyword).length + (if ([] : List Keyword).isEmpty then 0 else 1) < 30)) = true := by
    rw [noStars_all hn]
    show decide ((e :: es).length + 0 + 0 < 30) = true
    exact decide_eq_true (by omega)
  refine wpAny_Call_method_late hbase hfew hline rfl (thn (ho.run pins s σ H _ I h) fun v s1 ⟨x, H1, I1, r1, q1⟩ => ?_)
  obtain ⟨T, id, r, mo, ty, hm, q1⟩ := q1
  obtain ⟨h1, h2⟩ := tyF_is I1 r1 ty
  refine ⟨T, id, mo.pa, mo.slot, mo.ty, h1, h2, ?_⟩
  have hA := ha.run cpos pins s1 σ H1 _ I1 q1
  have hn2 := hn
  simp only [noStars, Bool.and_eq_true] at hn2
  have hs := star_no (env := X.env) (es := es) hn2.1
  rw [hs] at hA ⊢
  refine Calls.callWith_builtin (by show (false || (backTo cpos (starEach es X.env)).any (·.1)) = false; rw [noStars_any hn2.2] <;> rfl) (Calls.evalArgs_plain ?_)
  exact thn hA fun us s2 ⟨vs, H2, I2, r2, q2⟩ => hm pins s2 σ H2 x vs v us K I2 r1 r2 q2
theorem pe_bmF0 {o : Expr} {to : TE} {name : Str} {apos cpos : Pos} (ho : PE X o to) (hbase : attributeBase o name X.env (eval o X.env) = eval o X.env) (hline : (apos.endLine == cpos.line) = true) :
    PE X (.Call (.Attribute o name apos) [] [] cpos) (fun σ H K => to σ H fun x H1 => ∃ (T id : String) (r : V → List V → Hp → VK → Prop), MOk T name id ∧ tyF X.K T x H1 ∧ MtR X id r ∧ r x [] H1 K) := by
  refine ⟨fun pins s σ H K I h => ?_⟩
  refine wpAny_Call_method0_late hbase hline (thn (ho.run pins s σ H _ I h) fun v s1 ⟨x, H1, I1, r1, q1⟩ => ?_)
  obtain ⟨T, id, r, mo, ty, hm, q1⟩ := q1
  obtain ⟨h1, h2⟩ := tyF_is I1 r1 ty
  exact ⟨T, id, mo.pa, mo.slot, mo.ty, h1, h2, Calls.callWith_builtin rfl (PySem.evalArgs_none (hm pins s1 σ H1 x [] v [] K I1 r1 .nil q1))⟩
def notCall0 : Expr → Bool
  | .Call _ [] [] _ => false
  | _ => true
theorem base_no {o : Expr} {name : Str} {env : Env} (h : notCall0 o = true) : attributeBase o name env (eval o env) = eval o env := by
  cases o with
  | Call f as ks p =>
    cases as with
    | nil => cases ks with
      | nil => cases h
      | cons _ _ => cases f <;> rfl
    | cons _ _ => cases f <;> rfl
  | _ => rfl
end
end RF
/-! Fk: methods of built-in types by values; attributes; f-strings. -/
namespace RF
open PySem L2
/-- an object of the store is put anew -/
theorem BR.put {T : Cs} {W : Wd} {S : Store} {H : Hp} {n : Nat} {a : Addr} {so : SO} {o : HO} (b : BR T W S H) (h : W.ρ[n]? = some a) (ho : SOR T W (upd H a o) a so) : BR T W (S.set n so) (upd H a o) := by
  have hm : a ∈ W.ρ := List.mem_of_getElem? h
  obtain ⟨nF, nG⟩ := b.dR a hm
  have ne : ∀ c u, W.Φ c = some u → c ≠ a := fun c u e z => by subst z; rw [nF] at e; cases e
  have ne2 : ∀ c u, W.Fh c = some u → c ≠ a := fun c u e z => by subst z; rw [nG] at e; cases e
  refine ⟨fun c u e => by rw [upd_ne (ne c u e)]; exact b.frz c u e, fun c u e => by rw [upd_ne (ne2 c u e)]; exact b.fhs c u e, b.dF, b.dR, b.nd, by rw [List.length_set]; exact b.len, fun m so' c e1 e2 => ?_⟩
  by_cases hmn : n = m
  · subst hmn
    have hl : n < S.length := by rw [← b.len]; exact (List.getElem?_eq_some_iff.mp h).1
    rw [List.getElem?_set_self hl] at e1
    rw [h] at e2
    cases e1; cases e2
    exact ho
  · rw [List.getElem?_set_ne hmn] at e1
    have hc : c ≠ a := fun z => by
      subst z
      obtain ⟨h1, e3⟩ := List.getElem?_eq_some_iff.mp h
      obtain ⟨h2, e4⟩ := List.getElem?_eq_some_iff.mp e2
      exact hmn ((List.getElem_inj b.nd).mp (e3.trans e4.symm))
    have q := b.sto m so' c e1 e2
    cases so' with
    | lst xs => obtain ⟨pu, vs, e, r⟩ := q; exact ⟨pu, vs, by rw [upd_ne hc]; exact e, r⟩
    | inst c' xs => obtain ⟨pu, dx, vs, e, ed, l, r⟩ := q; exact ⟨pu, dx, vs, by rw [upd_ne hc]; exact e, ed, l, r⟩
    | dct ks vs => exact q
section
variable {X : Cx} {T : Cs} {G : Gl} {C : CallF} {Wx : WXi} {Q : Sc}
def kindP : PV → Nat
  | .str _ => 0
  | .tup _ => 2
  | _ => 1
theorem kind_is {S : Store} {v : PV} {k : Nat} (e : kindB S v = some k) : k = kindP v := by
  unfold kindB at e
  split at e
  · rename_i q; cases e; cases vw_str q; rfl
  · rename_i q
    cases e
    rcases vw_cases S v with ⟨n, ys, rfl, _, _⟩ | ⟨ys, rfl, _⟩ | q2
    · rfl
    · rfl
    · rw [q2] at q; subst q; rfl
  · rename_i q; cases e; cases vw_same q (fun _ => nofun); rfl
  · cases e
def kTy : Nat → String
  | 0 => "str"
  | 1 => "list"
  | _ => "tuple"
theorem tyF_of {S : Store} {H : Hp} {W : Wd} {v : PV} {w : V} {k : Nat} (b : BR T W S H) (r : Rel T W v w) (e : kindB S v = some k) : tyF T.K (kTy k) w H := by
  unfold kindB at e
  split at e
  · rename_i q; cases e; cases vw_str q; cases r; exact rfl
  · rename_i q
    cases e
    obtain ⟨a, vs, rfl, h, _⟩ := vw_lst b r q
    exact .inl ⟨rfl, vs, h⟩
  · rename_i q
    cases e
    obtain ⟨a, vs, rfl, h, _⟩ := vw_tup b r q
    exact .inr ⟨rfl, vs, h⟩
  · cases e
/-- a method by values: nothing is changed -/
def RmF (T : Cs) (b : BMt) (k : Nat) : V → List V → Hp → VK → Prop := fun x xs H Q => ∃ W S a as z, BR T W S H ∧ Rel T W a x ∧ Rels T W as xs ∧ kindP a = k ∧ bmtV S b a as = some z ∧ ∀ W' H' w, W.le W' → BR T W' S H' → Rel T W' z w → Q w H'
theorem rels_strs {W : Wd} : ∀ (ys : List Str), Rels T W (ys.map .str) (ys.map V.str)
  | [] => .nil
  | y :: ys => .cons (.str y) (rels_strs ys)
theorem split_ok (hK : T.K = X.K) : MtR X "str.split" (RmF T .split 0) := by
  intro pins s σ H x xs v us Q I rx rxs h
  obtain ⟨W, S, a, as, z, br, ra, rs, hk, e, q⟩ := h
  unfold bmtV at e
  split at e <;> try contradiction
  · rename_i z1 c _ e1
    obtain ⟨w, rfl, r1⟩ := rs.one
    cases r1
    cases vw_str e1; cases ra
    split at e
    · rename_i hc
      cases e
      refine mt_split pins s σ H _ _ v us Q I rx rxs ⟨_, _, rfl, rfl, hc.1, hc.2, fun p hp => ?_⟩
      obtain ⟨b2, le⟩ := br.alloc (o := .lst ((Txt.split z1 c).map V.str)) hp
      exact q _ _ _ le b2 (.lst upd_same (rels_strs _))
    · cases e
theorem join_ok (hK : T.K = X.K) : MtR X "str.join" (RmF T .join 0) := by
  intro pins s σ H x xs v us Q I rx rxs h
  obtain ⟨W, S, a, as, z, br, ra, rs, hk, e, q⟩ := h
  unfold bmtV at e
  split at e <;> try contradiction
  · rename_i z1 c _ e1
    obtain ⟨w, rfl, r1⟩ := rs.one
    cases vw_str e1; cases ra
    have fin : ∀ ys, (ys.map (·.length)).sum + ys.length * z1.length ≤ sizeLine → z = .str (Txt.join z1 ys) → (∃ p, w = V.ref p ∧ (SqL X.K H p (ys.map V.str) ∨ SqT X.K H p (ys.map V.str))) → wpAny (model X.prog X.w) X.A (PySem.call (.builtin "str.join") (v :: us)) (EP X pins σ Q) X.xe s := by
      rintro ys hz rfl ⟨p, rfl, hq⟩
      exact mt_join pins s σ H _ _ v us Q I rx rxs ⟨_, p, ys, rfl, rfl, hq, hz, q W H _ (.refl W) br (.str _)⟩
    split at e
    · rename_i ys e2
      split at e
      · rename_i ts e3
        split at e
        · rename_i hz
          cases e
          obtain ⟨p, vs, rfl, hq, rr⟩ := vw_lst br r1 e2
          exact fin ts hz rfl ⟨p, rfl, .inl (strsP_ok rr e3 ▸ hK ▸ hq)⟩
        · cases e
      · cases e
    · rename_i ys e2
      split at e
      · rename_i ts e3
        split at e
        · rename_i hz
          cases e
          obtain ⟨p, vs, rfl, hq, rr⟩ := vw_tup br r1 e2
          exact fin ts hz rfl ⟨p, rfl, .inr (strsP_ok rr e3 ▸ hK ▸ hq.sq)⟩
        · cases e
      · cases e
    · cases e
/-- t.index(x), by data -/
theorem mt_tindexD (hu : X.A.units + 65 < cLine) : MtR X "tuple.index" (fun x xs H Q => ∃ (a : Addr) (y : V) (d : PyData) (ds : List PyData) (j : Nat) (z : PyData), x = V.ref a ∧ xs = [y] ∧ Dp X.K H (V.ref a) (.tuple ds) ∧ Dp X.K H y d ∧
    SeqAt.shaped (.tuple ds) = true ∧ SeqAt.shaped d = true ∧ ds[j]? = some z ∧ PyData.eqv z d = true ∧ (∀ (m : Nat) (z' : PyData), m < j → ds[m]? = some z' → PyData.eqv z' d = false) ∧ Q (.int (j : Nat)) H) := by
  intro pins s σ H x xs v us Q I rx rxs h
  obtain ⟨a, y, d, ds, j, z, rfl, rfl, hl, hy, sl, sd, hz, hzj, hno, q⟩ := h
  cases rx
  cases rxs with
  | cons ry rt =>
    rename_i uy ut
    cases rt
    obtain ⟨bs, r1⟩ := Dp.reads I d y uy hy ry
    have hxs : PyData.canLayAll0 ds = true := SeqAt.canLay_of_shaped sl
    have hroom : X.A.units + 1 + min (PyData.depthAll ds) d.depth < cLine := PyProof.Rows.room_in_shaped sd hu
    cases hl with
    | tup hs ha =>
      obtain ⟨its, rv, ⟨⟨cls, dd, data, sls⟩, ho, hc, n, hdt⟩, hlen⟩ := I.tuple hs
      simp only at hc hdt
      subst hc hdt
      obtain ⟨as, h4⟩ := Dp.readsAll I ds _ its ha rv
      have hn : its.length = ds.length := SeqAt.ReadsAll.length ds its as h4
      have hmap : its.map (SeqAt.readOf s.heap) = ds := SeqAt.readsAll_map ds its as hxs h4
      have hvl := rv.length
      have hsl := sizeLine_eq
      obtain ⟨hjd, _⟩ := List.getElem?_eq_some_iff.mp hz
      have hjl : j < its.length := by omega
      have hj : j < its.toArray.size := by simpa using hjl
      have at_ : ∀ (m : Nat) (hm : m < its.toArray.size) (z' : PyData), ds[m]? = some z' → SeqAt.readOf s.heap its.toArray[m] = z' := by
        intro m hm z' hz'
        have hml : m < its.length := by simpa using hm
        rw [← hmap, List.getElem?_map, List.getElem?_eq_getElem hml] at hz'
        have e1 : SeqAt.readOf s.heap its[m] = z' := Option.some.inj (show some (SeqAt.readOf s.heap its[m]) = some z' from hz')
        simpa using e1
      refine call_meets PySem.F.slot_tuple_index ⟨_, ho, rfl⟩ PySem.F.entry_tuple_index (PySem.F.args_tuple_index_2 _ _)
        (TI.tuple_indexAt a its.toArray n dd sls uy (fun u => PyData.eqv (SeqAt.readOf s.heap u) d) j hj ?_ ?_) ⟨ho, SeqAt.items_eqAt (vs := its.toArray) (show ReadsAll s.heap its.toArray.toList ds as from h4) r1 hxs (SeqAt.canLay_of_shaped sd) hroom, ?_⟩
      · show PyData.eqv (SeqAt.readOf s.heap its.toArray[j]) d = true
        rw [at_ j hj z hz]
        exact hzj
      · intro m hm hmj
        have hmd : m < ds.length := by omega
        have hz' : ds[m]? = some ds[m] := List.getElem?_eq_getElem hmd
        show PyData.eqv (SeqAt.readOf s.heap its.toArray[m]) d = false
        rw [at_ m hm _ hz']
        exact hno m _ hmj hz'
      · exact ⟨.int (j : Nat), H, I.tok _, ⟨_, rfl⟩, q⟩
theorem find_at {ds : List PyData} {d : PyData} {j : Nat} (h : ds.findIdx? (fun z => PyData.eqv z d) = some j) : ∃ z, ds[j]? = some z ∧ PyData.eqv z d = true ∧ ∀ (m : Nat) (z' : PyData), m < j → ds[m]? = some z' → PyData.eqv z' d = false := by
  obtain ⟨hj, h1, h2⟩ := List.findIdx?_eq_some_iff_getElem.mp h
  refine ⟨ds[j], List.getElem?_eq_getElem hj, h1, fun m z' hm e => ?_⟩
  obtain ⟨hm', rfl⟩ := List.getElem?_eq_some_iff.mp e
  exact Bool.eq_false_iff.mpr (h2 m hm)
theorem tindex_ok (hK : T.K = X.K) (hu : X.A.units + 65 < cLine) : MtR X "tuple.index" (RmF T .index 2) := by
  intro pins s σ H x xs v us Q I rx rxs h
  obtain ⟨W, S, a, as, z, br, ra, rs, hk, e, q⟩ := h
  unfold bmtV at e
  split at e <;> try contradiction
  · rename_i ys y e1
    obtain ⟨w, rfl, r1⟩ := rs.one
    split at e
    · rename_i d ds e2 e3
      split at e
      · rename_i j e4
        split at e
        · rename_i hs
          cases e
          simp only [Bool.and_eq_true] at hs
          obtain ⟨p, vs, rfl, hq, rr⟩ := vw_tup br ra e1
          obtain ⟨z, h1, h2, h3⟩ := find_at e4
          exact mt_tindexD hu pins s σ H _ _ v us Q I rx rxs ⟨p, w, d, ds, j, z, rfl, rfl, hK ▸ .tup hq.sq (dps_of br.frz _ _ _ rr e3), hK ▸ dp_of br.frz _ _ _ r1 e2, hs.2, hs.1, h1, h2, h3, q W H _ (.refl W) br (.int _)⟩
        · cases e
      · cases e
    · cases e
  · rename_i ys y e1
    exfalso
    rcases vw_cases S a with ⟨n, ys, rfl, _, _⟩ | ⟨ys, rfl, _⟩ | q2
    · cases hk
    · cases hk
    · rw [q2] at e1; subst e1; cases hk
theorem lindex_ok (hK : T.K = X.K) (hu : X.A.units + 65 < cLine) : MtR X "list.index" (RmF T .index 1) := by
  intro pins s σ H x xs v us Q I rx rxs h
  obtain ⟨W, S, a, as, z, br, ra, rs, hk, e, q⟩ := h
  unfold bmtV at e
  split at e <;> try contradiction
  · rename_i ys y e1
    cases vw_same e1 (fun _ => nofun)
    cases hk
  · rename_i ys y e1
    obtain ⟨w, rfl, r1⟩ := rs.one
    split at e
    · rename_i d ds e2 e3
      split at e
      · rename_i j e4
        split at e
        · rename_i hs
          cases e
          simp only [Bool.and_eq_true] at hs
          obtain ⟨p, vs, rfl, hq, rr⟩ := vw_lst br ra e1
          obtain ⟨z, h1, h2, h3⟩ := find_at e4
          exact mt_indexD hu pins s σ H _ _ v us Q I rx rxs ⟨p, w, d, ds, j, z, rfl, rfl, hK ▸ .lst hq (dps_of br.frz _ _ _ rr e3), hK ▸ dp_of br.frz _ _ _ r1 e2, hs.2, hs.1, h1, h2, h3, q W H _ (.refl W) br (.int _)⟩
        · cases e
      · cases e
    · cases e
def bmName : BMt → Str
  | .split => "split" | .join => "join" | .index => "index" | .count => "count" | .partition => "partition" | .get => "get" | .find => "find"
theorem bmt_ok (hK : T.K = X.K) (hu : X.A.units + 65 < cLine) {b : BMt} {k : Nat} (h : bmtK b (some k) = true) : ∃ id, MOk (kTy k) (bmName b) id ∧ MtR X id (RmF T b k) := by
  unfold bmtK at h
  split at h <;> try contradiction
  · rename_i e; cases e; exact ⟨_, mok_split, split_ok hK⟩
  · rename_i e; cases e; exact ⟨_, mok_join, join_ok hK⟩
  · rename_i e; cases e; exact ⟨_, mok_lindex, lindex_ok hK hu⟩
  · rename_i e; cases e; exact ⟨_, mok_tindex, tindex_ok hK hu⟩
theorem snd_bmt (g : Good X T G C Wx Q) {b : BMt} {o l : IR} {eo e : Expr} {es : List Expr} {name : Str} {apos cpos : Pos} (hname : name = bmName b) (hc : notCall0 eo = true) (hn : noStars (e :: es) = true) (hlen : (e :: es).length < 30) (hline : (apos.endLine == cpos.line) = true)
    (ho : PE X eo (tE T G C Wx o)) (hl : PA X (e :: es) (tEs T G C Wx l)) : PE X (.Call (.Attribute eo name apos) (e :: es) [] cpos) (tE T G C Wx (.bmt b o l)) := by
  subst hname
  refine PE.imp (pe_bmF ho hl (base_no hc) hn hlen hline) fun σ H K ⟨W, env, S, br, er, p⟩ => ?_
  simp only [ev] at p
  refine ⟨W, env, S, br, er, p.bind fun v S1 W1 H1 w l1 b1 r1 p1 => ?_⟩
  split at p1
  · rename_i hk
    cases hkk : kindB S1 v with
    | none => rw [hkk] at hk; cases b <;> cases hk
    | some k =>
      rw [hkk] at hk
      obtain ⟨id, mo, hm⟩ := bmt_ok (T := T) g.hK (by have := g.un; omega) hk
      refine ⟨_, id, _, mo, g.hK ▸ tyF_of b1 r1 hkk, hm, W1, env, S1, b1, er.mono l1, p1.bindL fun vs S2 W2 H2 ws l2 b2 r2 p2 => ?_⟩
      cases hf : bmtV S2 b v vs with
      | none => rw [hf] at p2; exact p2.elim
      | some z => rw [hf] at p2; exact ⟨W2, S2, v, vs, z, b2, r1.mono l2, r2, (kind_is hkk).symm, hf, fun W3 H3 w3 l3 b3 r3 => p2 W3 H3 w3 l3 b3 r3⟩
  · exact p1.elim
/-! ### a list of the store is changed -/
def RuF (T : Cs) (b : MMt) : V → List V → Hp → VK → Prop := fun x xs H Q => ∃ W S a as z S', BR T W S H ∧ Rel T W a x ∧ Rels T W as xs ∧ mmtV S b a as = some (z, S') ∧ ∀ W' H' w, W.le W' → BR T W' S' H' → Rel T W' z w → Q w H'
theorem Rels.dropLast {W : Wd} {x : List PV} {v : List V} (r : Rels T W x v) : Rels T W x.dropLast v.dropLast := by
  rw [List.dropLast_eq_take, List.dropLast_eq_take, r.length]
  exact r.take _
theorem pures_take (xs : List PV) (n : Nat) (h : PV.pures xs = true) : PV.pures (xs.take n) = true := pures_iff.mpr fun x hx => pures_iff.mp h x (List.mem_of_mem_take hx)
theorem pures_erase (xs : List PV) (n : Nat) (h : PV.pures xs = true) : PV.pures (xs.eraseIdx n) = true := pures_iff.mpr fun x hx => pures_iff.mp h x (List.mem_of_mem_eraseIdx hx)
theorem append_ok : MtR X "list.append" (RuF T .append) := by
  intro pins s σ H x xs v us Q I rx rxs h
  obtain ⟨W, S, a, as, z, S', br, ra, rs, e, q⟩ := h
  unfold mmtV at e
  split at e <;> try contradiction
  rename_i n
  cases ra with
  | ref hr =>
    split at e <;> try contradiction
    rename_i ys y hs _
    split at e
    · rename_i hc
      cases e
      obtain ⟨pu, vs, e1, rr⟩ := br.sto n _ _ hs hr
      obtain ⟨w, rfl, r1⟩ := rs.one
      refine mt_append pins s σ H _ _ v us Q I rx rxs ⟨_, vs, w, rfl, rfl, e1, by rw [← rr.length]; exact hc.2, ?_⟩
      refine q W _ _ (.refl W) (br.put hr ⟨?_, _, upd_same, rr.append (.cons r1 .nil)⟩) .non
      rw [pures_append, pu]
      simp only [PV.pures, hc.1, Bool.and_self]
    · cases e
theorem pop_ok : MtR X "list.pop" (RuF T .pop) := by
  intro pins s σ H x xs v us Q I rx rxs h
  obtain ⟨W, S, a, as, z, S', br, ra, rs, e, q⟩ := h
  unfold mmtV at e
  split at e <;> try contradiction
  rename_i n
  cases ra with
  | ref hr =>
    split at e <;> try contradiction
    · rename_i ys i hs _
      split at e
      · rename_i hc
        split at e
        · rename_i j hj
          split at e
          · rename_i y hy
            cases e
            obtain ⟨pu, vs, e1, rr⟩ := br.sto n _ _ hs hr
            obtain ⟨w, rfl, r1⟩ := rs.one
            cases r1
            obtain ⟨u, hu, ru⟩ := rr.get hy
            refine mt_popAt pins s σ H _ _ v us Q I rx rxs ⟨_, vs, i, j, u, rfl, rfl, e1, hc.1, hc.2, by rw [← rr.length]; exact hj, hu, ?_⟩
            exact q W _ _ (.refl W) (br.put hr ⟨pures_erase _ _ pu, _, upd_same, rr.eraseIdx j⟩) ru
          · cases e
        · cases e
      · cases e
    · rename_i ys hs _
      split at e
      · rename_i y hy
        cases e
        obtain ⟨pu, vs, e1, rr⟩ := br.sto n _ _ hs hr
        cases rs
        obtain ⟨u, hu, ru⟩ := rr.get hy
        refine mt_pop pins s σ H _ _ v us Q I rx rxs ⟨_, vs, u, rfl, rfl, e1, by rw [← rr.length]; exact hu, ?_⟩
        refine q W _ _ (.refl W) (br.put hr ⟨?_, _, upd_same, rr.dropLast⟩) ru
        rw [List.dropLast_eq_take]; exact pures_take _ _ pu
      · cases e
def mmName : MMt → Str
  | .append => "append" | .pop => "pop" | .insert => "insert"
theorem mmt_ok {b : MMt} (h : b ≠ .insert) : ∃ id, MOk "list" (mmName b) id ∧ MtR X id (RuF T b) := by
  cases b with
  | append => exact ⟨_, mok_append, append_ok⟩
  | pop => exact ⟨_, mok_pop, pop_ok⟩
  | insert => exact absurd rfl h
theorem snd_mmt (g : Good X T G C Wx Q) {b : MMt} {o l : IR} {eo : Expr} {es : List Expr} {name : Str} {apos cpos : Pos} (hb : b ≠ .insert) (hname : name = mmName b) (hc : notCall0 eo = true) (hn : noStars es = true) (hlen : es.length < 30) (hline : (apos.endLine == cpos.line) = true)
    (h0 : es = [] → l = .nil) (ho : PE X eo (tE T G C Wx o)) (hl : PA X es (tEs T G C Wx l)) : PE X (.Call (.Attribute eo name apos) es [] cpos) (tE T G C Wx (.mmt b o l)) := by
  subst hname
  have key : ∀ (σ : L2.St) (H : Hp) (K : VK), tE T G C Wx (.mmt b o l) σ H K → tE T G C Wx o σ H fun x H1 => ∃ (T' id : String) (r : V → List V → Hp → VK → Prop), MOk T' (mmName b) id ∧ tyF X.K T' x H1 ∧ MtR X id r ∧ tEs T G C Wx l σ H1 fun xs H2 => r x xs H2 K := by
    rintro σ H K ⟨W, env, S, br, er, p⟩
    simp only [ev] at p
    refine ⟨W, env, S, br, er, p.bind fun v S1 W1 H1 w l1 b1 r1 p1 => ?_⟩
    split at p1
    · rename_i hkk
      obtain ⟨id, mo, hm⟩ := mmt_ok (X := X) (T := T) hb
      refine ⟨_, id, _, mo, g.hK ▸ tyF_of b1 r1 hkk, hm, W1, env, S1, b1, er.mono l1, p1.bindL fun vs S2 W2 H2 ws l2 b2 r2 p2 => ?_⟩
      cases hf : mmtV S2 b v vs with
      | none => rw [hf] at p2; exact p2.elim
      | some z => rw [hf] at p2; exact ⟨W2, S2, v, vs, z.1, z.2, b2, r1.mono l2, r2, hf, fun W3 H3 w3 l3 b3 r3 => p2 W3 H3 w3 l3 b3 r3⟩
    · exact p1.elim
  cases es with
  | nil =>
    cases h0 rfl
    refine PE.imp (pe_bmF0 ho (base_no hc) hline) fun σ H K h => ?_
    obtain ⟨W, env, S, br, er, p⟩ := key σ H K h
    refine ⟨W, env, S, br, er, ?_⟩
    cases ho' : ev G C o env S with
    | ok v S1 =>
      rw [ho'] at p
      intro W2 H2 w l2 b2 r2
      obtain ⟨T', id, r, mo, ty, hm, W3, env3, S3, b3, er3, p3⟩ := p W2 H2 w l2 b2 r2
      simp only [evs] at p3
      exact ⟨T', id, r, mo, ty, hm, p3 W3 H2 [] (.refl _) b3 .nil⟩
    | exc x S1 => rw [ho'] at p; exact p
    | bad => rw [ho'] at p; exact p
  | cons e es => exact PE.imp (pe_bmF ho hl (base_no hc) hn hlen hline) key
end
end RF
/-! Fl: attributes, f-strings. -/
namespace RF
open PySem L2
section
variable {X : Cx} {T : Cs} {G : Gl} {C : CallF} {Wx : WXi} {Q : Sc}
theorem zip_lookup : ∀ {ns : List Str} {vs : List V} {j : Nat} {f : Str} {v : V}, ns.Nodup → ns[j]? = some f → vs[j]? = some v → (ns.zip vs).lookup f = some v
  | [], _, _, _, _, _, h, _ => by simp at h
  | _ :: _, [], _, _, _, _, _, h => by simp at h
  | n :: ns, w :: vs, 0, f, v, _, h1, h2 => by
    simp at h1 h2; subst h1 h2
    simp [List.zip_cons_cons, List.lookup_cons]
  | n :: ns, w :: vs, j + 1, f, v, nd, h1, h2 => by
    simp only [List.getElem?_cons_succ] at h1 h2
    have hne : (f == n) = false := beq_eq_false_iff_ne.mpr fun e => by
      subst e
      exact (List.nodup_cons.mp nd).1 (List.mem_of_getElem? h1)
    rw [List.zip_cons_cons, List.lookup_cons, hne]
    exact zip_lookup (List.nodup_cons.mp nd).2 h1 h2
theorem fix_at {c f j : Nat} {ci : ClsI} (hc : G.cls[c]? = some ci) (h : G.fix c f = some j) : ci.flds[j]? = some f := by
  unfold Gl.fix at h
  rw [hc] at h
  obtain ⟨hj, h1, _⟩ := List.findIdx?_eq_some_iff_getElem.mp h
  rw [List.getElem?_eq_getElem hj]
  exact congrArg some (beq_iff_eq.mp h1)
theorem fix_cls {c f j : Nat} (h : G.fix c f = some j) : ∃ ci, G.cls[c]? = some ci := by
  unfold Gl.fix at h
  cases e : G.cls[c]? with
  | none => rw [e] at h; cases h
  | some ci => exact ⟨ci, rfl⟩
theorem attr_ok {W : Wd} {S : Store} {H : Hp} {v z : PV} {w : V} {f : Nat} {name : Str} (ok : KOk T G Q.nm) (br : BR T W S H) (r : Rel T W v w) (hf : Q.nm[f]? = some name) (e : attrV G S v f = some z) :
    ∃ a C dx fs u, w = .ref a ∧ H a = some (.ins C dx fs) ∧ Cls T.K C ∧ NoAttr T.K C name ∧ fs.lookup name = some u ∧ Rel T W z u := by
  have fin : ∀ (c : Nat) (xs : List PV) (a dx : Addr) (vs : List V) (j : Nat), H a = some (.ins (T.at_ c) dx ((T.flds c).zip vs)) → Rels T W xs vs → G.fix c f = some j → xs[j]? = some z →
      ∃ b C dx fs u, V.ref a = .ref b ∧ H b = some (.ins C dx fs) ∧ Cls T.K C ∧ NoAttr T.K C name ∧ fs.lookup name = some u ∧ Rel T W z u := by
    intro c xs a dx vs j h rr hj hz
    obtain ⟨ci, hc⟩ := fix_cls hj
    have co := ok.cls c ci hc
    have e1 : (T.flds c)[j]? = some name := by rw [co.fl j f (fix_at hc hj)]; exact hf
    obtain ⟨u, hu, ru⟩ := rr.get hz
    exact ⟨a, _, dx, _, u, rfl, h, co.cl, co.na _ (List.mem_of_getElem? e1), zip_lookup co.nd e1 hu, ru⟩
  cases r with
  | @obj a dx c xs fs vs h hd hf' hl rr =>
    simp only [attrV] at e
    split at e
    · rename_i j hj
      subst hf'
      exact fin c xs a dx vs j (br.frz _ _ h) rr hj e
    · cases e
  | @ref n a h =>
    simp only [attrV] at e
    split at e
    · rename_i c xs hs
      split at e
      · rename_i j hj
        obtain ⟨_, dx, vs, e1, _, _, rr⟩ := br.sto n _ a hs h
        exact fin c xs a dx vs j e1 rr hj e
      · cases e
    · cases e
  | _ => simp only [attrV] at e; cases e
theorem snd_attr (g : Good X T G C Wx Q) {a : IR} {f : Nat} {e : Expr} {name : Str} {pos : Pos} (hf : Q.nm[f]? = some name) (hc : notCall0 e = true) (h : PE X e (tE T G C Wx a)) : PE X (.Attribute e name pos) (tE T G C Wx (.attr a f)) :=
  PE.imp (pe_fld h (base_no hc)) fun σ H K ⟨W, env, S, br, er, p⟩ => by
    simp only [ev] at p
    refine ⟨W, env, S, br, er, p.bind fun v S1 W1 H1 w l1 b1 r1 p1 => ?_⟩
    cases q : attrV G S1 v f with
    | none => rw [q] at p1; exact p1.elim
    | some z =>
      rw [q] at p1
      obtain ⟨a, C', dx, fs, u, e1, e2, e3, e4, e5, e6⟩ := attr_ok (Q := Q) g.kok b1 r1 hf q
      exact ⟨a, C', dx, fs, u, e1, e2, g.hK ▸ e3, g.hK ▸ e4, e5, p1 W1 H1 u (.refl _) b1 e6⟩
/-! ### f-strings -/
theorem snd_fmt {a : IR} {e : Expr} {pos : Pos} (h : PE X e (tE T G C Wx a)) : PE X (.FormattedValue e (-1) none pos) (tE T G C Wx (.fmt a)) :=
  PE.imp (pe_fmt h) fun σ H K ⟨W, env, S, br, er, p⟩ => by
    simp only [ev] at p
    refine ⟨W, env, S, br, er, p.bind fun v S1 W1 H1 w l1 b1 r1 p1 => ?_⟩
    cases v with
    | str z =>
      cases r1
      simp only [strPart] at p1
      split at p1
      · exact .inl ⟨z, rfl, by assumption, p1 W1 H1 _ (.refl _) b1 (.str _)⟩
      · exact p1.elim
    | int i =>
      cases r1
      simp only [strPart] at p1
      split at p1
      · exact .inr ⟨i, rfl, by assumption, p1 W1 H1 _ (.refl _) b1 (.str _)⟩
      · exact p1.elim
    | _ => exact p1.elim
/-- the parts of an f-string -/
def PJl (X : Cx) (T : Cs) (G : Gl) (C : CallF) (Wx : WXi) : List Expr → IR → Prop
  | [], .nil => True
  | e :: es, .cons a b => PE X e (tE T G C Wx a) ∧ PJl X T G C Wx es b
  | _, _ => False
theorem len_app (a b : Str) : (a ++ b).length = a.length + b.length := by
  show (a.cps ++ b.cps).size = _
  exact Array.size_append
theorem len_fold : ∀ (ts : List Str) (acc : Str), acc.length ≤ (ts.foldl (· ++ ·) acc).length
  | [], _ => Nat.le_refl _
  | t :: ts, acc => Nat.le_trans (by rw [len_app]; omega) (len_fold ts (acc ++ t))
theorem pj_of : ∀ {es : List Expr} {l : IR}, PJl X T G C Wx es l → ∃ ts, PJ X es ts ∧ ∀ (acc : Str) (W : Wd) (env : PEnv) (S : Store) (σ : St) (H : Hp) (K : VK) (xs : List PV) (S2 : Store) (zs : List Str), BR T W S H → ER T Wx.ξ W env σ →
    evs G C l env S = .ok xs S2 → strsP xs = some zs → (zs.foldl (· ++ ·) acc).length ≤ sizeLine → (∀ W' H', W.le W' → BR T W' S2 H' → K (.str (zs.foldl (· ++ ·) acc)) H') → tJs ts acc σ H fun out H1 => K (.str out) H1
  | [], .nil, _ => ⟨[], .nil, fun acc W env S σ H K xs S2 zs br er e1 e2 hz k => by
    simp only [evs] at e1
    cases e1
    simp only [strsP] at e2
    cases e2
    exact k W H (.refl W) br⟩
  | e :: es, .cons a b, h => by
    obtain ⟨h1, h2⟩ := h
    obtain ⟨ts, pj, ih⟩ := pj_of h2
    refine ⟨_ :: ts, .cons h1 pj, fun acc W env S σ H K xs S2 zs br er e1 e2 hz k => ?_⟩
    simp only [evs] at e1
    cases hv : ev G C a env S with
    | ok v S1 =>
      rw [hv] at e1
      simp only [Out.bind_ok] at e1
      cases hb : evs G C b env S1 with
      | ok vs S3 =>
        rw [hb] at e1
        cases e1
        cases v with
        | str y =>
          simp only [strsP] at e2
          cases hq : strsP vs with
          | none => rw [hq] at e2; cases e2
          | some ys =>
            rw [hq] at e2
            cases e2
            refine ⟨W, env, S, br, er, ?_⟩
            rw [hv]
            intro W1 H1 w l1 b1 r1
            cases r1
            refine ⟨y, rfl, Nat.le_trans (len_fold ys (acc ++ y)) hz, ?_⟩
            exact ih (acc ++ y) W1 env S1 σ H1 K vs S2 ys b1 (er.mono l1) hb hq hz fun W' H' l' b' => k W' H' (l1.trans l') b'
        | _ => simp [strsP] at e2
      | exc _ _ => rw [hb] at e1; cases e1
      | bad => rw [hb] at e1; cases e1
    | exc _ _ => rw [hv] at e1; cases e1
    | bad => rw [hv] at e1; cases e1
theorem snd_fstr {l : IR} {e1 e2 : Expr} {es : List Expr} {pos : Pos} (h : PJl X T G C Wx (e1 :: e2 :: es) l) : PE X (.JoinedStr (e1 :: e2 :: es) pos) (tE T G C Wx (.fstr l)) := by
  obtain ⟨ts, pj, k⟩ := pj_of h
  refine PE.imp (pe_joined pj) fun σ H K ⟨W, env, S, br, er, p⟩ => ?_
  simp only [ev] at p
  split at p
  · rename_i xs S1 hx
    split at p
    · rename_i zs hz
      split at p
      · rename_i hl
        exact k Str.empty W env S σ H K xs S1 zs br er hx hz hl fun W' H' l' b' => p W' H' _ l' b' (.str _)
      · exact p.elim
    · exact p.elim
  · exact p.elim
end
end RF
/-! Fm: what a loop goes through; targets. -/
namespace RF
open PySem L2 PySem.Spec PyProof.Rows
/-! ### enumerate over a tuple -/
set_option maxHeartbeats 1000000 in
theorem meets_enum1B {v : Value} {o : Obj} {H : Heap → Prop} (B : Begins v o H) :
    Meets (Builtin.«enumerate.__new__» ⟨[.type "enumerate", v], []⟩) (fun _ R s => H s.heap ∧
      R (.ok (.ret (.ref (s.heap.push o).objs.size))) { s with heap := (s.heap.push o).push { cls := .type "enumerate", data := .fields #[.none, .bool false, .ref s.heap.objs.size, rawInt 0, .none, .none] } }) :=
  .of_wp fun prog w A R s h => by
    obtain ⟨hp, g, d, tk, os⟩ := s
    obtain ⟨h1, h⟩ := h
    have hsub := sub_enumerate
    have q1 : ∀ {A' : Around} {E : Value → Shared → Prop} {Q : Value → Shared → Prop}, Q (.ref hp.objs.size) ⟨hp.push o, g, d, tk, os⟩ → wpAny (model prog w) A' (pyIter v) Q E ⟨hp, g, d, tk, os⟩ :=
      fun q => B.iter prog w _ _ ⟨hp, g, d, tk, os⟩ _ h1 q
    wp_walk using q1
    refine wpAny_stack_any fun st => wpAny_pure ?_
    split
    · rename_i c _ _ _ _ _
      cases (c == Value.type "enumerate")
      · wp_walk using q1
        exact ⟨_, rfl, h⟩
      · wp_walk using q1
        exact ⟨_, rfl, h⟩
    · wp_walk using q1
      exact ⟨_, rfl, h⟩
section
variable {prog : Program} {w : World} {A : Around} {E : Value → Shared → Prop} {s : Shared}
theorem call_enum1B {v : Value} {o : Obj} {H : Heap → Prop} {Q : Value → Shared → Prop} (B : Begins v o H) (h1 : H s.heap)
    (h : ∀ h', IsEnum h' (s.heap.objs.size + 1) s.heap.objs.size 0 .none → h'.get? s.heap.objs.size = some o → h'.objs.size = s.heap.objs.size + 2 →
      (∀ b o, s.heap.get? b = some o → h'.get? b = some o) → Q (.ref (s.heap.objs.size + 1)) { s with heap := h' }) :
    wpAny (model prog w) A (PySem.call (.type "enumerate") [v]) Q E s := by
  refine callType_new F.called_enumerate (by decide) (F.typeCall_enumerate_1 _) (F.newCall_enumerate_1 _) (fun obj => F.args_object_init_2 obj _) F.entry_enumerate_new
    (meets_enum1B B) ⟨h1, ?_⟩
  have hz : (s.heap.push o).objs.size = s.heap.objs.size + 1 := Heap.size_push ..
  show _ ∧ _
  rw [hz]
  have he : IsEnum ((s.heap.push o).push { cls := .type "enumerate", data := .fields #[.none, .bool false, .ref s.heap.objs.size, rawInt 0, .none, .none] }) (s.heap.objs.size + 1) s.heap.objs.size 0 .none := by
    have := Heap.get?_push_size (s.heap.push o) (o := { cls := .type "enumerate", data := .fields #[.none, .bool false, .ref s.heap.objs.size, rawInt 0, .none, .none] }) rfl
    rw [hz] at this
    exact this
  refine ⟨⟨_, he, rfl⟩, h _ he (Heap.get?_push_of_some _ (Heap.get?_push_size _ B.free)) (by rw [Heap.size_push, hz]) fun b o x => Heap.get?_push_of_some _ (Heap.get?_push_of_some _ x)⟩
end
/-- the tuple at a, each item in a new pair -/
def IteT (K : PySem.W.Frag) (a : Addr) : It :=
  ⟨fun i H => ∃ (xs : List V) (x : V), SqT K H a xs ∧ xs[i]? = some x, fun i H v H' => ∃ T x, v = .ref T ∧ H T = none ∧ H' = upd H T (.tup [.int (i : Nat), x]) ∧ ∀ xs, SqT K H a xs → xs[i]? = some x, fun i H => ∃ xs : List V, SqT K H a xs ∧ xs.length = i⟩
theorem turn_enumT {P : Program} {w : World} {K : PySem.W.Frag} {elts : List Expr} {kk : Nat} {tpos : Pos} (a e it : Addr) :
    Turn P w K (.Tuple elts kk tpos) (IteT K a) [e, it] e (fun i h => (∃ old, IsEnum h e it ((i : Nat) : Int) old) ∧ h.IsTupleIter it a i ∧ e ≠ it) where
  mem := by simp
  obj := fun i h st b hb => by
    obtain ⟨⟨old, he⟩, ⟨o, ho, hc, hd⟩, _⟩ := st
    have e' : b = e ∨ b = it := by simpa using hb
    rcases e' with z | z
    · rw [z]; exact ⟨_, he, fun v q => nomatch q⟩
    · rw [z]; exact ⟨o, ho, fun v q => by rw [hd] at q; cases q⟩
  keep := fun i h h' st k => let ⟨⟨old, he⟩, hi, hne⟩ := st; ⟨⟨old, k e (by simp) _ he⟩, hi.at fun o q => k it (by simp) o q, hne⟩
  item := by
    intro X hP hw hK hc i pins s σ H E I hf st hg
    subst hP hw hK
    obtain ⟨⟨old, he⟩, hit, hne⟩ := st
    obtain ⟨xs, x, hq, hx⟩ := hg
    obtain ⟨its, rv, p, hz⟩ := I.tuple hq
    obtain ⟨u, hu, ru⟩ := rv.get hx
    have hel : e < s.heap.objs.size := Heap.lt_size he
    have hil : it < s.heap.objs.size := by obtain ⟨_, q, _⟩ := hit; exact Heap.lt_size q
    have hta : a ≠ it := fun z => by
      subst z
      obtain ⟨o1, e1, c1, _⟩ := id p
      obtain ⟨o2, e2, c2, _⟩ := id hit
      rw [e1] at e2; cases e2
      exact absurd (Value.type.inj (c1.symm.trans c2)) (by decide)
    have hea : e ∉ [it, a] := fun z => by
      rcases List.mem_cons.mp z with z | z
      · exact hne z
      · have z := List.mem_singleton.mp z
        obtain ⟨o1, e1, c1, _⟩ := id p
        rw [← z] at e1
        have he' : s.heap.get? e = _ := he
        rw [he'] at e1; cases e1
        exact absurd (Value.type.inj c1) (by decide)
    have hi : i < its.toArray.size := by
      have h1 := (List.getElem?_eq_some_iff.mp hx).1
      have h2 := rv.length
      simp only [List.size_toArray]
      omega
    refine wpAny_pyNext_enum_itemD (Draws.tuple (A := X.A.in1) (I.ok.hd hc) it a hta its.toArray) he ⟨hit, p⟩ hi hne hea fun y h' tk hy ho hst hT hsz hk => ?_
    have hyu : y = u := by
      have h1 : its.toArray[i]? = some u := by simpa using hu
      rw [h1] at hy; exact (Option.some.inj hy).symm
    subst hyu
    refine ⟨_, rfl, wpAny_letOwnedTupleGo_enum (s := { s with heap := h', toks := tk + 1 }) ho fun h'' he' sb => ?_⟩
    have hT2 : h''.get? s.heap.objs.size = some { cls := .type "tuple", data := .seq #[.int i tk, y] } := (sb.2 _ (Nat.ne_of_gt hel)).trans hT
    have new : ObjOk X.prog X.w (upd H s.heap.objs.size (.tup [.int (i : Nat), x])) h'' s.heap.objs.size (.tup [.int (i : Nat), x]) :=
      ⟨by show 2 ≤ sizeLine; decide, [.int i tk, y], .cons ⟨_, rfl⟩ (.cons ru .nil), ⟨_, hT2, rfl, _, rfl⟩⟩
    have I1 : L2.Inv X pins σ (upd H s.heap.objs.size (.tup [.int (i : Nat), x])) { s with heap := h'', toks := tk + 1 } :=
      I.turnedNew (ch := [e, it]) (fun b ob hb q => (sb.2 b (fun z => hb (by simp [z]))).trans (hk b ob (fun z => hb (by simp [z])) (fun z => hb (by simp [z])) q)) hf (Nat.le_refl _) new
    refine ⟨.ref s.heap.objs.size, _, I1, rfl, ⟨_, x, rfl, I.hok.fresh (Nat.le_refl _), rfl, fun ys hy => by rw [I.tuple_inj hy hq]; exact hx⟩, ⟨⟨y, ?_⟩, hst.1.at fun o q => (sb.2 it (Ne.symm hne)).trans q, hne⟩, fun b hb => ?_⟩
    · have e1 : ((i + 1 : Nat) : Int) = (i : Int) + 1 := by omega
      rw [e1]; exact he'
    · have hb' : b < s.heap.objs.size := by
        have e' : b = e ∨ b = it := by simpa using hb
        rcases e' with z | z
        · rw [z]; exact hel
        · rw [z]; exact hil
      rw [upd_ne (Nat.ne_of_lt hb')]
      exact (hf b hb).1
  done := by
    intro X hP hw hK hc i pins s σ H E I hf st hg
    subst hP hw hK
    obtain ⟨⟨old, he⟩, hit, hne⟩ := st
    obtain ⟨xs, hq, hx⟩ := hg
    obtain ⟨its, rv, p, hz⟩ := I.tuple hq
    obtain ⟨f0, f1, f2, f3, f4, f5⟩ := hf it (by simp)
    have hl := rv.length
    have hta : a ≠ it := fun z => by
      subst z
      obtain ⟨o1, e1, c1, _⟩ := id p
      obtain ⟨o2, e2, c2, _⟩ := id hit
      rw [e1] at e2; cases e2
      exact absurd (Value.type.inj (c1.symm.trans c2)) (by decide)
    have hi : i = its.toArray.size := by simp only [List.size_toArray]; omega
    subst hi
    exact wpAny_pyNext_enum_endD (Draws.tuple (A := X.A.in1) (I.ok.hd hc) it a hta its.toArray) he ⟨hit, p⟩ fun h' eb => ⟨rfl, I.turned (t' := s.toks) (fun b o hb q => eb b o hb q) f0 f1 f3 f4 f5⟩
  self := fun A i s Q E st h => let ⟨⟨_, he⟩, _⟩ := st; wpAny_pyIter_enum he h
/-- enumerate of a list or a tuple -/
def iEnumA (K : PySem.W.Frag) (ta : TA) : TI := fun σ H R => ta σ H fun vs H1 => ∃ a xs, vs = [.ref a] ∧ ((SqL K H1 a xs ∧ R (Ite K a) H1) ∨ (SqT K H1 a xs ∧ R (IteT K a) H1))
theorem pi_enumA {X : Cx} {e : Expr} {ta : TA} {p pos tpos : Pos} {elts : List Expr} {kk : Nat} (hg : L2.Gl X "enumerate") (hm : X.mg "enumerate" = none) (ha : PA X [e] ta) (hs : starEach [e] X.env = [(false, eval e X.env)]) :
    PI X (.Tuple elts kk tpos) (.Call (.Name "enumerate" p) [e] [] pos) (iEnumA X.K ta) := by
  refine ⟨fun pins s σ H R I h => ?_⟩
  refine Call_ (ld_blt I hg hm boot_enumerate (PyProof.Rows.callWith_type1 (thn (ha.run pos pins s σ H _ I h) fun us s1 ⟨vs, H1, I1, r1, q1⟩ => ?_) hs rfl))
  obtain ⟨a, xs, ex, q⟩ := q1
  subst ex
  cases r1 with
  | cons r rr =>
    cases rr
    cases r
    have fr : ∀ b, b = s1.heap.objs.size + 1 ∨ b = s1.heap.objs.size → FpOk X pins H1 b := fun b e' => by
      have hle : s1.heap.objs.size ≤ b := by
        rcases e' with z | z
        · rw [z]; exact Nat.le_add_right _ _
        · rw [z]; exact Nat.le_refl _
      exact I1.fpOk hle (I1.hok.fresh hle)
    rcases q with ⟨hq, q⟩ | ⟨hq, q⟩
    · obtain ⟨its, rv, p', hz⟩ := I1.list hq
      refine call_enumerate_list p'.isList fun h' he hit hsz hk => wpAny_pyIter_enum he ?_
      have I2 : L2.Inv X pins σ H1 { s1 with heap := h' } := I1.kept (t' := s1.toks) hk
      exact ⟨s1.heap.objs.size + 1, [s1.heap.objs.size + 1, s1.heap.objs.size], _, _, H1, rfl, I2, turn_enum a (s1.heap.objs.size + 1) s1.heap.objs.size, ⟨⟨.none, he⟩, hit, Nat.succ_ne_self _⟩, fun b hb => fr b (by simpa using hb), q⟩
    · obtain ⟨its, rv, p', hz⟩ := I1.tuple hq
      refine call_enum1B (begins_tuple a its.toArray) (show s1.heap.IsTuple a its.toArray from p') fun h' he hit hsz hk => wpAny_pyIter_enum he ?_
      have I2 : L2.Inv X pins σ H1 { s1 with heap := h' } := I1.kept (t' := s1.toks) hk
      exact ⟨s1.heap.objs.size + 1, [s1.heap.objs.size + 1, s1.heap.objs.size], _, _, H1, rfl, I2, turn_enumT a (s1.heap.objs.size + 1) s1.heap.objs.size, ⟨⟨.none, he⟩, ⟨_, hit, rfl, rfl⟩, Nat.succ_ne_self _⟩, fun b hb => fr b (by simpa using hb), q⟩
/-- a list, a tuple, a text -/
def iAny (K : PySem.W.Frag) (tl : TE) : TI := fun σ H R => tl σ H fun x H1 => (∃ a xs, x = .ref a ∧ ((SqL K H1 a xs ∧ R (Itl K a) H1) ∨ (SqT K H1 a xs ∧ R (Itt K a) H1))) ∨ ∃ z, x = .str z ∧ R (Its z) H1
theorem pi_any {X : Cx} {tg l : Expr} {tl : TE} (hl : PE X l tl) : PI X tg l (iAny X.K tl) := by
  refine ⟨fun pins s σ H R I h => ?_⟩
  refine thn (hl.run pins s σ H _ I h) fun v s1 ⟨x, H1, I1, r1, q1⟩ => ?_
  rcases q1 with ⟨a, xs, rfl, ⟨hq, q⟩ | ⟨hq, q⟩⟩ | ⟨z, rfl, q⟩
  · cases r1
    obtain ⟨its, rv, p, hz⟩ := I1.list hq
    refine wpAny_pyIter_list p.isList ?_
    exact pi_one (tk := s1.toks) I1 _ (turn_list a _) ⟨_, Heap.get?_push_size _ rfl, rfl, rfl⟩ q
  · cases r1
    obtain ⟨its, rv, p, hz⟩ := I1.tuple hq
    refine wpAny_pyIter_tuple (show s1.heap.IsTuple a its.toArray from p) ?_
    exact pi_one (tk := s1.toks) I1 _ (turn_tuple a _) ⟨_, Heap.get?_push_size _ rfl, rfl, rfl⟩ q
  · obtain ⟨t, rfl⟩ := r1
    cases ha : z.cps.all (· < 128)
    · exact wpAny_pyIter_wide ha (pi_one (tk := s1.toks) I1 _ (turn_str _ z t "str_iterator" (.inr rfl)) ⟨_, Heap.get?_push_size _ rfl, rfl, rfl⟩ q)
    · exact wpAny_pyIter_ascii ha (pi_one (tk := s1.toks) I1 _ (turn_str _ z t "str_ascii_iterator" (.inl rfl)) ⟨_, Heap.get?_push_size _ rfl, rfl, rfl⟩ q)
end RF
/-! Fn: iterators by values; targets by values. -/
namespace RF
open PySem L2
mutual
theorem beq_eq : ∀ (x y : PV), PV.beq x y = true → x = y
  | .non, y, h => by cases y <;> first | rfl | (simp only [PV.beq] at h; cases h)
  | .bl a, y, h => by cases y <;> simp only [PV.beq] at h <;> first | (exact congrArg _ (beq_iff_eq.mp h)) | cases h
  | .int a, y, h => by cases y <;> simp only [PV.beq] at h <;> first | (exact congrArg _ (beq_iff_eq.mp h)) | cases h
  | .str a, y, h => by cases y <;> simp only [PV.beq] at h <;> first | (exact congrArg _ (beq_iff_eq.mp h)) | cases h
  | .tup a, y, h => by cases y <;> simp only [PV.beq] at h <;> first | (exact congrArg _ (beqs_eq _ _ h)) | cases h
  | .lst a, y, h => by cases y <;> simp only [PV.beq] at h <;> first | (exact congrArg _ (beqs_eq _ _ h)) | cases h
  | .dct a b, y, h => by
    cases y <;> simp only [PV.beq, Bool.and_eq_true] at h <;> first | (rw [beqs_eq _ _ h.1, beqs_eq _ _ h.2]) | cases h
  | .obj c a, y, h => by
    cases y <;> simp only [PV.beq, Bool.and_eq_true] at h <;> first | (rw [beqs_eq _ _ h.2, beq_iff_eq.mp h.1]) | cases h
  | .exc c a, y, h => by
    cases y <;> simp only [PV.beq, Bool.and_eq_true] at h <;> first | (rw [beqs_eq _ _ h.2, beq_iff_eq.mp h.1]) | cases h
  | .ref a, y, h => by cases y <;> simp only [PV.beq] at h <;> first | (exact congrArg _ (beq_iff_eq.mp h)) | cases h
  | .scr a, y, h => by cases y <;> simp only [PV.beq] at h <;> first | (exact congrArg _ (beqs_eq _ _ h)) | cases h
theorem beqs_eq : ∀ (x y : List PV), PV.beqs x y = true → x = y
  | [], [], _ => rfl
  | [], _ :: _, h => by simp only [PV.beqs] at h; cases h
  | _ :: _, [], h => by simp only [PV.beqs] at h; cases h
  | x :: xs, y :: ys, h => by
    simp only [PV.beqs, Bool.and_eq_true] at h
    rw [beq_eq x y h.1, beqs_eq xs ys h.2]
end
theorem stands_eq {S : Store} {gv g0 : PV} (h : stands S gv g0 = true) : vw S gv = g0 := beq_eq _ _ h
/-- more is known, whatever is held by others -/
structure Wd.sub (W W' : Wd) : Prop where
  fr : ∀ (a : Addr) (o : HO), W.Φ a = some o → W'.Φ a = some o
  rf : ∀ (n : Nat) (a : Addr), W.ρ[n]? = some a → W'.ρ[n]? = some a
theorem Wd.le.sub {W W' : Wd} (h : W.le W') : W.sub W' := ⟨h.fr, h.rf⟩
theorem Wd.sub.refl (W : Wd) : W.sub W := ⟨fun _ _ h => h, fun _ _ h => h⟩
theorem Wd.sub.trans {A B C : Wd} (h : A.sub B) (k : B.sub C) : A.sub C := ⟨fun a o e => k.fr a o (h.fr a o e), fun n a e => k.rf n a (h.rf n a e)⟩
theorem Rel.subm {T : Cs} {W W' : Wd} (h : W.sub W') {x : PV} {v : V} (r : Rel T W x v) : Rel T W' x v := r.up h.fr h.rf
theorem Rels.subm {T : Cs} {W W' : Wd} (h : W.sub W') {x : List PV} {v : List V} (r : Rels T W x v) : Rels T W' x v := r.up h.fr h.rf
theorem ER.subm {T : Cs} {ξ : Xi} {W W' : Wd} {env : PEnv} {σ : St} (h : W.sub W') (e : ER T ξ W env σ) : ER T ξ W' env σ := ⟨e.1, fun i v q => let ⟨w, a, b⟩ := e.2 i v q; ⟨w, a, b.up h.fr h.rf⟩⟩
/-- what an iterator gives -/
def RelI (T : Cs) (W : Wd) (H : Hp) (x : PV) (v : V) : Prop := ∃ xs a vs, x = .tup xs ∧ v = .ref a ∧ SqT T.K H a vs ∧ Rels T W xs vs
structure IterOk (T : Cs) (J : It) (W0 : Wd) (tp : Bool) (gv g0 : PV) (items : List PV) : Prop where
  go : ∀ i W S H, W0.sub W → BR T W S H → stands S gv g0 = true → i < items.length → J.go i H
  stop : ∀ W S H, W0.sub W → BR T W S H → stands S gv g0 = true → J.stop items.length H
  yld : ∀ i W S H v H' y, W0.sub W → BR T W S H → stands S gv g0 = true → items[i]? = some y → J.yld i H v H' → ∃ W', W.le W' ∧ BR T W' S H' ∧ (Rel T W' y v ∨ (tp = true ∧ RelI T W' H' y v))
def PoI (T : Cs) (Wx : WXi) (W : Wd) (σ : St) (tp : Bool) (R : It → Hp → Prop) : Out (List PV) → Prop
  | .ok l S' => ∃ gv xs, l = gv :: xs ∧ ∀ W' H' J, W.le W' → BR T W' S' H' → IterOk T J W' tp gv (vw S' gv) xs → R J H'
  | .exc x S' => ∀ W' H' cls d, W.le W' → BR T W' S' H' → XRel T W' x cls d → Wx.w cls d σ H'
  | .bad => False
def tI (T : Cs) (G : Gl) (C : CallF) (Wx : WXi) (tp : Bool) (e : IR) : TI := fun σ H R => ∃ W env S, BR T W S H ∧ ER T Wx.ξ W env σ ∧ PoI T Wx W σ tp R (evs G C e env S)
theorem PI.imp {X : Cx} {tg e : Expr} {t t' : TI} (h : PI X tg e t) (k : ∀ σ H Q, t' σ H Q → t σ H Q) : PI X tg e t' := ⟨fun pins s σ H Q I q => h.run pins s σ H Q I (k σ H Q q)⟩
theorem PoI.up {T : Cs} {Wx : WXi} {W W' : Wd} {σ : St} {tp : Bool} {R : It → Hp → Prop} {o : Out (List PV)} (h : W.le W') (p : PoI T Wx W σ tp R o) : PoI T Wx W' σ tp R o := by
  cases o with
  | ok v S =>
    obtain ⟨gv, xs, e, p⟩ := p
    exact ⟨gv, xs, e, fun W2 H2 J l b i => p W2 H2 J (h.trans l) b i⟩
  | exc x S => exact fun W2 H2 c d l b r => p W2 H2 c d (h.trans l) b r
  | bad => exact p
theorem PoI.bind {T : Cs} {Wx : WXi} {W : Wd} {env : PEnv} {σ : St} {tp : Bool} {R : It → Hp → Prop} {Q' : VK} {o : Out PV} {f : PV → Store → Out (List PV)} (p : PoI T Wx W σ tp R (o.bind f))
    (h : ∀ v S' W' H' w, W.le W' → BR T W' S' H' → Rel T W' v w → PoI T Wx W' σ tp R (f v S') → Q' w H') : PoE T Wx W env σ Q' o := by
  cases o with
  | ok v S => exact fun W2 H2 w l b r => h v S W2 H2 w l b r (PoI.up l p)
  | exc x S => exact p
  | bad => exact p
theorem PoI.bindL {T : Cs} {Wx : WXi} {W : Wd} {env : PEnv} {σ : St} {tp : Bool} {R : It → Hp → Prop} {Q' : List V → Hp → Prop} {o : Out (List PV)} {f : List PV → Store → Out (List PV)} (p : PoI T Wx W σ tp R (o.bind f))
    (h : ∀ v S' W' H' w, W.le W' → BR T W' S' H' → Rels T W' v w → PoI T Wx W' σ tp R (f v S') → Q' w H') : PoEs T Wx W env σ Q' o := by
  cases o with
  | ok v S => exact fun W2 H2 w l b r => h v S W2 H2 w l b r (PoI.up l p)
  | exc x S => exact p
  | bad => exact p
section
variable {X : Cx} {T : Cs} {G : Gl} {C : CallF} {Wx : WXi} {Q : Sc}
theorem iter_lst {W0 : Wd} {S0 : Store} {v : PV} {ys : List PV} {a : Addr} {tp : Bool} (r : Rel T W0 v (.ref a)) (e : vw S0 v = .lst ys) : IterOk T (Itl T.K a) W0 tp v (vw S0 v) ys := by
  have at_ : ∀ {W S H}, W0.sub W → BR T W S H → stands S v (vw S0 v) = true → ∃ vs, SqL T.K H a vs ∧ Rels T W ys vs := fun {W S H} l b h => by
    have e2 := stands_eq h
    rw [e] at e2
    obtain ⟨a', vs, e3, q, rr⟩ := vw_lst b (r.subm l) e2
    cases e3
    exact ⟨vs, q, rr⟩
  refine ⟨fun i W S H l b h hi => ?_, fun W S H l b h => ?_, fun i W S H u H' y l b h hy yl => ?_⟩
  · obtain ⟨vs, q, rr⟩ := at_ l b h
    have hl := rr.length
    exact ⟨vs, vs[i]'(by omega), q, List.getElem?_eq_getElem _⟩
  · obtain ⟨vs, q, rr⟩ := at_ l b h
    exact ⟨vs, q, by rw [rr.length]; exact Nat.le_refl _⟩
  · obtain ⟨vs, q, rr⟩ := at_ l b h
    obtain ⟨rfl, hx⟩ := yl
    obtain ⟨w, hw, rw'⟩ := rr.get hy
    have := hx vs q
    rw [hw] at this
    cases this
    exact ⟨W, .refl W, b, .inl rw'⟩
theorem iter_tup {W0 : Wd} {ys : List PV} {a : Addr} {vs : List V} {tp : Bool} (h : TupAt T.K W0.Φ a vs) (rr : Rels T W0 ys vs) : IterOk T (Itt T.K a) W0 tp (.tup ys) (.tup ys) ys := by
  refine ⟨fun i W S H l b _ hi => ?_, fun W S H l b _ => ?_, fun i W S H u H' y l b _ hy yl => ?_⟩
  · have hl := rr.length
    exact ⟨vs, vs[i]'(by omega), (TupAt.upw b.frz (TupAt.upw l.fr h)).sq, List.getElem?_eq_getElem _⟩
  · exact ⟨vs, (TupAt.upw b.frz (TupAt.upw l.fr h)).sq, by rw [rr.length]; exact Nat.le_refl _⟩
  · obtain ⟨rfl, hx⟩ := yl
    obtain ⟨w, hw, rw'⟩ := rr.get hy
    have := hx vs (TupAt.upw b.frz (TupAt.upw l.fr h)).sq
    rw [hw] at this
    cases this
    exact ⟨W, .refl W, b, .inl (rw'.subm l)⟩
theorem iter_str {W0 : Wd} {z : Str} {tp : Bool} {gv g0 : PV} : IterOk T (Its z) W0 tp gv g0 (z.cps.toList.map fun c => .str ⟨#[c]⟩) := by
  refine ⟨fun i W S H l b _ hi => ?_, fun W S H l b _ => ?_, fun i W S H u H' y l b _ hy yl => ?_⟩
  · have h : i < z.cps.toList.length := by simpa using hi
    show i < z.cps.size
    simpa using h
  · show z.cps.size ≤ _
    simp
  · obtain ⟨rfl, c, hc, rfl⟩ := yl
    have e : y = .str ⟨#[c]⟩ := by
      rw [List.getElem?_map, Array.getElem?_toList, hc] at hy
      exact (Option.some.inj hy).symm
    subst e
    exact ⟨W, .refl W, b, .inl (.str _)⟩
theorem iter_range {W0 : Wd} {lo : Int} {n : Nat} {tp : Bool} {gv g0 : PV} : IterOk T (Itr lo n) W0 tp gv g0 ((List.range n).map fun (k : Nat) => .int (lo + k)) := by
  refine ⟨fun i W S H l b _ hi => ?_, fun W S H l b _ => ?_, fun i W S H u H' y l b _ hy yl => ?_⟩
  · show i < n
    simpa using hi
  · show n ≤ _
    simp
  · obtain ⟨rfl, rfl⟩ := yl
    rw [List.getElem?_map] at hy
    cases hr : (List.range n)[i]? with
    | none => rw [hr] at hy; cases hy
    | some k =>
      rw [hr] at hy
      cases hy
      obtain ⟨h1, h2⟩ := List.getElem?_eq_some_iff.mp hr
      rw [List.getElem_range] at h2
      subst h2
      exact ⟨W, .refl W, b, .inl (.int _)⟩
theorem enum_at {ys : List PV} {i : Nat} {y : PV} (h : (enumV ys)[i]? = some y) : ∃ z, ys[i]? = some z ∧ y = .tup [.int (i : Nat), z] := by
  unfold enumV at h
  rw [List.getElem?_map, List.getElem?_zipIdx] at h
  cases e : ys[i]? with
  | none => rw [e] at h; cases h
  | some z =>
    rw [e] at h
    cases h
    exact ⟨z, rfl, by simp⟩
theorem enum_len (ys : List PV) : (enumV ys).length = ys.length := by simp [enumV]
theorem pair_new {W : Wd} {S : Store} {H : Hp} {p : Addr} {i : Nat} {z : PV} {x : V} (b : BR T W S H) (hp : H p = none) (r : Rel T W z x) :
    ∃ W', W.le W' ∧ BR T W' S (upd H p (.tup [.int (i : Nat), x])) ∧ (Rel T W' (.tup [.int (i : Nat), z]) (.ref p) ∨ (true = true ∧ RelI T W' (upd H p (.tup [.int (i : Nat), x])) (.tup [.int (i : Nat), z]) (.ref p))) := by
  obtain ⟨b2, le⟩ := b.alloc (o := .tup [.int (i : Nat), x]) hp
  exact ⟨_, le, b2, .inr ⟨rfl, _, p, [.int (i : Nat), x], rfl, rfl, .inl (.inl upd_same), .cons (.int _) (.cons (r.mono le) .nil)⟩⟩
theorem iter_enumL {W0 : Wd} {S0 : Store} {v : PV} {ys : List PV} {a : Addr} (r : Rel T W0 v (.ref a)) (e : vw S0 v = .lst ys) : IterOk T (Ite T.K a) W0 true v (vw S0 v) (enumV ys) := by
  have at_ : ∀ {W S H}, W0.sub W → BR T W S H → stands S v (vw S0 v) = true → ∃ vs, SqL T.K H a vs ∧ Rels T W ys vs := fun {W S H} l b h => by
    have e2 := stands_eq h
    rw [e] at e2
    obtain ⟨a', vs, e3, q, rr⟩ := vw_lst b (r.subm l) e2
    cases e3
    exact ⟨vs, q, rr⟩
  refine ⟨fun i W S H l b h hi => ?_, fun W S H l b h => ?_, fun i W S H u H' y l b h hy yl => ?_⟩
  · obtain ⟨vs, q, rr⟩ := at_ l b h
    have hl := rr.length
    rw [enum_len] at hi
    exact ⟨vs, vs[i]'(by omega), q, List.getElem?_eq_getElem _⟩
  · obtain ⟨vs, q, rr⟩ := at_ l b h
    exact ⟨vs, q, by rw [enum_len, rr.length]; exact Nat.le_refl _⟩
  · obtain ⟨vs, q, rr⟩ := at_ l b h
    obtain ⟨p, x, rfl, hp, rfl, hx⟩ := yl
    obtain ⟨z, hz, rfl⟩ := enum_at hy
    obtain ⟨w, hw, rw'⟩ := rr.get hz
    have := hx vs q
    rw [hw] at this
    cases this
    exact pair_new b hp rw'
theorem iter_enumT {W0 : Wd} {ys : List PV} {a : Addr} {vs : List V} {gv g0 : PV} (h : TupAt T.K W0.Φ a vs) (rr : Rels T W0 ys vs) : IterOk T (IteT T.K a) W0 true gv g0 (enumV ys) := by
  refine ⟨fun i W S H l b _ hi => ?_, fun W S H l b _ => ?_, fun i W S H u H' y l b _ hy yl => ?_⟩
  · have hl := rr.length
    rw [enum_len] at hi
    exact ⟨vs, vs[i]'(by omega), (TupAt.upw b.frz (TupAt.upw l.fr h)).sq, List.getElem?_eq_getElem _⟩
  · exact ⟨vs, (TupAt.upw b.frz (TupAt.upw l.fr h)).sq, by rw [enum_len, rr.length]⟩
  · obtain ⟨p, x, rfl, hp, rfl, hx⟩ := yl
    obtain ⟨z, hz, rfl⟩ := enum_at hy
    obtain ⟨w, hw, rw'⟩ := rr.get hz
    have := hx vs (TupAt.upw b.frz (TupAt.upw l.fr h)).sq
    rw [hw] at this
    cases this
    exact pair_new b hp (rw'.subm l)
theorem snd_itV (g : Good X T G C Wx Q) {tp : Bool} {a : IR} {tg e : Expr} (h : PE X e (tE T G C Wx a)) : PI X tg e (tI T G C Wx tp (.itV a)) :=
  PI.imp (pi_any h) fun σ H R ⟨W, env, S, br, er, p⟩ => by
    simp only [evs] at p
    refine ⟨W, env, S, br, er, p.bind fun v S1 W1 H1 w l1 b1 r1 p1 => ?_⟩
    cases q : vw S1 v with
    | tup ys =>
      simp only [itemsV, q, Option.map, ofOpt_some] at p1
      obtain ⟨gv, xs, e1, p1⟩ := p1
      cases e1
      cases vw_same q (fun _ => nofun)
      cases r1 with
      | tup h2 rr => exact .inl ⟨_, _, rfl, .inr ⟨g.hK ▸ (TupAt.upw b1.frz h2).sq, g.hK ▸ p1 W1 H1 _ (.refl W1) b1 (by rw [q]; exact iter_tup h2 rr)⟩⟩
    | lst ys =>
      simp only [itemsV, q, Option.map, ofOpt_some] at p1
      obtain ⟨gv, xs, e1, p1⟩ := p1
      cases e1
      obtain ⟨a, vs, rfl, hq, rr⟩ := vw_lst b1 r1 q
      exact .inl ⟨_, _, rfl, .inl ⟨g.hK ▸ hq, g.hK ▸ p1 W1 H1 _ (.refl W1) b1 (iter_lst r1 q)⟩⟩
    | str z =>
      simp only [itemsV, q, Option.map, ofOpt_some] at p1
      obtain ⟨gv, xs, e1, p1⟩ := p1
      cases e1
      cases vw_same q (fun _ => nofun)
      cases r1
      exact .inr ⟨z, rfl, p1 W1 H1 _ (.refl W1) b1 iter_str⟩
    | _ => simp only [itemsV, q, Option.map, ofOpt_none] at p1; exact p1.elim
theorem boot_rng : bootBuiltins "range" = some (.type "range") := by decide +kernel
theorem rng_it {vs : List PV} {l : List PV} {ws : List V} {W1 : Wd} {H1 : Hp} {S1 : Store} {R : It → Hp → Prop} {tp : Bool} (b1 : BR T W1 S1 H1) (r1 : Rels T W1 vs ws) (e : rangeV vs = some l) (p : ∀ W' H' J, W1.le W' → BR T W' S1 H' → IterOk T J W' tp .non (vw S1 .non) l → R J H') :
    (vs.length = 1 → ∃ j : Int, ws = [.int j] ∧ -(2 ^ 62) ≤ j ∧ j < 2 ^ 62 ∧ R (Itr 0 j.toNat) H1) ∧ (vs.length = 2 → ∃ i j : Int, ws = [.int i, .int j] ∧ (-(2 ^ 62) ≤ i ∧ i < 2 ^ 62 ∧ -(2 ^ 62) ≤ j ∧ j < 2 ^ 62) ∧ R (Itr i (j - i).toNat) H1) := by
  unfold rangeV at e
  split at e
  · rename_i j
    split at e
    · rename_i hj
      cases e
      unfold in62 at hj
      have hj := of_decide_eq_true hj
      obtain ⟨w, rfl, r2⟩ := r1.one
      cases r2
      refine ⟨fun _ => ⟨j, rfl, hj.1, hj.2, p W1 H1 _ (.refl W1) b1 ?_⟩, fun h => absurd h (by simp)⟩
      have := iter_range (T := T) (W0 := W1) (lo := 0) (n := j.toNat) (tp := tp) (gv := .non) (g0 := vw S1 .non)
      simpa only [Int.zero_add] using this
    · cases e
  · rename_i i j
    split at e
    · rename_i hj
      cases e
      unfold in62 at hj
      rw [Bool.and_eq_true] at hj
      have h1 := of_decide_eq_true hj.1
      have h2 := of_decide_eq_true hj.2
      obtain ⟨w, u, rfl, r2, r3⟩ := r1.two
      cases r2; cases r3
      exact ⟨fun h => absurd h (by simp), fun _ => ⟨i, j, rfl, ⟨h1.1, h1.2, h2.1, h2.2⟩, p W1 H1 _ (.refl W1) b1 iter_range⟩⟩
    · cases e
  · cases e
theorem snd_itR1 (g : Good X T G C Wx Q) {tp : Bool} {a : IR} {tg e : Expr} {p pos : Pos} {x : Str} (hx : x = "range") (h1 : glB Q.sc x = true) (h2 : x ∈ Q.bt) (hn : notStar e = true) (h : PE X e (tE T G C Wx a)) : PI X tg (.Call (.Name x p) [e] [] pos) (tI T G C Wx tp (.itR1 a)) := by
  subst hx
  refine PI.imp (pi_range1 (g.gl h1) (g.bt _ h2) (pa_cons h pa_nil (star_no hn)) (star_no hn)) fun σ H R ⟨W, env, S, br, er, p⟩ => ?_
  simp only [evs] at p
  refine ⟨W, env, S, br, er, p.bind fun v S1 W1 H1 w l1 b1 r1 p1 => ?_⟩
  cases hf : rangeV [v] with
  | none => rw [hf] at p1; exact p1.elim
  | some ys =>
    rw [hf] at p1
    obtain ⟨gv, xs, e1, p1⟩ := p1
    cases e1
    exact (rng_it b1 (.cons r1 .nil) hf p1).1 rfl
theorem snd_itR2 (g : Good X T G C Wx Q) {tp : Bool} {a b : IR} {tg e e2 : Expr} {p pos : Pos} {x : Str} (hx : x = "range") (h1 : glB Q.sc x = true) (h2 : x ∈ Q.bt) (hn : notStar e = true) (hn2 : notStar e2 = true) (h : PE X e (tE T G C Wx a)) (hb : PE X e2 (tE T G C Wx b)) :
    PI X tg (.Call (.Name x p) [e, e2] [] pos) (tI T G C Wx tp (.itR2 a b)) := by
  subst hx
  have s2 : starEach [e2] X.env = [(false, eval e2 X.env)] := star_no hn2
  refine PI.imp (pi_range2 (g.gl h1) (g.bt _ h2) (pa_cons h (pa_cons hb pa_nil (star_no hn2)) (star_no hn)) (by rw [star_no hn, s2]) s2) fun σ H R ⟨W, env, S, br, er, p⟩ => ?_
  simp only [evs] at p
  refine ⟨W, env, S, br, er, p.bind fun v S1 W1 H1 w l1 b1 r1 p1 => ⟨W1, env, S1, b1, er.mono l1, p1.bind fun u S2 W2 H2 w2 l2 b2 r2 p2 => ?_⟩⟩
  cases hf : rangeV [v, u] with
  | none => rw [hf] at p2; exact p2.elim
  | some ys =>
    rw [hf] at p2
    obtain ⟨gv, xs, e1, p2⟩ := p2
    cases e1
    exact (rng_it b2 (.cons (r1.mono l2) (.cons r2 .nil)) hf p2).2 rfl
theorem snd_itEnum (g : Good X T G C Wx Q) {a : IR} {e : Expr} {elts : List Expr} {kk : Nat} {p pos tpos : Pos} {x : Str} (hx : x = "enumerate") (h1 : glB Q.sc x = true) (h2 : x ∈ Q.bt) (hn : notStar e = true) (h : PE X e (tE T G C Wx a)) :
    PI X (.Tuple elts kk tpos) (.Call (.Name x p) [e] [] pos) (tI T G C Wx true (.itEnum a)) := by
  subst hx
  refine PI.imp (pi_enumA (g.gl h1) (g.bt _ h2) (pa_cons h pa_nil (star_no hn)) (star_no hn)) fun σ H R ⟨W, env, S, br, er, p⟩ => ?_
  simp only [evs] at p
  refine ⟨W, env, S, br, er, p.bind fun v S1 W1 H1 w l1 b1 r1 p1 => ?_⟩
  cases q : vw S1 v with
  | tup ys =>
    simp only [starV, q, Option.map, ofOpt_some] at p1
    obtain ⟨gv, xs, e1, p1⟩ := p1
    cases e1
    cases vw_same q (fun _ => nofun)
    cases r1 with
    | tup h2 rr => exact ⟨_, _, rfl, .inr ⟨g.hK ▸ (TupAt.upw b1.frz h2).sq, g.hK ▸ p1 W1 H1 _ (.refl W1) b1 (iter_enumT h2 rr)⟩⟩
  | lst ys =>
    simp only [starV, q, Option.map, ofOpt_some] at p1
    obtain ⟨gv, xs, e1, p1⟩ := p1
    cases e1
    obtain ⟨a, vs, rfl, hq, rr⟩ := vw_lst b1 r1 q
    exact ⟨_, _, rfl, .inl ⟨g.hK ▸ hq, g.hK ▸ p1 W1 H1 _ (.refl W1) b1 (iter_enumL r1 q)⟩⟩
  | _ => simp only [starV, q, Option.map, ofOpt_none] at p1; exact p1.elim
/-! ### targets -/
def patTup : Pat → Bool
  | .v _ => false
  | _ => true
def pvars : Pat → List Nat
  | .v i => [i]
  | .nil => []
  | .cons a b => pvars a ++ pvars b
def nameOk (Q : Sc) (i : Nat) (x : Str) : Bool := decide (Q.N[i]? = some x) && locB Q.sc Q.raw x
def chkPs (Q : Sc) : Pat → List Expr → Bool
  | .nil, [] => true
  | .cons (.v i) b, .Name x _ :: es => nameOk Q i x && chkPs Q b es
  | .cons a b, .Tuple es' _ _ :: es => patTup a && chkPs Q a es' && chkPs Q b es
  | _, _ => false
def chkP (Q : Sc) : Pat → Expr → Bool
  | .v i, .Name x _ => nameOk Q i x
  | p, .Tuple es _ _ => patTup p && chkPs Q p es
  | _, _ => false
/-- what a target asks -/
def PostP (T : Cs) (ξ : Xi) (W : Wd) (σ : St) (Q : St → Hp → Prop) (p : Pat) (env' : PEnv) (H : Hp) : Prop := ∀ σ', ER T ξ W env' σ' → (∀ vs, (∀ i, i ∈ pvars p → i ∈ vs) → wipe σ' vs = wipe σ vs) → Q σ' H
def tP (T : Cs) (ξ : Xi) (p : Pat) : TG := fun v σ H Q => ∃ W env x env', ER T ξ W env σ ∧ (∀ a o, W.Φ a = some o → H a = some o) ∧ (Rel T W x v ∨ (patTup p = true ∧ RelI T W H x v)) ∧ bindP p x env = some env' ∧ PostP T ξ W σ Q p env' H
def tPs (T : Cs) (ξ : Xi) (p : Pat) : TGs := fun vs σ H Q => ∃ W env xs env', ER T ξ W env σ ∧ (∀ a o, W.Φ a = some o → H a = some o) ∧ Rels T W xs vs ∧ bindP p (.tup xs) env = some env' ∧ PostP T ξ W σ Q p env' H
theorem PG.imp {X : Cx} {e : Expr} {t t' : TG} (h : PG X e t) (k : ∀ v σ H Q, t' v σ H Q → t v σ H Q) : PG X e t' := ⟨fun pins s σ H v u Q I r q => h.run pins s σ H v u Q I r (k v σ H Q q)⟩
theorem PGs.imp {X : Cx} {e : List Expr} {t t' : TGs} (h : PGs X e t) (k : ∀ v σ H Q, t' v σ H Q → t v σ H Q) : PGs X e t' := ⟨fun pins s σ H v u Q I r q => h.run pins s σ H v u Q I r (k v σ H Q q)⟩
theorem wipe_set {σ : St} {i : Nat} {x : Option V} : ∀ {vs : List Nat}, i ∈ vs → wipe (σ.set i x) vs = wipe σ vs
  | [], h => by simp at h
  | v :: vs, h => by
    unfold wipe
    by_cases e : i ∈ vs
    · rw [wipe_set e]
    · have hv : i = v := by simpa [e] using h
      subst hv
      have : ∀ (us : List Nat) (τ : St), i ∉ us → wipe (τ.set i x) us = (wipe τ us).set i x := by
        intro us
        induction us with
        | nil => intro τ _; rfl
        | cons u us ih =>
          intro τ hn
          unfold wipe
          have h1 : i ≠ u := fun z => hn (by rw [z]; exact List.mem_cons_self)
          rw [ih τ (fun z => hn (List.mem_cons_of_mem _ z)), List.set_comm _ _ h1]
      rw [this vs σ e, List.set_set]
theorem nameOk_pg (g : Good X T G C Wx Q) {i : Nat} {x : Str} {pos : Pos} (h : nameOk Q i x = true) : PG X (.Name x pos) (gName i) := by
  unfold nameOk at h
  rw [Bool.and_eq_true] at h
  have h1 := of_decide_eq_true h.1
  have h2 := h.2
  unfold locB at h2
  split at h2
  · rename_i q
    exact pg_name g.nd (by rw [g.hN]; exact h1) (.inl (by rw [g.sc]; exact q)) (.inr (by rw [g.sc]; exact q))
  · rename_i q
    exact pg_name g.nd (by rw [g.hN]; exact h1) (.inr (by rw [g.sc]; exact q)) (.inl (g.fn _ h2))
  · cases h2
theorem assignEach_ok : ∀ {es : List Expr} {env : Env} {p : Pat}, chkPs Q p es = true → (assignEach es env).map (·.2) = es.map (fun e => assign e env) ∧ (assignEach es env).findIdx? (·.1) = none ∧ (assignEach es env).length = es.length
  | [], _, _, _ => ⟨rfl, rfl, rfl⟩
  | e :: es, env, p, h => by
    have go : ∀ {b : Pat}, chkPs Q b es = true → (assignEach (e :: es) env = (false, assign e env) :: assignEach es env) → (assignEach (e :: es) env).map (·.2) = (e :: es).map (fun e => assign e env) ∧ (assignEach (e :: es) env).findIdx? (·.1) = none ∧ (assignEach (e :: es) env).length = (e :: es).length := fun {b} hb e1 => by
      obtain ⟨i1, i2, i3⟩ := assignEach_ok (env := env) hb
      rw [e1]
      refine ⟨by rw [List.map_cons, List.map_cons, i1], ?_, by rw [List.length_cons, List.length_cons, i3]⟩
      rw [List.findIdx?_cons, i2]; rfl
    cases p with
    | v i => cases e <;> simp [chkPs] at h
    | nil => simp [chkPs] at h
    | cons a b =>
      cases e with
      | Name x pp =>
        cases a with
        | v i => simp only [chkPs, Bool.and_eq_true] at h; exact go h.2 rfl
        | nil => simp [chkPs] at h
        | cons _ _ => simp [chkPs] at h
      | Tuple es' k pp =>
        cases a with
        | v i => simp [chkPs, patTup] at h
        | nil => simp only [chkPs, Bool.and_eq_true] at h; exact go h.2 rfl
        | cons _ _ => simp only [chkPs, Bool.and_eq_true] at h; exact go h.2 rfl
      | _ => cases a <;> simp [chkPs] at h
theorem bind_len : ∀ {p : Pat} {es : List Expr} {xs : List PV} {env env' : PEnv}, chkPs Q p es = true → bindP p (.tup xs) env = some env' → xs.length = es.length
  | .v i, es, xs, env, env', h, _ => by cases es <;> simp [chkPs] at h
  | .nil, es, xs, env, env', h, e => by
    cases es with
    | nil => cases xs with
      | nil => rfl
      | cons _ _ => simp [bindP] at e
    | cons _ _ => simp [chkPs] at h
  | .cons a b, es, xs, env, env', h, e => by
    cases xs with
    | nil => simp [bindP] at e
    | cons x xs =>
      simp only [bindP] at e
      split at e
      · rename_i env1 h1
        cases es with
        | nil => simp [chkPs] at h
        | cons e0 es =>
          have hb : chkPs Q b es = true := by
            cases e0 with
            | Name x pp =>
              cases a with
              | v i => simp only [chkPs, Bool.and_eq_true] at h; exact h.2
              | nil => simp [chkPs] at h
              | cons _ _ => simp [chkPs] at h
            | Tuple es' k pp =>
              cases a with
              | v i => simp [chkPs, patTup] at h
              | nil => simp only [chkPs, Bool.and_eq_true] at h; exact h.2
              | cons _ _ => simp only [chkPs, Bool.and_eq_true] at h; exact h.2
            | _ => cases a <;> simp [chkPs] at h
          rw [List.length_cons, List.length_cons, bind_len hb e]
      · cases e
theorem snd_name (g : Good X T G C Wx Q) {i : Nat} {x : Str} {pos : Pos} (h : nameOk Q i x = true) : PG X (.Name x pos) (tP T Wx.ξ (.v i)) :=
  PG.imp (nameOk_pg g h) fun v σ H K ⟨W, env, y, env', er, fr, r, e, q⟩ => by
    rcases r with r | ⟨r, _⟩
    · simp only [bindP] at e
      cases e
      exact q _ (er.set i r) fun vs hv => wipe_set (hv i (by simp [pvars]))
    · cases r
theorem snd_tupP (g : Good X T G C Wx Q) (hq : Q.calm = true) {p : Pat} {es : List Expr} {k : Nat} {pos : Pos} (ht : patTup p = true) (hc : chkPs Q p es = true) (h : PGs X es (tPs T Wx.ξ p)) : PG X (.Tuple es k pos) (tP T Wx.ξ p) := by
  obtain ⟨_, h2, h3⟩ := assignEach_ok (env := X.env) hc
  refine PG.imp (pg_tup (n := es.length) (g.calm hq) h h3 h2) fun v σ H K ⟨W, env, y, env', er, fr, r, e, q⟩ => ?_
  have hr : RelI T W H y v := by
    rcases r with r | ⟨_, r⟩
    · cases p with
      | v i => cases ht
      | nil => cases y <;> first | (cases r with | tup h rr => exact ⟨_, _, _, rfl, rfl, (TupAt.upw fr h).sq, rr⟩) | (simp [bindP] at e; done)
      | cons a b => cases y <;> first | (cases r with | tup h rr => exact ⟨_, _, _, rfl, rfl, (TupAt.upw fr h).sq, rr⟩) | (simp [bindP] at e; done)
    · exact r
  obtain ⟨xs, a, vs, rfl, rfl, hq, rr⟩ := hr
  exact ⟨a, vs, rfl, g.hK ▸ hq, by rw [← rr.length]; exact bind_len hc e, W, env, xs, env', er, fr, rr, e, q⟩
theorem snd_pats (g : Good X T G C Wx Q) (hq : Q.calm = true) : ∀ {p : Pat} {es : List Expr}, chkPs Q p es = true → PGs X es (tPs T Wx.ξ p)
  | .v i, es, h => by cases es <;> simp [chkPs] at h
  | .nil, [], _ => PGs.imp pgs_nil fun vs σ H K ⟨W, env, xs, env', er, fr, rr, e, q⟩ => by
    cases xs with
    | nil =>
      cases rr
      simp only [bindP] at e
      cases e
      exact ⟨rfl, q σ er fun _ _ => rfl⟩
    | cons _ _ => simp [bindP] at e
  | .nil, _ :: _, h => by simp [chkPs] at h
  | .cons a b, [], h => by simp [chkPs] at h
  | .cons a b, e :: es, h => by
    have go : PG X e (tP T Wx.ξ a) → chkPs Q b es = true → PGs X (e :: es) (tPs T Wx.ξ (.cons a b)) := fun ha hb => by
      have hs : (assignEach (e :: es) X.env).map (·.2) = assign e X.env :: (assignEach es X.env).map (·.2) := by
        rw [(assignEach_ok (env := X.env) h).1, (assignEach_ok (env := X.env) hb).1]; rfl
      refine PGs.imp (pgs_cons ha (snd_pats g hq hb) hs) fun vs σ H K ⟨W, env, xs, env', er, fr, rr, e, q⟩ => ?_
      cases rr with
      | nil => simp [bindP] at e
      | cons r rr =>
        simp only [bindP] at e
        split at e
        · rename_i env1 h1
          refine ⟨_, _, rfl, W, env, _, env1, er, fr, .inl r, h1, fun σ1 er1 w1 => ⟨W, env1, _, env', er1, fr, rr, e, fun σ2 er2 w2 => ?_⟩⟩
          refine q σ2 er2 fun us hu => ?_
          rw [w2 us fun i hi => hu i (by simp [pvars, hi]), w1 us fun i hi => hu i (by simp [pvars, hi])]
        · cases e
    cases e with
    | Name x pp =>
      cases a with
      | v i => simp only [chkPs, Bool.and_eq_true] at h; exact go (snd_name g h.1) h.2
      | nil => simp [chkPs] at h
      | cons _ _ => simp [chkPs] at h
    | Tuple es' k pp =>
      cases a with
      | v i => simp [chkPs, patTup] at h
      | nil => simp only [chkPs, Bool.and_eq_true] at h; exact go (snd_tupP g hq h.1.1 h.1.2 (snd_pats g hq h.1.2)) h.2
      | cons _ _ => simp only [chkPs, Bool.and_eq_true] at h; exact go (snd_tupP g hq h.1.1 h.1.2 (snd_pats g hq h.1.2)) h.2
    | _ => cases a <;> simp [chkPs] at h
theorem snd_pat (g : Good X T G C Wx Q) (hq : Q.calm = true) {p : Pat} {e : Expr} (h : chkP Q p e = true) : PG X e (tP T Wx.ξ p) := by
  cases e with
  | Name x pp => cases p with
    | v i => exact snd_name g (by simpa [chkP] using h)
    | _ => simp [chkP] at h
  | Tuple es k pp => cases p with
    | v i => simp [chkP, patTup] at h
    | nil => simp only [chkP, Bool.and_eq_true] at h; exact snd_tupP g hq h.1 h.2 (snd_pats g hq h.2)
    | cons a b => simp only [chkP, Bool.and_eq_true] at h; exact snd_tupP g hq h.1 h.2 (snd_pats g hq h.2)
  | _ => cases p <;> simp [chkP] at h
end
end RF
/-! Fo: list comprehensions. -/
namespace RF
open PySem L2
section
variable {T : Cs}
theorem upd_upd {H : Hp} {D : Addr} {a b : HO} : upd (upd H D a) D b = upd H D b := by
  funext c
  by_cases h : c = D
  · subst h; rw [upd_same, upd_same]
  · rw [upd_ne h, upd_ne h, upd_ne h]
theorem BR.there {W : Wd} {S : Store} {H : Hp} (b : BR T W S H) {a : Addr} (h : a ∈ W.ρ) : ∃ o, H a = some o := by
  obtain ⟨n, hn, e⟩ := List.mem_iff_getElem.mp h
  have hs : n < S.length := by rw [← b.len]; exact hn
  have q := b.sto n S[n] a (List.getElem?_eq_getElem _) (by rw [List.getElem?_eq_getElem hn, e])
  cases hq : S[n] with
  | lst xs => rw [hq] at q; obtain ⟨_, vs, e, _⟩ := q; exact ⟨_, e⟩
  | inst c xs => rw [hq] at q; obtain ⟨_, dx, vs, e, _⟩ := q; exact ⟨_, e⟩
  | dct ks vs => rw [hq] at q; exact q.elim
theorem SOR.keep {W W' : Wd} {H H' : Hp} {a : Addr} {so : SO} (l : W.sub W') (e : H' a = H a) (h : SOR T W H a so) : SOR T W' H' a so := by
  cases so with
  | lst xs => obtain ⟨pu, vs, e1, r⟩ := h; exact ⟨pu, vs, e.trans e1, r.subm l⟩
  | inst c xs => obtain ⟨pu, dx, vs, e1, ed, ll, r⟩ := h; exact ⟨pu, dx, vs, e.trans e1, l.fr _ _ ed, ll, r.subm l⟩
  | dct ks vs => exact h
/-- an object that others hold -/
theorem BR.hold {W : Wd} {S : Store} {H : Hp} {D : Addr} {o : HO} (b : BR T W S H) (hD : W.Φ D = none) (hR : D ∉ W.ρ) : BR T ⟨W.Φ, W.ρ, upd W.Fh D o⟩ S (upd H D o) := by
  refine ⟨fun a u e => ?_, fun a u e => ?_, fun a u e => ?_, fun a h => ⟨(b.dR a h).1, ?_⟩, b.nd, b.len, fun n so a e1 e2 => ?_⟩
  · have h : a ≠ D := fun z => by
      subst z
      have e : W.Φ a = some u := e
      rw [hD] at e; cases e
    rw [upd_ne h]; exact b.frz a u e
  · have e : upd W.Fh D o a = some u := e
    by_cases h : a = D
    · subst h; rw [upd_same] at e ⊢; exact e
    · rw [upd_ne h] at e ⊢; exact b.fhs a u e
  · have e : upd W.Fh D o a = some u := e
    by_cases h : a = D
    · subst h; exact hD
    · rw [upd_ne h] at e; exact b.dF a u e
  · show upd W.Fh D o a = none
    have hne : a ≠ D := fun z => by subst z; exact hR h
    rw [upd_ne hne]; exact (b.dR a h).2
  · have hne : a ≠ D := fun z => by subst z; exact hR (List.mem_of_getElem? e2)
    exact SOR.keep (W := W) ⟨fun _ _ h => h, fun _ _ h => h⟩ (upd_ne hne) (b.sto n so a e1 e2)
theorem BR.notR {W : Wd} {S : Store} {H : Hp} {D : Addr} {o : HO} (b : BR T W S H) (h : W.Fh D = some o) : D ∉ W.ρ := fun hm => by
  have := (b.dR D hm).2
  rw [h] at this; cases this
theorem BR.fresh {W : Wd} {S : Store} {H : Hp} {D : Addr} (b : BR T W S H) (h : H D = none) : W.Φ D = none ∧ D ∉ W.ρ ∧ W.Fh D = none := by
  refine ⟨?_, fun hm => ?_, ?_⟩
  · cases e : W.Φ D with
    | none => rfl
    | some u => rw [b.frz _ _ e] at h; cases h
  · obtain ⟨o, e⟩ := b.there hm
    rw [h] at e; cases e
  · cases e : W.Fh D with
    | none => rfl
    | some u => rw [b.fhs _ _ e] at h; cases h
/-- it never changes from here on -/
theorem BR.free {W : Wd} {S : Store} {H : Hp} {D : Addr} {o : HO} {F : Hp} (b : BR T W S H) (h : W.Fh D = some o) (hF : ∀ a u, F a = some u → W.Fh a = some u ∧ a ≠ D) : BR T ⟨upd W.Φ D o, W.ρ, F⟩ S H := by
  have nR := b.notR h
  have nF := b.dF D o h
  have up : ∀ a u, W.Φ a = some u → upd W.Φ D o a = some u := fun a u e => by rw [upd_ne (ne_of_none e nF)]; exact e
  refine ⟨fun a u e => ?_, fun a u e => b.fhs a u (hF a u e).1, fun a u e => ?_, fun a hm => ⟨?_, ?_⟩, b.nd, b.len, fun n so a e1 e2 => (b.sto n so a e1 e2).keep ⟨up, fun _ _ h => h⟩ rfl⟩
  · have e : upd W.Φ D o a = some u := e
    by_cases hd : a = D
    · subst hd; rw [upd_same] at e; cases e; exact b.fhs _ _ h
    · rw [upd_ne hd] at e; exact b.frz a u e
  · obtain ⟨h1, h2⟩ := hF a u e
    show upd W.Φ D o a = none
    rw [upd_ne h2]; exact b.dF a u h1
  · show upd W.Φ D o a = none
    have hne : a ≠ D := fun z => by subst z; exact nR hm
    rw [upd_ne hne]; exact (b.dR a hm).1
  · show F a = none
    cases e : F a with
    | none => rfl
    | some u =>
      have := (hF a u e).1
      rw [(b.dR a hm).2] at this; cases this
/-- it comes into the store -/
theorem BR.freeR {W : Wd} {S : Store} {H : Hp} {D : Addr} {ys : List PV} {vs : List V} {F : Hp} (b : BR T W S H) (h : W.Fh D = some (.lst vs)) (hF : ∀ a u, F a = some u → W.Fh a = some u ∧ a ≠ D) (hp : PV.pures ys = true) (r : Rels T W ys vs) :
    BR T ⟨W.Φ, W.ρ ++ [D], F⟩ (S ++ [.lst ys]) H := by
  have nR := b.notR h
  have nF := b.dF D _ h
  have sub : W.sub ⟨W.Φ, W.ρ ++ [D], F⟩ := ⟨fun _ _ h => h, fun n a h => by
    show (W.ρ ++ [D])[n]? = some a
    rw [List.getElem?_append_left (List.getElem?_eq_some_iff.mp h).1]
    exact h⟩
  refine ⟨b.frz, fun a u e => b.fhs a u (hF a u e).1, fun a u e => b.dF a u (hF a u e).1, fun a hm => ?_, ?_, ?_, fun n so a e1 e2 => ?_⟩
  · rcases List.mem_append.mp hm with hm | hm
    · refine ⟨(b.dR a hm).1, ?_⟩
      show F a = none
      cases e : F a with
      | none => rfl
      | some u =>
        have := (hF a u e).1
        rw [(b.dR a hm).2] at this; cases this
    · cases List.mem_singleton.mp hm
      refine ⟨nF, ?_⟩
      show F D = none
      cases e : F D with
      | none => rfl
      | some u => exact absurd rfl (hF D u e).2
  · refine List.nodup_append.mpr ⟨b.nd, by simp, fun a ha c hc => ?_⟩
    cases List.mem_singleton.mp hc
    exact fun e => nR (e ▸ ha)
  · show (W.ρ ++ [D]).length = _
    rw [List.length_append, List.length_append, b.len]; rfl
  · have e2 : (W.ρ ++ [D])[n]? = some a := e2
    by_cases hn : n < S.length
    · rw [List.getElem?_append_left hn] at e1
      rw [List.getElem?_append_left (by rw [b.len]; exact hn)] at e2
      exact (b.sto n so a e1 e2).keep sub rfl
    · have hn' : n = S.length := by
        have := (List.getElem?_eq_some_iff.mp e1).1
        rw [List.length_append] at this
        simp only [List.length_cons, List.length_nil] at this
        omega
      subst hn'
      rw [List.getElem?_append_right (Nat.le_refl _), Nat.sub_self] at e1
      rw [List.getElem?_append_right (by rw [b.len]; exact Nat.le_refl _), b.len, Nat.sub_self] at e2
      cases e1
      cases e2
      exact ⟨hp, vs, b.fhs _ _ h, r.subm sub⟩
end
theorem wipe_wipe {σ : St} : ∀ (vs : List Nat), wipe (wipe σ vs) vs = wipe σ vs
  | [] => rfl
  | v :: vs => by
    have h : wipe (wipe σ (v :: vs)) (v :: vs) = (wipe ((wipe σ vs).set v none) vs).set v none := rfl
    rw [h]
    by_cases e : v ∈ vs
    · rw [wipe_set e, wipe_wipe vs]; rfl
    · have : ∀ (us : List Nat) (τ : St), v ∉ us → wipe (τ.set v none) us = (wipe τ us).set v none := by
        intro us
        induction us with
        | nil => intro τ _; rfl
        | cons u us ih =>
          intro τ hn
          show (wipe (τ.set v none) us).set u none = ((wipe τ us).set u none).set v none
          have h1 : v ≠ u := fun z => hn (by rw [z]; exact List.mem_cons_self)
          rw [ih τ (fun z => hn (List.mem_cons_of_mem _ z)), List.set_comm _ _ h1]
      rw [this vs _ e, wipe_wipe vs, List.set_set]; rfl
theorem ER.wipe {T : Cs} {ξ : Xi} {W : Wd} {env : PEnv} {σ : St} (e : ER T ξ W env σ) : ∀ (vs : List Nat), ER T ξ W (wipeP env vs) (L2.wipe σ vs)
  | [] => e
  | v :: vs => (ER.wipe e vs).unset v
abbrev WF (ξ : Xi) : WXi := ⟨fun _ _ _ _ => False, ξ⟩
section
variable {X : Cx} {T : Cs} {G : Gl} {C : CallF} {Wx : WXi} {Q : Sc}
/-- the names of a comprehension's block -/
def Sc.blk (Q : Sc) (scope : Scope) : Sc := { Q with sc := relS scope Q.sc, raw := some scope }
theorem fnB_some {sc : Scope} {x : Str} (h : fnB (some sc) x = true) : (sc.names.lookup x == some .cell) = true := by
  simp only [fnB] at h
  split at h
  · rename_i e; rw [e]; rfl
  · cases h
theorem Good.blk (g : Good X T G C Wx Q) (hq : Q.calm = true) {scope : Scope} (hkd : scope.kind = .function) {s : Shared} {H : Hp} {Ca : Addr} {cl : List (Str × Addr)} {fp : List Addr} : Good (X.blk s H scope (compEnvC scope cl Ca X.env) fp) T G C (WF Wx.ξ) (Q.blk scope) where
  hK := g.hK
  hN := g.hN
  sc := by
    show relS scope X.env.scope = relS scope Q.sc
    rw [g.sc]
  fn := fun x h => fnB_some h
  nd := g.nd
  calm := g.calm
  grd := g.grd
  un := g.un
  tk := fun u s' ⟨a, B, sI, pins, σ, H, cls, d, e, I, nb, up, sky, na, os, ag, w⟩ => w.elim
  gk := g.gk
  knd := hkd
  bt := g.bt
  kok := g.kok
  gc := g.gc
  gf := g.gf
  xs := g.xs
  ge := g.ge
  sup := g.sup
  rm := fun h => ⟨(g.rm h).hd, (g.rm h).dp, (g.rm h).un⟩
  xn := g.xn
  sui := fun a cls d h => by
    have h : Wx.ξ = some (a, cls, d) := h
    rw [g.xn hq] at h; cases h
  fns := fun h f ps dvs e => ⟨(g.fns h f ps dvs e).ex, (g.fns h f ps dvs e).kp⟩
theorem fold_no {e : Expr} {env : Env} (h : notSet e = true) : ∀ x, foldedSetIterable e env x = pure x := by
  intro x
  cases e <;> first | rfl | cases h
/-- the turns of a comprehension, and its end -/
theorem lc_turns {own : List Nat} {p : Pat} {elt cond : IR} {tp : Bool} {J : It} {W1 : Wd} {env : PEnv} {σ : St} {S1 S3 : Store} {H1 : Hp} {gv : PV} {xs ys : List PV} {K : VK} (htp : tp = true → patTup p = true) (hv : ∀ i, i ∈ pvars p → i ∈ own)
    (er : ER T Wx.ξ W1 env σ) (b1 : BR T W1 S1 H1) (it : IterOk T J W1 tp gv (vw S1 gv) xs) (e : compL p (ev G C elt) (ev G C cond) gv (vw S1 gv) (wipeP env own) xs [] S1 = .ok ys S3)
    (D : Addr) (hD : H1 D = none) (fin : ∀ W2 H accV, W1.sub W2 → BR T W2 S3 H → W2.Fh = upd W1.Fh D (.lst accV) → Rels T W2 ys accV → K (.ref D) H) :
    ∃ Wf : Nat → Nat → Hp → Prop, (∃ m, Wf 0 m (upd H1 D (.lst []))) ∧ ∀ i m H, Wf i m H →
  (J.stop i H ∧ K (.ref D) H) ∨ (J.go i H ∧ ∃ Nx : Hp → Prop, (∀ H', Nx H' → ∃ m', m' < m ∧ Wf (i + 1) m' H') ∧ ∀ x H', J.yld i H x H' → tP T Wx.ξ p x (wipe σ own) H' fun σ2 H2 => wipe σ2 own = wipe σ own ∧ tT T G C (WF Wx.ξ) cond σ2 H2 fun b H3 =>
    if b = true then tE T G C (WF Wx.ξ) elt σ2 H3 fun y H4 => ∃ acc, H4 D = some (.lst acc) ∧ acc.length < sizeLine ∧ Nx (upd H4 D (.lst (acc ++ [y]))) else Nx H3) := by
  obtain ⟨nF, nR, nG⟩ := b1.fresh hD
  let Pv : Nat → Hp → Prop := fun i H => i ≤ xs.length ∧ ∃ W2 S2 acc accV, W1.sub W2 ∧ BR T W2 S2 H ∧ W2.Fh = upd W1.Fh D (.lst accV) ∧ Rels T W2 acc accV ∧ compL p (ev G C elt) (ev G C cond) gv (vw S1 gv) (wipeP env own) (xs.drop i) acc S2 = .ok ys S3
  refine ⟨fun i m H => m = xs.length - i ∧ Pv i H, ⟨xs.length, by simp, Nat.zero_le _, ⟨W1.Φ, W1.ρ, upd W1.Fh D (.lst [])⟩, S1, [], [], ⟨fun _ _ h => h, fun _ _ h => h⟩, b1.hold nF nR, rfl, .nil, by rw [List.drop_zero]; exact e⟩, ?_⟩
  rintro i m H ⟨rfl, hi, W2, S2, acc, accV, sub, b2, hF, rr, eq⟩
  cases hx : xs.drop i with
  | nil =>
    rw [hx] at eq
    simp only [compL] at eq
    split at eq
    · rename_i hs
      cases eq
      have hl : i = xs.length := by
        have := congrArg List.length hx
        rw [List.length_drop, List.length_nil] at this
        omega
      subst hl
      exact .inl ⟨it.stop W2 _ H sub b2 hs, fin W2 H accV sub b2 hF rr⟩
    · cases eq
  | cons x rest =>
    rw [hx] at eq
    have hlt : i < xs.length := by
      have := congrArg List.length hx
      rw [List.length_drop, List.length_cons] at this
      omega
    have hxi : xs[i]? = some x := by
      have := congrArg (fun l => l[0]?) hx
      simpa using this
    have hrest : xs.drop (i + 1) = rest := by
      rw [← List.drop_drop, hx]; rfl
    simp only [compL] at eq
    split at eq
    · rename_i hs
      split at eq
      · cases eq
      · rename_i env' hb
        refine .inr ⟨it.go i W2 S2 H sub b2 hs hlt, Pv (i + 1), fun H' p' => ⟨xs.length - (i + 1), by omega, rfl, p'⟩, fun v H' yl => ?_⟩
        obtain ⟨W3, l3, b3, rel⟩ := it.yld i W2 S2 H v H' x sub b2 hs hxi yl
        have er3 : ER T Wx.ξ W3 (wipeP env own) (wipe σ own) := (er.subm (sub.trans l3.sub)).wipe own
        refine ⟨W3, wipeP env own, x, env', er3, b3.frz, rel.imp id (fun h => ⟨htp h.1, h.2⟩), hb, fun σ2 er2 w2 => ⟨by rw [w2 own hv, wipe_wipe], ?_⟩⟩
        refine ⟨W3, env', S2, b3, er2, ?_⟩
        cases hc : ev G C cond env' S2 with
        | ok c S4 =>
          rw [hc] at eq
          simp only [Out.bind_ok] at eq
          unfold evT
          rw [hc]
          simp only [Out.bind_ok]
          cases ht : truthV S4 c with
          | none => rw [ht] at eq; cases eq
          | some k =>
            rw [ht] at eq
            intro W4 H3 l4 b4
            have hF4 : W4.Fh = upd W1.Fh D (.lst accV) := l4.fh.trans (l3.fh.trans hF)
            cases k with
            | false =>
              rw [if_neg Bool.false_ne_true]
              exact ⟨hlt, W4, S4, acc, accV, sub.trans (l3.sub.trans l4.sub), b4, hF4, rr.mono (l3.trans l4), by rw [hrest]; exact eq⟩
            | true =>
              rw [if_pos rfl]
              refine ⟨W4, env', S4, b4, er2.mono l4, ?_⟩
              cases he : ev G C elt env' S4 with
              | ok y S5 =>
                simp only [he, Out.bind_ok] at eq
                split at eq
                · rename_i hz
                  intro W5 H4 w l5 b5 r5
                  have hF5 : W5.Fh = upd W1.Fh D (.lst accV) := l5.fh.trans hF4
                  have hD5 : W5.Fh D = some (.lst accV) := by rw [hF5, upd_same]
                  refine ⟨accV, b5.fhs _ _ hD5, by rw [← rr.length]; exact hz, hlt, ⟨W5.Φ, W5.ρ, upd W5.Fh D (.lst (accV ++ [w]))⟩, S5, acc ++ [y], accV ++ [w], (sub.trans (l3.sub.trans (l4.sub.trans l5.sub))).trans ⟨fun _ _ h => h, fun _ _ h => h⟩, b5.hold (b5.dF _ _ hD5) (b5.notR hD5), by rw [hF5]; exact upd_upd, ?_, by rw [hrest]; exact eq⟩
                  exact Rels.subm (W := W5) (W' := ⟨W5.Φ, W5.ρ, upd W5.Fh D (.lst (accV ++ [w]))⟩) ⟨fun _ _ h => h, fun _ _ h => h⟩ ((rr.mono (l3.trans (l4.trans l5))).append (.cons r5 .nil))
                · cases eq
              | exc _ _ => simp only [he, Out.bind_exc] at eq; cases eq
              | bad => simp only [he, Out.bind_bad] at eq; cases eq
        | exc _ _ => rw [hc] at eq; cases eq
        | bad => rw [hc] at eq; cases eq
    · cases eq
theorem fh_of {F F' : Hp} {D : Addr} {o : HO} (e : F' = upd F D o) (h : F D = none) : ∀ a u, F a = some u → F' a = some u ∧ a ≠ D := fun a u q => by
  have hne : a ≠ D := fun z => by subst z; rw [h] at q; cases q
  exact ⟨by rw [e, upd_ne hne]; exact q, hne⟩
/-- a comprehension, by values: the reading -/
theorem comp_of {own : List Nat} {p : Pat} {it elt cond : IR} {tp : Bool} (htp : tp = true → patTup p = true) (hv : ∀ i, i ∈ pvars p → i ∈ own) : ∀ (σ : St) (H : Hp) (K : VK), tE T G C Wx (.comp own p it elt cond) σ H K →
    tLc (tI T G C Wx tp it) (tP T Wx.ξ p) (tT T G C (WF Wx.ξ) cond) (tE T G C (WF Wx.ξ) elt) own σ H K := by
  rintro σ H K ⟨W, env, S, br, er, p0⟩
  simp only [ev] at p0
  refine ⟨W, env, S, br, er, ?_⟩
  cases hi : evs G C it env S with
  | ok l S1 =>
    rw [hi] at p0
    simp only [Out.bind_ok] at p0
    split at p0
    · exact p0.elim
    · rename_i gv xs
      refine ⟨gv, xs, rfl, fun W1 H1 J l1 b1 iok D hD => ?_⟩
      split at p0
      · rename_i ys S3 eq
        refine lc_turns htp hv (er.mono l1) b1 iok eq D hD fun W2 H2 accV sub b2 hF rr => ?_
        obtain ⟨nF, nR, nG⟩ := b1.fresh hD
        have hD2 : W2.Fh D = some (.lst accV) := by rw [hF, upd_same]
        have b3 := b2.free (F := W1.Fh) hD2 (fh_of hF nG)
        have le : W1.le ⟨upd W2.Φ D (.lst accV), W2.ρ, W1.Fh⟩ := ⟨fun a o q => by
          have hne : a ≠ D := fun z => by subst z; rw [nF] at q; cases q
          show upd W2.Φ D (.lst accV) a = some o
          rw [upd_ne hne]; exact sub.fr a o q, sub.rf, rfl⟩
        have n2 := b2.dF D _ hD2
        have r2 : Rels T ⟨upd W2.Φ D (.lst accV), W2.ρ, W1.Fh⟩ ys accV := Rels.subm (W := W2) (W' := ⟨upd W2.Φ D (.lst accV), W2.ρ, W1.Fh⟩) ⟨fun a o q => by
          show upd W2.Φ D (.lst accV) a = some o
          rw [upd_ne (ne_of_none q n2)]; exact q, fun _ _ h => h⟩ rr
        exact p0 _ _ _ (l1.trans le) b3 (.lst upd_same r2)
      · exact p0.elim
  | exc x S1 => rw [hi] at p0; exact p0
  | bad => rw [hi] at p0; exact p0.elim
theorem compR_of {own : List Nat} {p : Pat} {it elt cond : IR} {tp : Bool} (htp : tp = true → patTup p = true) (hv : ∀ i, i ∈ pvars p → i ∈ own) : ∀ (σ : St) (H : Hp) (K : VK), tE T G C Wx (.compR own p it elt cond) σ H K →
    tLc (tI T G C Wx tp it) (tP T Wx.ξ p) (tT T G C (WF Wx.ξ) cond) (tE T G C (WF Wx.ξ) elt) own σ H K := by
  rintro σ H K ⟨W, env, S, br, er, p0⟩
  simp only [ev] at p0
  refine ⟨W, env, S, br, er, ?_⟩
  cases hi : evs G C it env S with
  | ok l S1 =>
    rw [hi] at p0
    simp only [Out.bind_ok] at p0
    split at p0
    · exact p0.elim
    · rename_i gv xs
      refine ⟨gv, xs, rfl, fun W1 H1 J l1 b1 iok D hD => ?_⟩
      split at p0
      · rename_i ys S3 eq
        split at p0
        · rename_i hp
          refine lc_turns htp hv (er.mono l1) b1 iok eq D hD fun W2 H2 accV sub b2 hF rr => ?_
          obtain ⟨nF, nR, nG⟩ := b1.fresh hD
          have hD2 : W2.Fh D = some (.lst accV) := by rw [hF, upd_same]
          have b3 := b2.freeR (F := W1.Fh) hD2 (fh_of hF nG) hp rr
          have le : W1.le ⟨W2.Φ, W2.ρ ++ [D], W1.Fh⟩ := ⟨sub.fr, fun n a h => by
            have h := sub.rf n a h
            show (W2.ρ ++ [D])[n]? = some a
            rw [List.getElem?_append_left (List.getElem?_eq_some_iff.mp h).1]
            exact h, rfl⟩
          refine p0 _ _ _ (l1.trans le) b3 (.ref ?_)
          show (W2.ρ ++ [D])[S3.length]? = some D
          rw [← b2.len, List.getElem?_append_right (Nat.le_refl _), Nat.sub_self]; rfl
        · exact p0.elim
      · exact p0.elim
  | exc x S1 => rw [hi] at p0; exact p0
  | bad => rw [hi] at p0; exact p0.elim
def ownP (Q : Sc) (own : List Nat) : List (Str × Nat) := own.map fun i => (Q.N.getD i "", i)
theorem ownP_snd (Q : Sc) (own : List Nat) : (ownP Q own).map (·.2) = own := by
  unfold ownP
  rw [List.map_map]
  exact List.map_id _
theorem PTs.imp {X : Cx} {e : List Expr} {t t' : TT} (h : PTs X e t) (k : ∀ σ H Q, t' σ H Q → t σ H Q) : PTs X e t' := ⟨fun pins s σ H Q I q => h.run pins s σ H Q I (k σ H Q q)⟩
theorem snd_noifs : PTs X [] (tT T G C Wx (.k (.bl true))) := PTs.imp pts_nil fun σ H K ⟨W, env, S, br, er, p⟩ => p W H (.refl W) br
/-- what a comprehension's text must have -/
structure CompOk (X : Cx) (T : Cs) (G : Gl) (C : CallF) (Wx : WXi) (Q : Sc) (own : List Nat) (p : Pat) (it elt cond : IR) (tp : Bool) (eelt tg iter : Expr) (ifs : List Expr) (scope : Scope) : Prop where
  hi : PI X tg iter (tI T G C Wx tp it)
  hb : blkC Q.N Q.sc scope (ownP Q own) = true
  hp : chkP (Q.blk scope) p tg = true
  hv : ∀ i, i ∈ pvars p → i ∈ own
  htp : tp = true → patTup p = true
  hc : ∀ X', Good X' T G C (WF Wx.ξ) (Q.blk scope) → PTs X' ifs (tT T G C (WF Wx.ξ) cond)
  he : ∀ X', Good X' T G C (WF Wx.ξ) (Q.blk scope) → PE X' eelt (tE T G C (WF Wx.ξ) elt)
  hs : notSet iter = true
  hq : Q.calm = true
theorem CompOk.pe {own : List Nat} {p : Pat} {it elt cond : IR} {tp : Bool} {eelt tg iter : Expr} {ifs : List Expr} {scope : Scope} {pos : Pos} (g : Good X T G C Wx Q) (c : CompOk X T G C Wx Q own p it elt cond tp eelt tg iter ifs scope) :
    PE X (.ListComp eelt [⟨tg, iter, ifs, 0⟩] scope pos) (tLc (tI T G C Wx tp it) (tP T Wx.ξ p) (tT T G C (WF Wx.ξ) cond) (tE T G C (WF Wx.ξ) elt) own) := by
  have hb : BlkOk X.N X.env.scope scope (ownP Q own) := by rw [g.hN, g.sc]; exact blkOk_by c.hb
  have := pe_lc (pos := pos) (g.calm c.hq) g.nd c.hi hb (fun s H Ca cl fp => snd_pat (g.blk c.hq hb.kind (s := s) (H := H) (Ca := Ca) (cl := cl) (fp := fp)) c.hq c.hp) (fun s H Ca cl fp => c.hc _ (g.blk c.hq hb.kind (s := s) (H := H) (Ca := Ca) (cl := cl) (fp := fp)))
    (fun s H Ca cl fp => c.he _ (g.blk c.hq hb.kind (s := s) (H := H) (Ca := Ca) (cl := cl) (fp := fp))) (fold_no c.hs)
  rwa [ownP_snd] at this
theorem snd_comp {own : List Nat} {p : Pat} {it elt cond : IR} {tp : Bool} {eelt tg iter : Expr} {ifs : List Expr} {scope : Scope} {pos : Pos} (g : Good X T G C Wx Q) (c : CompOk X T G C Wx Q own p it elt cond tp eelt tg iter ifs scope) :
    PE X (.ListComp eelt [⟨tg, iter, ifs, 0⟩] scope pos) (tE T G C Wx (.comp own p it elt cond)) := PE.imp (c.pe g) (comp_of c.htp c.hv)
theorem snd_compR {own : List Nat} {p : Pat} {it elt cond : IR} {tp : Bool} {eelt tg iter : Expr} {ifs : List Expr} {scope : Scope} {pos : Pos} (g : Good X T G C Wx Q) (c : CompOk X T G C Wx Q own p it elt cond tp eelt tg iter ifs scope) :
    PE X (.ListComp eelt [⟨tg, iter, ifs, 0⟩] scope pos) (tE T G C Wx (.compR own p it elt cond)) := PE.imp (c.pe g) (compR_of c.htp c.hv)
/-- name = [.. for ..] on one line -/
theorem CompOk.ps {own : List Nat} {p : Pat} {it elt cond : IR} {tp : Bool} {eelt tg iter : Expr} {ifs : List Expr} {scope : Scope} {i : Nat} {y : Str} {py pos spos : Pos} (g : Good X T G C Wx Q) (c : CompOk X T G C Wx Q own p it elt cond tp eelt tg iter ifs scope)
    (hy : X.N[i]? = some y) (hyl : X.env.scope.names.lookup y = some .local) (hsw : swapsWith (.ListComp eelt [⟨tg, iter, ifs, 0⟩] scope pos) (some (.Name y py)) spos.line X.env = pure true) :
    PS X (.Assign [.Name y py] (.ListComp eelt [⟨tg, iter, ifs, 0⟩] scope pos) spos) (tAsg (tLc (tI T G C Wx tp it) (tP T Wx.ξ p) (tT T G C (WF Wx.ξ) cond) (tE T G C (WF Wx.ξ) elt) own) (gName i)) := by
  have hb : BlkOk X.N X.env.scope scope (ownP Q own) := by rw [g.hN, g.sc]; exact blkOk_by c.hb
  have := ps_setLc (g.calm c.hq) g.nd hy hyl hsw c.hi hb (fun s H Ca cl fp => snd_pat (g.blk c.hq hb.kind (s := s) (H := H) (Ca := Ca) (cl := cl) (fp := fp)) c.hq c.hp) (fun s H Ca cl fp => c.hc _ (g.blk c.hq hb.kind (s := s) (H := H) (Ca := Ca) (cl := cl) (fp := fp)))
    (fun s H Ca cl fp => c.he _ (g.blk c.hq hb.kind (s := s) (H := H) (Ca := Ca) (cl := cl) (fp := fp))) (fold_no c.hs)
  rwa [ownP_snd] at this
end
end RF
/-! Fq: calls of own defs, instances made, methods. -/
namespace RF
open PySem L2
/-! ### the store above n goes -/
theorem BR.trunc {T : Cs} {W : Wd} {S : Store} {H : Hp} (b : BR T W S H) (n : Nat) : BR T ⟨W.Φ, W.ρ.take n, W.Fh⟩ (S.take n) H := by
  refine ⟨b.frz, b.fhs, b.dF, fun a h => b.dR a (List.mem_of_mem_take h), b.nd.sublist (List.take_sublist _ _), ?_, fun i so a e1 e2 => ?_⟩
  · show (W.ρ.take n).length = _
    rw [List.length_take, List.length_take, b.len]
  · have e2 : (W.ρ.take n)[i]? = some a := e2
    rw [List.getElem?_take] at e1 e2
    split at e1
    · rename_i hi
      rw [if_pos hi] at e2
      have q := b.sto i so a e1 e2
      cases so with
      | lst xs =>
        obtain ⟨pu, vs, e, r⟩ := q
        exact ⟨pu, vs, e, Rels.pureUp (W := W) (W' := ⟨W.Φ, W.ρ.take n, W.Fh⟩) (fun _ _ h => h) pu r⟩
      | inst c xs =>
        obtain ⟨pu, dx, vs, e, ed, l, r⟩ := q
        exact ⟨pu, dx, vs, e, ed, l, Rels.pureUp (W := W) (W' := ⟨W.Φ, W.ρ.take n, W.Fh⟩) (fun _ _ h => h) pu r⟩
      | dct ks vs => exact q
    · cases e1
/-- what stands there never changes from here on -/
theorem BR.fix {T : Cs} {W : Wd} {S : Store} {H : Hp} {a : Addr} {o : HO} (b : BR T W S H) (hR : a ∉ W.ρ) (hF : W.Φ a = none) (hG : W.Fh a = none) (h : H a = some o) : BR T ⟨upd W.Φ a o, W.ρ, W.Fh⟩ S H ∧ W.le ⟨upd W.Φ a o, W.ρ, W.Fh⟩ := by
  have up : ∀ c u, W.Φ c = some u → upd W.Φ a o c = some u := fun c u e => by rw [upd_ne (ne_of_none e hF)]; exact e
  refine ⟨⟨fun c u e => ?_, b.fhs, fun c u e => ?_, fun c hm => ⟨?_, (b.dR c hm).2⟩, b.nd, b.len, fun n so c e1 e2 => SOR.keep (W := W) ⟨up, fun _ _ h => h⟩ rfl (b.sto n so c e1 e2)⟩, ⟨up, fun _ _ h => h, rfl⟩⟩
  · have e : upd W.Φ a o c = some u := e
    by_cases hd : c = a
    · subst hd; rw [upd_same] at e; cases e; exact h
    · rw [upd_ne hd] at e; exact b.frz c u e
  · show upd W.Φ a o c = none
    have hne : c ≠ a := fun z => by subst z; rw [hG] at e; cases e
    rw [upd_ne hne]; exact b.dF c u e
  · show upd W.Φ a o c = none
    have hne : c ≠ a := fun z => by subst z; exact hR hm
    rw [upd_ne hne]; exact (b.dR c hm).1
theorem nodup_take {ρ : List Addr} (nd : ρ.Nodup) {m n : Nat} {a : Addr} (h : ρ[m]? = some a) (hm : n ≤ m) : a ∉ ρ.take n := fun hc => by
  obtain ⟨i, hi, e⟩ := List.mem_iff_getElem.mp hc
  rw [List.length_take] at hi
  rw [List.getElem_take] at e
  obtain ⟨h1, h2⟩ := List.getElem?_eq_some_iff.mp h
  have := (List.getElem_inj nd).mp (e.trans h2.symm)
  omega
theorem gc_ok {T : Cs} {W1 W2 : Wd} {S1 S2 S3 : Store} {H1 H2 : Hp} {v v' : PV} {w : V} (b1 : BR T W1 S1 H1) (l : W1.le W2) (b2 : BR T W2 S2 H2) (r : Rel T W2 v w) (e : gcV S1.length v S2 = .ok v' S3) : ∃ W3, W1.le W3 ∧ BR T W3 S3 H2 ∧ Rel T W3 v' w := by
  have b3 := b2.trunc S1.length
  have le : W1.le ⟨W2.Φ, W2.ρ.take S1.length, W2.Fh⟩ := ⟨l.fr, fun i a h => by
    have hi := (List.getElem?_eq_some_iff.mp h).1
    show (W2.ρ.take S1.length)[i]? = some a
    rw [List.getElem?_take_of_lt (by rw [← b1.len]; exact hi)]
    exact l.rf i a h, l.fh⟩
  have pureCase : v.pure = true → gcV S1.length v S2 = .ok v (S2.take S1.length) → ∃ W3, W1.le W3 ∧ BR T W3 S3 H2 ∧ Rel T W3 v' w := fun hp e2 => by
    rw [e2] at e
    cases e
    exact ⟨_, le, b3, Rel.pureUp (W := W2) (W' := ⟨W2.Φ, W2.ρ.take S1.length, W2.Fh⟩) (fun _ _ h => h) v w hp r⟩
  cases r with
  | @ref m a h =>
    simp only [gcV] at e
    by_cases hm : m < S1.length
    · rw [if_pos hm] at e
      cases e
      refine ⟨_, le, b3, .ref ?_⟩
      show (W2.ρ.take S1.length)[m]? = some a
      rw [List.getElem?_take_of_lt hm]
      exact h
    · rw [if_neg hm] at e
      have ha : a ∈ W2.ρ := List.mem_of_getElem? h
      obtain ⟨nF, nG⟩ := b2.dR a ha
      have nR : a ∉ W2.ρ.take S1.length := nodup_take b2.nd h (by omega)
      split at e
      · rename_i xs hs
        cases e
        obtain ⟨pu, vs, e1, rr⟩ := b2.sto m _ a hs h
        obtain ⟨b4, l4⟩ := b3.fix (o := .lst vs) nR nF nG e1
        exact ⟨_, le.trans l4, b4, .lst upd_same (Rels.pureUp (W := W2) l4.fr pu rr)⟩
      · rename_i c xs hs
        cases e
        obtain ⟨pu, dx, vs, e1, ed, hl, rr⟩ := b2.sto m _ a hs h
        obtain ⟨b4, l4⟩ := b3.fix (o := .ins (T.at_ c) dx ((T.flds c).zip vs)) nR nF nG e1
        exact ⟨_, le.trans l4, b4, .obj upd_same (l4.fr _ _ ed) rfl hl (Rels.pureUp (W := W2) l4.fr pu rr)⟩
      · cases e
  | non => exact pureCase rfl rfl
  | bl _ => exact pureCase rfl rfl
  | int _ => exact pureCase rfl rfl
  | str _ => exact pureCase rfl rfl
  | tup h rr =>
    simp only [gcV] at e pureCase
    split at e
    · rename_i hp; exact pureCase hp (if_pos hp)
    · cases e
  | lst h rr =>
    simp only [gcV] at e pureCase
    split at e
    · rename_i hp; exact pureCase hp (if_pos hp)
    · cases e
  | scr h rr =>
    simp only [gcV] at e pureCase
    split at e
    · rename_i hp; exact pureCase hp (if_pos hp)
    · cases e
  | obj h hd hf hl rr =>
    simp only [gcV] at e pureCase
    split at e
    · rename_i hp; exact pureCase hp (if_pos hp)
    · cases e
/-! ### arguments -/
def consLen : IR → Option Nat
  | .nil => some 0
  | .cons _ b => (consLen b).map (· + 1)
  | _ => none
theorem evs_len {G : Gl} {C : CallF} : ∀ {l : IR} {n : Nat} {env : PEnv} {S S' : Store} {xs : List PV}, consLen l = some n → evs G C l env S = .ok xs S' → xs.length = n
  | .nil, n, env, S, S', xs, h, e => by
    simp only [consLen] at h
    simp only [evs] at e
    cases h; cases e; rfl
  | .cons a b, n, env, S, S', xs, h, e => by
    simp only [consLen, Option.map_eq_some_iff] at h
    obtain ⟨m, h1, rfl⟩ := h
    simp only [evs] at e
    cases ha : ev G C a env S with
    | ok v S1 =>
      rw [ha] at e
      simp only [Out.bind_ok] at e
      cases hb : evs G C b env S1 with
      | ok vs S2 =>
        rw [hb] at e
        cases e
        rw [List.length_cons, evs_len h1 hb]
      | exc _ _ => rw [hb] at e; cases e
      | bad => rw [hb] at e; cases e
    | exc _ _ => rw [ha] at e; cases e
    | bad => rw [ha] at e; cases e
def kwNames : List Keyword → Option (List Str)
  | [] => some []
  | ⟨some n, _, _⟩ :: ks => (kwNames ks).map (n :: ·)
  | _ => none
theorem kw_all {env : Env} {pos : Pos} : ∀ {kws : List Keyword} {ks : List Str}, kwNames kws = some ks →
    (backToKw pos (keywordEach kws env)).all (·.1.isSome) = true ∧ (backToKw pos (keywordEach kws env)).filterMap (·.1) = ks ∧ (backToKw pos (keywordEach kws env)).any (·.1.isNone) = false
  | [], ks, h => by simp only [kwNames] at h; cases h; exact ⟨rfl, rfl, rfl⟩
  | ⟨none, e, p⟩ :: kws, ks, h => by simp [kwNames] at h
  | ⟨some n, e, p⟩ :: kws, ks, h => by
    simp only [kwNames, Option.map_eq_some_iff] at h
    obtain ⟨ks', h1, rfl⟩ := h
    obtain ⟨i1, i2, i3⟩ := kw_all (env := env) (pos := pos) h1
    refine ⟨?_, ?_, ?_⟩
    · show (true && (backToKw pos (keywordEach kws env)).all (·.1.isSome)) = true
      rw [i1]; rfl
    · show n :: (backToKw pos (keywordEach kws env)).filterMap (·.1) = n :: ks'
      rw [i2]
    · show (false || (backToKw pos (keywordEach kws env)).any (·.1.isNone)) = false
      rw [i3]; rfl
section
variable {X : Cx} {T : Cs} {G : Gl} {C : CallF} {Wx : WXi} {Q : Sc}
theorem PK.imp {X : Cx} {e : List Keyword} {t t' : TA} (h : PK X e t) (k : ∀ σ H Q, t' σ H Q → t σ H Q) : PK X e t' := ⟨fun pos pins s σ H Q I q => h.run pos pins s σ H Q I (k σ H Q q)⟩
theorem snd_knil : PK X [] (tEs T G C Wx .nil) := PK.imp pk_nil fun σ H K ⟨W, env, S, br, er, p⟩ => by
  simp only [evs] at p
  exact p W H [] (.refl W) br .nil
theorem snd_kcons {a b : IR} {nm : Option Str} {e : Expr} {kp : Pos} {kws : List Keyword} (ha : PE X e (tE T G C Wx a)) (hb : PK X kws (tEs T G C Wx b)) : PK X (⟨nm, e, kp⟩ :: kws) (tEs T G C Wx (.cons a b)) :=
  PK.imp (pk_cons ha hb) fun σ H K ⟨W, env, S, br, er, p⟩ => by
    simp only [evs] at p
    refine ⟨W, env, S, br, er, p.bind fun v S1 W1 H1 w l1 b1 r1 p1 => ⟨W1, env, S1, b1, er.mono l1, p1.bindL fun vs S2 W2 H2 ws l2 b2 r2 p2 => ?_⟩⟩
    exact p2 W2 H2 (w :: ws) (.refl W2) b2 (.cons (r1.mono l2) r2)
/-- a call's arguments, with keywords -/
theorem call_args {es : List Expr} {kws : List Keyword} {ks : List Str} {t tk : TA} {f : Value} {first : List Value} {pos : Pos} {pins : List (Addr × Obj)} {σ : St} {H : Hp} {s : Shared} {R : Value → Shared → Prop} (I : L2.Inv X pins σ H s) (hk : PySem.W.keepIn X.K f = true) (hn : noStars es = true) (hks : kwNames kws = some ks)
    (h0 : es = [] → ∀ σ H Q, t σ H Q → Q [] H) (ha : PA X es t) (hkw : PK X kws tk) {Q : List V → List V → Hp → Prop} (h : t σ H fun vs H1 => tk σ H1 fun zs H2 => Q vs zs H2)
    (hR : ∀ us ws vs zs H2 s2, L2.Inv X pins σ H2 s2 → Vals vs us → Vals zs ws → Q vs zs H2 → wpAny (model X.prog X.w) X.A (PySem.call f (first ++ us) (ks.zip ws)) R X.xe s2) :
    wpAny (model X.prog X.w) X.A (callWith pos f first (backTo pos (starEach es X.env)) (backToKw pos (keywordEach kws X.env))) R X.xe s := by
  obtain ⟨k1, k2, k3⟩ := kw_all (env := X.env) (pos := pos) hks
  cases es with
  | nil =>
    refine PySem.W.callWith_KW0 (h₀ := X.base) I.ok.mod.kin hk k1 ?_ (by rw [k3]; rfl)
    refine thn (hkw.run pos pins s σ H _ I (h0 rfl σ H _ h)) fun ws s2 ⟨zs, H2, I2, rz, q2⟩ => ⟨I2.kIn, ?_⟩
    rw [k2]
    exact hR [] ws [] zs H2 s2 I2 .nil rz q2
  | cons e es =>
    have hn2 := hn
    simp only [noStars, Bool.and_eq_true] at hn2
    refine PySem.W.callWith_KW (h₀ := X.base) I.ok.mod.kin hk k1 (thn (ha.run pos pins s σ H _ I h) fun us s1 ⟨vs, H1, I1, r, q⟩ => ?_) (by rw [noStars_any hn, k3]; rfl) (star_no hn2.1)
    refine thn (hkw.run pos pins s1 σ H1 _ I1 q) fun ws s2 ⟨zs, H2, I2, rz, q2⟩ => ⟨I2.kIn, ?_⟩
    rw [k2]
    exact hR us ws vs zs H2 s2 I2 r rz q2
/-- a def runs -/
theorem run_g {k : Nat} {f : Addr} {fd : FuncData} {ps : List Str} {sp : Sp} {pins : List (Addr × Obj)} {σ : St} {H : Hp} {s : Shared} {K : VK} {us : List Value} {kw : List (Str × Value)} {vals : List Value} {vs : List V} {W : WX}
    (F : FnG X.prog X.w X.K X.mg X.base k f fd ps sp) (hr : Room k X.A) (hg : X.A.guards = some []) (tk : Takes X W) (I : L2.Inv X pins σ H s) (hb : BindsTo s fd ⟨us, kw⟩ (ps.zip vals)) (r : Vals vs vals) (hl : vals.length = ps.length)
    (h : sp vs H K fun cls d H' => W cls d σ H') : wpAny (model X.prog X.w) X.A (PySem.call (.ref f) us kw) (EP X pins σ K) X.xe s := by
  refine wpAny_call (codeAny_mono (F X.A X.stack s H ⟨us, kw⟩ vals vs K _ hr hg I.env0 hb r hl h) fun r s' hq => ?_)
  cases r with
  | error e => exact tk e s' (XE.of_call I (fun _ _ _ z => z) hq)
  | ok fl =>
    cases fl with
    | ret u => exact I.after hq
    | next => exact hq.elim
    | brk => exact hq.elim
    | cont => exact hq.elim
structure CallOk (Q : Sc) (f extra : Nat) (es : List Expr) (kws : List Keyword) (l kw : IR) (perm : List (Sum Nat PV)) (ps : List Str) (dvs : List PV) (ks : List Str) : Prop where
  sg : Q.sig[f]? = some (ps, dvs)
  n : consLen l = some es.length
  m : consLen kw = some ks.length
  ns : noStars es = true
  kn : kwNames kws = some ks
  sh : shape ps dvs (es.length + extra) ks = some perm
  e0 : es = [] → l = .nil
theorem nil_run (σ : St) (H : Hp) (K : List V → Hp → Prop) (h : tEs T G C Wx .nil σ H K) : K [] H := by
  obtain ⟨W, env, S, br, er, p⟩ := h
  simp only [evs] at p
  exact p W H [] (.refl W) br .nil
theorem snd_call (g : Good X T G C Wx Q) (hq : Q.calm = true) {f : Nat} {es : List Expr} {kws : List Keyword} {l kw : IR} {perm : List (Sum Nat PV)} {ps ks : List Str} {dvs : List PV} {x : Str} {p pos : Pos} (hx : okName x = true) (h1 : glB Q.sc x = true) (h2 : Q.gf[f]? = some (some x)) (c : CallOk Q f 0 es kws l kw perm ps dvs ks)
    (ha : PA X es (tEs T G C Wx l)) (hkw : PK X kws (tEs T G C Wx kw)) : PE X (.Call (.Name x p) es kws pos) (tE T G C Wx (.call f l kw perm)) := by
  refine ⟨fun pins s σ H K I hh => ?_⟩
  obtain ⟨W, env, S, br, er, p0⟩ := hh
  simp only [ev] at p0
  obtain ⟨⟨kk, fd, dV, F, pl, dd, dr, rm⟩, kp⟩ := g.fns hq f ps dvs c.sg
  refine wpAny_Call_Name_kw (ld_glob I (g.gl h1) (g.gf x f h2) ?_ (okName_d hx))
  -- what is known behind the arguments
  let Qr : List V → List V → Hp → Prop := fun vs zs H2 => ∃ W2 S2 xs ys, W.le W2 ∧ BR T W2 S2 H2 ∧ Rels T W2 xs (vs ++ zs) ∧ vs.length = es.length ∧ zs.length = ks.length ∧ arrange xs perm = some ys ∧ PoE T Wx W2 env σ K (C f ys S2)
  refine call_args (first := []) (Q := Qr) I kp c.ns c.kn (fun e σ H Q h => by rw [c.e0 e] at h; exact nil_run σ H Q h) ha hkw ?_ ?_
  · refine ⟨W, env, S, br, er, ?_⟩
    cases hl : evs G C l env S with
    | ok xs S1 =>
      rw [hl] at p0
      simp only [Out.bind_ok] at p0
      intro W1 H1 ws l1 b1 r1
      refine ⟨W1, env, S1, b1, er.mono l1, ?_⟩
      cases hk : evs G C kw env S1 with
      | ok zs S2 =>
        rw [hk] at p0
        simp only [Out.bind_ok] at p0
        intro W2 H2 wz l2 b2 r2
        cases hA : arrange (xs ++ zs) perm with
        | none => rw [hA] at p0; exact p0.elim
        | some ys =>
          rw [hA] at p0
          exact ⟨W2, S2, xs ++ zs, ys, l1.trans l2, b2, (r1.mono l2).append r2, by rw [← r1.length]; exact evs_len c.n hl, by rw [← r2.length]; exact evs_len c.m hk, hA, PoE.up (l1.trans l2) p0⟩
      | exc x S2 => rw [hk] at p0; exact fun W2 H2 c d l2 b r => p0 W2 H2 c d (l1.trans l2) b r
      | bad => rw [hk] at p0; exact p0.elim
    | exc x S1 => rw [hl] at p0; exact p0
    | bad => rw [hl] at p0; exact p0.elim
  · rintro us ws vs zs H2 s2 I2 rv rz ⟨W2, S2, xs, ys, le, b2, rx, n1, n2, hA, pp⟩
    obtain ⟨vals, vs2, bt, vv, ry, hl⟩ := shape_binds pl I2.kIn dd rx rv rz (dr W2) (by rw [← rz.length]; exact n2) (by rw [← rv.length, n1]; exact c.sh) hA
    exact run_g F (rm.mono (Nat.le_succ _)) g.grd g.tk I2 bt vv hl ⟨W2, S2, ys, b2, ry, pp⟩
/-! ### instances -/
theorem under_guards {A : Around} {Ca : Addr} {us : List Value} {kw : List (Str × Value)} : (A.under (.builtin "type.__call__" ⟨.ref Ca :: us, kw⟩)).guards = A.guards := by
  first | rfl | simp [Around.under, Code.guards, Code.isGuard, guardIds, pushGuards] | (cases h : A.guards <;> simp [Around.under, Code.guards, Code.isGuard, guardIds, pushGuards, h])
end
end RF
/-! Fr: instances made, methods called. -/
namespace RF
open PySem L2
section
variable {X : Cx} {T : Cs} {G : Gl} {C : CallF} {Wx : WXi} {Q : Sc}
/-- an instance is made -/
theorem run_makeG {k : Nat} {Ca f : Addr} {fd : FuncData} {ps : List Str} {sp : Sp} {pins : List (Addr × Obj)} {σ : St} {H : Hp} {s : Shared} {K : VK} {us : List Value} {kw : List (Str × Value)} {W : WX}
    (M : Mk X.K Ca f) (F : FnG X.prog X.w X.K X.mg X.base k f fd ps sp) (hr : Room (k + 1) X.A) (hg : X.A.guards = some []) (tk : Takes X W) (I : L2.Inv X pins σ H s)
    (h : ∀ x dx, x = s.heap.objs.size + 1 → H x = none → H dx = none → dx ≠ x → ∀ s', X.K.In s'.heap → ∃ vals vs, BindsTo s' fd ⟨.ref x :: us, kw⟩ (ps.zip vals) ∧ Vals vs vals ∧ vals.length = ps.length ∧
      sp vs (upd (upd H dx (.own x)) x (.ins Ca dx [])) (fun v H2 => v = .non ∧ K (.ref x) H2) fun cls d H' => W cls d σ H') :
    wpAny (model X.prog X.w) X.A (PySem.call (.ref Ca) us kw) (EP X pins σ K) X.xe s := by
  have I2 := L2.Inv.made (C := Ca) I
  obtain ⟨vals, vs, hb, r, hl, hq⟩ := h (s.heap.objs.size + 1) s.heap.objs.size rfl (I.hok.fresh (Nat.le_succ _)) (I.hok.fresh (Nat.le_refl _)) (Nat.ne_of_lt (Nat.lt_succ_self _)) _ I2.kIn
  refine wpAny_call (make_map (f := f) I.kIn M.makes M.init (beq_iff_eq.mp M.fn) (codeAny_mono (F _ X.stack _ _ ⟨.ref (s.heap.objs.size + 1) :: us, kw⟩ vals vs _ _ (hr.make Ca us kw) (under_guards.trans hg)
    (I2.env0.make Ca us kw) hb r hl hq) fun r s' hq' => ?_))
  cases r with
  | error e => exact tk e s' (XE.of_call I2 (fun _ _ _ z => z) hq')
  | ok fl =>
    cases fl with
    | ret u =>
      obtain ⟨v, H', I3, rv, ev, q3⟩ := I2.after hq'
      subst ev
      exact ⟨rv, V.ref (s.heap.objs.size + 1), H', I3, rfl, q3⟩
    | next => exact hq'.elim
    | brk => exact hq'.elim
    | cont => exact hq'.elim
/-- the store with a new instance -/
theorem BR.made {W : Wd} {S : Store} {H : Hp} {x dx : Addr} {c : Nat} (b : BR T W S H) (hx : H x = none) (hd : H dx = none) (hne : dx ≠ x) :
    BR T ⟨upd W.Φ dx (.own x), W.ρ ++ [x], W.Fh⟩ (S ++ [.inst c []]) (upd (upd H dx (.own x)) x (.ins (T.at_ c) dx [])) ∧ W.le ⟨upd W.Φ dx (.own x), W.ρ ++ [x], W.Fh⟩ := by
  obtain ⟨b1, l1⟩ := b.alloc (o := .own x) hd
  obtain ⟨b2, l2⟩ := b1.push (so := .inst c []) (p := x) (o := .ins (T.at_ c) dx []) (by rw [upd_ne (Ne.symm hne)]; exact hx) ⟨rfl, dx, [], by rw [upd_same]; simp, upd_same, Nat.zero_le _, .nil⟩
  exact ⟨b2, l1.trans l2⟩
theorem snd_new (g : Good X T G C Wx Q) (hq : Q.calm = true) {c f : Nat} {ci : ClsI} {es : List Expr} {kws : List Keyword} {l kw : IR} {perm : List (Sum Nat PV)} {ps ks : List Str} {dvs : List PV} {x : Str} {p pos : Pos} (hx : okName x = true) (h1 : glB Q.sc x = true) (h2 : Q.gc[c]? = some x)
    (hc : G.cls[c]? = some ci) (co : CallOk Q ci.init 1 es kws l kw perm ps dvs ks)
    (ha : PA X es (tEs T G C Wx l)) (hkw : PK X kws (tEs T G C Wx kw)) : PE X (.Call (.Name x p) es kws pos) (tE T G C Wx (.new c l kw perm)) := by
  refine ⟨fun pins s σ H K I hh => ?_⟩
  obtain ⟨W, env, S, br, er, p0⟩ := hh
  simp only [ev] at p0
  obtain ⟨⟨kk, fd, dV, F, pl, dd, dr, rm⟩, kp⟩ := g.fns hq ci.init ps dvs co.sg
  have mk := (g.kok.cls c ci hc).made
  rw [g.hK] at mk
  refine wpAny_Call_Name_kw (ld_glob I (g.gl h1) (g.gc x c h2).1 ?_ (okName_d hx))
  let Qr : List V → List V → Hp → Prop := fun vs zs H2 => ∃ W2 S2 xs ys, W.le W2 ∧ BR T W2 S2 H2 ∧ Rels T W2 xs (vs ++ zs) ∧ vs.length = es.length ∧ zs.length = ks.length ∧ arrange (.ref S2.length :: xs) perm = some ys ∧
    PoE T Wx W2 env σ K ((C ci.init ys (S2 ++ [.inst c []])).bind fun r S3 => match r with
        | .non => if ci.frozen = true then gcV S2.length (.ref S2.length) S3 else .ok (.ref S2.length) S3
        | _ => .bad)
  refine call_args (first := []) (Q := Qr) I mk.kp co.ns co.kn (fun e σ H Q h => by rw [co.e0 e] at h; exact nil_run σ H Q h) ha hkw ?_ ?_
  · refine ⟨W, env, S, br, er, ?_⟩
    cases hl : evs G C l env S with
    | ok xs S1 =>
      rw [hl] at p0
      simp only [Out.bind_ok] at p0
      intro W1 H1 ws l1 b1 r1
      refine ⟨W1, env, S1, b1, er.mono l1, ?_⟩
      cases hk : evs G C kw env S1 with
      | ok zs S2 =>
        rw [hk] at p0
        simp only [Out.bind_ok, hc] at p0
        intro W2 H2 wz l2 b2 r2
        cases hA : arrange (.ref S2.length :: (xs ++ zs)) perm with
        | none => rw [hA] at p0; exact p0.elim
        | some ys =>
          rw [hA] at p0
          exact ⟨W2, S2, xs ++ zs, ys, l1.trans l2, b2, (r1.mono l2).append r2, by rw [← r1.length]; exact evs_len co.n hl, by rw [← r2.length]; exact evs_len co.m hk, hA, PoE.up (l1.trans l2) p0⟩
      | exc x S2 => rw [hk] at p0; exact fun W2 H2 c d l2 b r => p0 W2 H2 c d (l1.trans l2) b r
      | bad => rw [hk] at p0; exact p0.elim
    | exc x S1 => rw [hl] at p0; exact p0
    | bad => rw [hl] at p0; exact p0.elim
  · rintro us ws vs zs H2 s2 I2 rv rz ⟨W2, S2, xs, ys, le, b2, rx, n1, n2, hA, pp⟩
    refine run_makeG mk F rm g.grd g.tk I2 fun y dy ey hy hdy hne s' hK' => ?_
    obtain ⟨b3, l3⟩ := b2.made (c := c) hy hdy hne
    have ry : Rel T ⟨upd W2.Φ dy (.own y), W2.ρ ++ [y], W2.Fh⟩ (.ref S2.length) (.ref y) := .ref (by
      show (W2.ρ ++ [y])[S2.length]? = some y
      rw [← b2.len, List.getElem?_append_right (Nat.le_refl _), Nat.sub_self]; rfl)
    obtain ⟨vals, vs2, bt, vv, rys, hl⟩ := shape_binds (us := .ref y :: us) (vs := .ref y :: vs) pl hK' dd (.cons ry (rx.mono l3)) (.cons rfl rv) rz (dr _) (by rw [← rz.length]; exact n2) (by rw [List.length_cons, ← rv.length, n1]; exact co.sh) hA
    refine ⟨vals, vs2, bt, vv, hl, _, _, ys, b3, rys, ?_⟩
    cases hC : C ci.init ys (S2 ++ [.inst c []]) with
    | ok r S3 =>
      rw [hC] at pp
      simp only [Out.bind_ok] at pp
      intro W4 H4 w l4 b4 r4
      cases r with
      | non =>
        cases r4
        refine ⟨rfl, ?_⟩
        have ry4 : Rel T W4 (.ref S2.length) (.ref y) := ry.mono l4
        simp only at pp
        split at pp
        · cases hg : gcV S2.length (.ref S2.length) S3 with
          | ok v' S5 =>
            rw [hg] at pp
            obtain ⟨W5, l5, b5, r5⟩ := gc_ok b2 (l3.trans l4) b4 ry4 hg
            exact pp W5 H4 _ l5 b5 r5
          | exc e S5 =>
            exfalso
            simp only [gcV] at hg
            split at hg
            · cases hg
            · split at hg <;> cases hg
          | bad => rw [hg] at pp; exact pp.elim
        · exact pp W4 H4 _ (l3.trans l4) b4 ry4
      | _ => exact pp.elim
    | exc e S3 => rw [hC] at pp; exact fun W4 H4 cls d l4 b4 r4 => pp W4 H4 cls d (l3.trans l4) b4 r4
    | bad => rw [hC] at pp; exact pp.elim
/-! ### methods -/
theorem meth_form {o : Expr} {m : Str} {apos pos : Pos} {es : List Expr} {kws : List Keyword} {ks : List Str} {env : Env} (hc : notCall0 o = true) (hn : noStars es = true) (hk : kwNames kws = some ks) (hf : es.length + kws.length + 1 < 30) (hline : (apos.endLine == pos.line) = true) :
    eval (.Call (.Attribute o m apos) es kws pos) env = (do
      let ov ← eval o env
      standAt apos.atName
      let (f, first) ← holding [ov] (getMethod ov m (do return (← importBound o env).getD true))
      callWith pos f first (backTo pos (starEach es env)) (backToKw pos (keywordEach kws env))) := by
  have hform : methodCallForm (es.length + kws.length) (backTo pos (starEach es env)) (backToKw pos (keywordEach kws env)) = true := by
    unfold methodCallForm
    rw [noStars_all hn, (kw_all hk).1]
    simp only [Bool.true_and]
    refine decide_eq_true ?_
    split <;> omega
  have hpos : methodCallPos true o env apos pos = pure pos := by
    unfold methodCallPos
    rw [hline]; rfl
  rw [arm_eval_Call, base_no hc]
  refine bind_congr fun ov => bind_congr fun _ => ?_
  unfold methodCall
  rw [hform, hpos]
  simp only [calleeOf, if_true, pure_bind]
theorem kw_len : ∀ {kws : List Keyword} {ks : List Str}, kwNames kws = some ks → ks.length = kws.length
  | [], ks, h => by simp only [kwNames] at h; cases h; rfl
  | ⟨none, e, p⟩ :: kws, ks, h => by simp [kwNames] at h
  | ⟨some n, e, p⟩ :: kws, ks, h => by
    simp only [kwNames, Option.map_eq_some_iff] at h
    obtain ⟨ks', h1, rfl⟩ := h
    rw [List.length_cons, List.length_cons, kw_len h1]
theorem cls_at {W : Wd} {S : Store} {H : Hp} {v : PV} {w : V} {c : Nat} (br : BR T W S H) (r : Rel T W v w) (e : clsOf S v = some c) : ∃ a dx vs, w = .ref a ∧ H a = some (.ins (T.at_ c) dx ((T.flds c).zip vs)) := by
  cases r with
  | obj h hd hf hl rr => simp only [clsOf] at e; cases e; subst hf; exact ⟨_, _, _, rfl, br.frz _ _ h⟩
  | @ref n a h =>
    simp only [clsOf] at e
    split at e
    · rename_i c' xs hs
      cases e
      obtain ⟨_, dx, vs, e1, _⟩ := br.sto n _ a hs h
      exact ⟨a, dx, vs, rfl, e1⟩
    · cases e
  | _ => simp only [clsOf] at e; cases e
theorem zip_none : ∀ {ns : List Str} {vs : List V} {f : Str}, f ∉ ns → (ns.zip vs).lookup f = none
  | [], _, _, _ => rfl
  | _ :: _, [], _, _ => rfl
  | n :: ns, v :: vs, f, h => by
    have hne : (f == n) = false := beq_eq_false_iff_ne.mpr fun e => h (by rw [e]; exact List.mem_cons_self)
    rw [List.zip_cons_cons, List.lookup_cons, hne]
    exact zip_none fun z => h (List.mem_cons_of_mem _ z)
/-- for every class that has the method -/
def MethOk (Q : Sc) (G : Gl) (m : Nat) (es : List Expr) (kws : List Keyword) (l kw : IR) (perm : List (Sum Nat PV)) : Prop :=
  ∀ (c : Nat) (ci : ClsI) (f : Nat), G.cls[c]? = some ci → ci.meths.lookup m = some f → ∃ ps dvs ks, CallOk Q f 1 es kws l kw perm ps dvs ks
theorem snd_meth (g : Good X T G C Wx Q) (hq : Q.calm = true) {m : Nat} {o : IR} {eo : Expr} {name : Str} {es : List Expr} {kws : List Keyword} {ks : List Str} {l kw : IR} {perm : List (Sum Nat PV)} {apos pos : Pos} (hm : Q.nm[m]? = some name) (hc : notCall0 eo = true) (hn : noStars es = true) (hk : kwNames kws = some ks)
    (hf : es.length + kws.length + 1 < 30) (hline : (apos.endLine == pos.line) = true) (mo : MethOk Q G m es kws l kw perm) (ho : PE X eo (tE T G C Wx o)) (ha : PA X es (tEs T G C Wx l)) (hkw : PK X kws (tEs T G C Wx kw)) (he0 : es = [] → l = .nil) :
    PE X (.Call (.Attribute eo name apos) es kws pos) (tE T G C Wx (.meth m o l kw perm)) := by
  refine ⟨fun pins s σ H K I hh => ?_⟩
  obtain ⟨W, env, S, br, er, p0⟩ := hh
  simp only [ev] at p0
  refine PySem.W.methodCall_KW (pl := (do return (← importBound eo X.env).getD true)) ?_ (meth_form hc hn hk hf hline)
  refine thn (ho.run pins s σ H _ I ⟨W, env, S, br, er, p0.bind (Q' := fun x H1 => ∃ v S1 W1, W.le W1 ∧ BR T W1 S1 H1 ∧ Rel T W1 v x ∧ PoE T Wx W1 env σ K (match methOf G S1 v m with
    | none => .bad
    | some f => (evs G C l env S1).bind fun xs S2 => (evs G C kw env S2).bind fun zs S3 => match arrange (v :: (xs ++ zs)) perm with
      | some ys => C f ys S3
      | none => .bad)) fun v S1 W1 H1 w l1 b1 r1 p1 => ⟨v, S1, W1, l1, b1, r1, p1⟩⟩) fun u s1 ⟨x, H1, I1, rx, v, S1, W1, l1, b1, r1, p1⟩ => ?_
  cases hmo : methOf G S1 v m with
  | none => rw [hmo] at p1; exact p1.elim
  | some f =>
    rw [hmo] at p1
    simp only at p1
    unfold methOf at hmo
    split at hmo
    · cases hmo
    · rename_i c hcl
      split at hmo
      · cases hmo
      · rename_i ci hci
        obtain ⟨a, dx, vs0, rfl, ea⟩ := cls_at b1 r1 hcl
        cases rx
        have co := g.kok.cls c ci hci
        obtain ⟨me, nf⟩ := co.me m f name hmo hm
        obtain ⟨ps, dvs, ks', cok⟩ := mo c ci f hci hmo
        have eks : ks' = ks := Option.some.inj (cok.kn.symm.trans hk)
        subst eks
        obtain ⟨⟨kk, fd, dV, F, pl, dd, dr, rm⟩, kp⟩ := g.fns hq f ps dvs cok.sg
        refine getmeth_ok I1 ea (g.hK ▸ co.cl) (g.hK ▸ me) (zip_none nf) ?_
        let Qr : List V → List V → Hp → Prop := fun vs zs H2 => ∃ W2 S2 xs ys, W1.le W2 ∧ BR T W2 S2 H2 ∧ Rels T W2 xs (vs ++ zs) ∧ vs.length = es.length ∧ zs.length = ks'.length ∧ arrange (v :: xs) perm = some ys ∧ PoE T Wx W2 env σ K (C f ys S2)
        refine call_args (first := [.ref a]) (Q := Qr) I1 kp cok.ns cok.kn (fun e σ H Q h => by rw [cok.e0 e] at h; exact nil_run σ H Q h) ha hkw ?_ ?_
        · refine ⟨W1, env, S1, b1, er.mono l1, ?_⟩
          cases hl : evs G C l env S1 with
          | ok xs S2 =>
            rw [hl] at p1
            simp only [Out.bind_ok] at p1
            intro W2 H2 ws l2 b2 r2
            refine ⟨W2, env, S2, b2, er.mono (l1.trans l2), ?_⟩
            cases hkk : evs G C kw env S2 with
            | ok zs S3 =>
              rw [hkk] at p1
              simp only [Out.bind_ok] at p1
              intro W3 H3 wz l3 b3 r3
              cases hA : arrange (v :: (xs ++ zs)) perm with
              | none => rw [hA] at p1; exact p1.elim
              | some ys =>
                rw [hA] at p1
                exact ⟨W3, S3, xs ++ zs, ys, l2.trans l3, b3, (r2.mono l3).append r3, by rw [← r2.length]; exact evs_len cok.n hl, by rw [← r3.length]; exact evs_len cok.m hkk, hA, PoE.up (l2.trans l3) p1⟩
            | exc x S3 => rw [hkk] at p1; exact fun W3 H3 c d l3 b r => p1 W3 H3 c d (l2.trans l3) b r
            | bad => rw [hkk] at p1; exact p1.elim
          | exc x S2 => rw [hl] at p1; exact p1
          | bad => rw [hl] at p1; exact p1.elim
        · rintro us ws vs zs H2 s2 I2 rv rz ⟨W2, S2, xs, ys, le, b2, rx2, n1, n2, hA, pp⟩
          obtain ⟨vals, vs2, bt, vv, ry, hl⟩ := shape_binds (us := .ref a :: us) (vs := .ref a :: vs) pl I2.kIn dd (.cons (r1.mono le) rx2) (.cons rfl rv) rz (dr W2) (by rw [← rz.length]; exact n2) (by rw [List.length_cons, ← rv.length, n1]; exact cok.sh) hA
          exact run_g F (rm.mono (Nat.le_succ _)) g.grd g.tk I2 bt vv hl ⟨W2, S2, ys, b2, ry, pp⟩
end
end RF
/-! Fra: own == and !=, own str. -/
namespace PySem.W
open PySem PySem.Spec PySem.Calls PyProof.Rows
section
variable {M : Model} {prog : Program} {w : World} {A : Around} {E : Value → Shared → Prop} {s : Shared} {K : Frag} {x C f : Addr} {ox : Obj} {od : Option Obj} {b tb : Value} {h₀ : Heap}
theorem ifBound_objNe {args : List Value} {Q : Option Value → Shared → Prop} (X : K.In s.heap) (I : InstAt s.heap x ox C od) (hs : findIn K (.ref C) "__ne__" = some (some (.builtin "object.__ne__")))
    (h : wpAny M A (call (.builtin "object.__ne__") (.ref x :: args)) (fun v => Q (some v)) E s) : wpAny M A (callSpecialIfBound? (.ref x) "__ne__" args) Q E s := by
  simp only [callSpecialIfBound?, bindSpecialIfBound?]
  refine wpAny_holding (wpAny_bind (wpAny_bind (wpAny_bind (I.type.here ((looks_findIn X hs).here ?_)))))
  refine wpAny_bind (wpAny_askSetting (wpAny_ite ?_))
  have go : wpAny M A (call (.builtin "object.__ne__") ([.ref x] ++ args) >>= fun v => pure (some v)) Q E s := wpAny_bind (wpAny_mono h (fun v s' h' => wpAny_pure h') fun _ _ h' => h')
  split
  · exact wpAny_bind (wpAny_of_eq (F.cmp_object.ne.bind _) (wpAny_pure (by exact go)))
  · exact wpAny_tryCatch (wpAny_bind (wpAny_of_eq (F.cmp_object.ne.bind _) (wpAny_pure (by exact go))))
open Builtin in
theorem objNe_K (X : K.In s.heap) (I : InstAt s.heap x ox C od) (hu : A.units < cLine) (hs : findIn K (.ref C) "__eq__" = some (some (.ref f))) (hf : isFn K (.ref f) = true) {Q : Fin → Shared → Prop}
    (hc : wpAny (model prog w) A (call (.ref f) [.ref x, b]) (fun v s' => ∃ t, v = .bool t ∧ Q (.done (.ret (.bool (!t)))) s') E s) : wpAny (model prog w) A (Builtin.«object.__ne__» ⟨[.ref x, b], []⟩) Q E s := by
  unfold Builtin.«object.__ne__»
  repeat (first
    | with_reducible refine wpAny_cRoomFor hu ?_
    | (refine wpAny_bind (m := callSpecialIfBound? (.ref x) (Str.ofString "__eq__") [b])
        (ifBound_K X I hs hf (wpAny_mono hc (fun v s' hr => by
          obtain ⟨t, rfl, hq⟩ := hr
          repeat (first | exact hq | exact wpAny_pure hq | exact wpAny_truthy_bool hq | (refine wpAny_bind (m := truthy (.bool _)) (wpAny_truthy_bool ?_)) | wp_step)) fun _ _ e => e)))
    | wp_step)
theorem ne_K {Q : Value → Shared → Prop} (hu : A.units + 1 < cLine) {L : Addr} {m : Str → Option Value} (F₁ : Fr h₀ L s.heap m) (X₀ : K.In h₀) (I : InstAt s.heap x ox C od) (hb : Looks (model prog w) s.heap (typeOf b) tb) (hn : notFirst K C tb = true)
    (hne : findIn K (.ref C) "__ne__" = some (some (.builtin "object.__ne__"))) (hm : mroIn K C (.type "object") = some true)
    (hs : findIn K (.ref C) "__eq__" = some (some (.ref f))) (hf : isFn K (.ref f) = true)
    (h : wpAny (model prog w) A.in1 (call (.ref f) [.ref x, b]) (fun v s' => ∃ t, v = .bool t ∧ Q (.bool (!t)) s') E s) : wpAny (model prog w) A (richCompare .NotEq (.ref x) b) Q E s := by
  have X := X₀.keeps F₁.keep
  have one : wpAny (model prog w) A (tryCompare (.ref x) "__ne__" b) (fun r s' => ∃ v, r = some v ∧ Q v s') E s := by
    unfold tryCompare
    refine wpAny_bind (ifBound_objNe X I hne (wpAny_call (codeAny_call_builtin F.cmp_object.ne.plain F.cmpEntry_ne (check_slot F.cmpKind_ne F.cmpSplit_ne (I.type.andThen (looks_mroIn X hm)) (F.cmpArgs_ne _ _) (objNe_K X I hu hs hf (wpAny_mono h (fun v s' hv => ?_) fun _ _ e => e))))))
    obtain ⟨t, rfl, hq⟩ := hv
    exact ⟨t, rfl, wpAny_pure ⟨_, rfl, hq⟩⟩
  unfold richCompare
  simp only [oneThing_ref]
  refine wpAny_holding (wpAny_bind (wpAny_cRoomFor (Nat.lt_of_succ_lt hu) ?_))
  refine wpAny_bind (I.type.here (wpAny_bind (hb.here ?_)))
  split
  · rename_i q
    have e : subIn K tb (.ref C) = some false := by
      rcases Bool.or_eq_true_iff.mp hn with e | e
      · rw [beq_iff_eq.mp e] at q; simp at q
      · exact beq_iff_eq.mp e
    refine wpAny_bind ((looks_subIn X e).here ?_)
    simp only [Bool.false_eq_true, if_false]
    refine wpAny_bind (wpAny_mono one (fun r s' z => ?_) fun _ _ e => e)
    obtain ⟨v, rfl, hq⟩ := z
    exact wpAny_pure hq
  · refine wpAny_bind (wpAny_pure ?_)
    simp only [Bool.false_eq_true, if_false]
    refine wpAny_bind (wpAny_mono one (fun r s' z => ?_) fun _ _ e => e)
    obtain ⟨v, rfl, hq⟩ := z
    exact wpAny_pure hq
theorem first_of {t : Value} (h : kitOne K t (.ref C) = some false) : notFirst K C t = true := by
  unfold kitOne at h
  split at h
  · cases h
  · unfold kitCls at h
    dsimp only at h
    split at h
    · unfold notFirst; rw [h]; simp
    · cases h
end
end PySem.W
namespace RF
open PySem L2
section
variable {X : Cx} {T : Cs} {G : Gl} {C : CallF} {Wx : WXi} {Q : Sc}
theorem cmpbk {P : Value → Shared → Prop} {b : Bool} {v : Value} {s' : Shared} (r : RelV (.bl b) v) (h : P v s') : PySem.W.CmpBack P v s' := by
  cases (show v = Value.bool b from r)
  exact h
/-- what is wanted of a value that comes, whatever else stands -/
def rOC (T : Cs) (G : Gl) (C : CallF) (ne : Bool) (m : Nat) : R2 := fun x y H K => ∃ W S a b, BR T W S H ∧ Rel T W a x ∧ Rel T W b y ∧ PoC T W K (fun _ _ _ => False) (ocmpO G C ne m a b S)
theorem first_ty {W : Wd} {S : Store} {H : Hp} {v : PV} {w : V} {c : Nat} {k : Bool} (ok : KOk T G Q.nm) (hc : c < G.cls.length) (br : BR T W S H) (r : Rel T W v w) (e : isIV G S v (.own c) = some k) : ∃ ty, TyX T.K H w ty ∧ PySem.W.notFirst T.K (T.at_ c) ty = true := by
  have co := ok.cls c _ (List.getElem?_eq_getElem hc)
  have base : ∀ tn, tn ∈ ["NoneType", "bool", "int", "str", "list", "tuple"] → PySem.W.notFirst T.K (T.at_ c) (.type tn) = true := fun tn h => PySem.W.first_of (co.kf tn h)
  have own : ∀ {c' : Nat}, isIC G c' (.own c) = some k → c' < G.cls.length ∧ PySem.W.notFirst T.K (T.at_ c) (.ref (T.at_ c')) = true := fun {c'} e => by
    obtain ⟨h1, _⟩ := isC_ok ok e
    refine ⟨h1, ?_⟩
    by_cases q : c' = c
    · subst q
      unfold PySem.W.notFirst
      simp
    · have := (ok.cls c' _ (List.getElem?_eq_getElem h1)).kc c hc
      rw [show (c' == c) = false from by simpa using q] at this
      exact PySem.W.first_of this
  cases r with
  | non => exact ⟨_, .base .non, base _ (by decide)⟩
  | bl b => exact ⟨_, .base (.bl _), base _ (by decide)⟩
  | int b => exact ⟨_, .base (.int _), base _ (by decide)⟩
  | str b => exact ⟨_, .base (.str _), base _ (by decide)⟩
  | tup h r =>
    rcases TupAt.upw br.frz h with ⟨o, h, _⟩ | ⟨o, its, n, h1, h2, _⟩
    · exact ⟨_, .fTuple h, base _ (by decide)⟩
    · exact ⟨_, .kTuple h1 h2, base _ (by decide)⟩
  | lst h r => exact ⟨_, .base (.lst (br.frz _ _ h)), base _ (by decide)⟩
  | scr h r => simp only [isIV] at e; cases e
  | obj h hd hf hl r =>
    obtain ⟨h1, h2⟩ := own e
    exact ⟨_, .base (ok.ins h1 (br.frz _ _ h)), h2⟩
  | @ref n a h =>
    simp only [isIV] at e
    split at e
    · rename_i xs hs
      obtain ⟨vs, e1, _⟩ := ref_lst br h hs
      exact ⟨_, .base (.lst e1), base _ (by decide)⟩
    · rename_i c' xs hs
      obtain ⟨h1, h2⟩ := own e
      obtain ⟨_, dx, vs, e1, _⟩ := br.sto n _ a hs h
      exact ⟨_, .base (ok.ins h1 e1), h2⟩
    · cases e
/-- a def runs, one builtin deeper -/
theorem run_gA {A : Around} {k : Nat} {f : Addr} {fd : FuncData} {ps : List Str} {sp : Sp} {pins : List (Addr × Obj)} {σ : St} {H : Hp} {s : Shared} {K : VK} {us : List Value} {kw : List (Str × Value)} {vals : List Value} {vs : List V}
    (F : FnG X.prog X.w X.K X.mg X.base k f fd ps sp) (hr : Room k A) (hg : A.guards = some []) (he : Env0 X.prog X.w X.K X.mg X.base A X.stack s H) (I : L2.Inv X pins σ H s) (hb : BindsTo s fd ⟨us, kw⟩ (ps.zip vals)) (r : Vals vs vals) (hl : vals.length = ps.length)
    (h : sp vs H K fun _ _ _ => False) : wpAny (model X.prog X.w) A (PySem.call (.ref f) us kw) (EP X pins σ K) X.xe s := by
  refine wpAny_call (codeAny_mono (F A X.stack s H ⟨us, kw⟩ vals vs K _ hr hg he hb r hl h) fun r s' hq => ?_)
  cases r with
  | error e => obtain ⟨_, _, _, _, _, _, _, _, _, _, _, _, hE⟩ := hq; exact hE.elim
  | ok fl =>
    cases fl with
    | ret u => exact I.after hq
    | next => exact hq.elim
    | brk => exact hq.elim
    | cont => exact hq.elim
theorem Room.in2 {k : Nat} {A : Around} (r : Room (k + 1) A) : Room k A.in1.in1 :=
  ⟨r.hd, by have := r.dp; show A.depth + 3 * k + 5 < _; omega, by have := r.un; show A.units + 1 + 1 + 16 * k + 200 < _; omega⟩
/-- a method of two, by its promise -/
theorem own2 (g : Good X T G C Wx Q) (hq : Q.calm = true) {m f c : Nat} {ci : ClsI} {b : IR} {eb : Expr} {A : Around} (mo : MethOk Q G m [eb] [] (.cons b .nil) .nil [.inl 0, .inl 1]) (hci : G.cls[c]? = some ci) (hm : ci.meths.lookup m = some f)
    (hA : ∀ k, Room (k + 1) X.A → Room k A) (hgA : A.guards = some []) {pins : List (Addr × Obj)} {σ : St} {H : Hp} {s : Shared} {K : VK} {W : Wd} {S : Store} {x y : PV} {a : Addr} {yv : V} {u : Value}
    (he : Env0 X.prog X.w X.K X.mg X.base A X.stack s H) (I : L2.Inv X pins σ H s) (br : BR T W S H) (rx : Rel T W x (.ref a)) (ry : Rel T W y yv) (ru : RelV yv u)
    (h : PoC T W K (fun _ _ _ => False) (C f [x, y] S)) : wpAny (model X.prog X.w) A (PySem.call (.ref (T.fa f)) [.ref a, u] []) (EP X pins σ K) X.xe s := by
  obtain ⟨ps, dvs, ks, cok⟩ := mo c ci f hci hm
  have eks : ks = [] := Option.some.inj (cok.kn.symm.trans rfl)
  subst eks
  obtain ⟨⟨kk, fd, dV, F, pl, dd, dr, rm⟩, kp⟩ := g.fns hq f ps dvs cok.sg
  obtain ⟨vals, vs2, bt, vv, rys, hl⟩ := shape_binds (s := s) (us := [.ref a, u]) (ws := []) (vs := [.ref a, yv]) (zs := []) pl I.kIn dd (.cons rx (.cons ry .nil)) (.cons rfl (.cons ru .nil)) .nil (dr _) rfl cok.sh (ys := [x, y]) rfl
  exact run_gA F (hA kk rm) hgA he I bt vv hl ⟨W, S, [x, y], br, rys, h⟩
theorem ocmp_ok (g : Good X T G C Wx Q) (hq : Q.calm = true) {ne : Bool} {m : Nat} {b : IR} {eb : Expr} (hm : Q.nm[m]? = some ("__eq__" : Str)) (mo : MethOk Q G m [eb] [] (.cons b .nil) .nil [.inl 0, .inl 1]) :
    OpR X (compareOp (cop (if ne = true then .ne else .eq))) (rOC T G C ne m) := by
  intro pins s σ H x y v u K I rx ry ⟨W, S, a, c, br, ra, rc, p⟩
  unfold ocmpO at p
  split at p
  · cases hf : (cmpV S (if ne = true then .ne else .eq) a c) with
    | none => rw [hf] at p; exact p.elim
    | some z => rw [hf] at p; exact cmpR g _ pins s σ H x y v u K I rx ry ⟨W, S, a, c, .bl z, br, ra, rc, congrArg (Option.map PV.bl) hf, p⟩
  · rename_i cc hcl
    split at p
    · rename_i f k hmo hiv
      unfold methOf at hmo
      rw [hcl] at hmo
      dsimp only at hmo
      split at hmo
      · cases hmo
      · rename_i ci hci
        obtain ⟨ad, dx, vs0, rfl, ea⟩ := cls_at br ra hcl
        cases (show v = Value.ref ad from rx)
        have hlt : cc < G.cls.length := (List.getElem?_eq_some_iff.mp hci).1
        have co := g.kok.cls cc ci hci
        obtain ⟨me, nf⟩ := co.me m f _ hmo hm
        obtain ⟨ty, tyx, nfs⟩ := first_ty g.kok hlt br rc hiv
        obtain ⟨P, Z, pz, _⟩ := kit_of I ry (g.hK ▸ tyx)
        have Lk := Z.ty (model X.prog X.w) s.heap I.kIn pz
        obtain ⟨mA, O, _⟩ := ins_get I.hok ea
        obtain ⟨od, J, _⟩ := O.look
        obtain ⟨mm, hF⟩ := I.fr
        have un := g.un
        cases hC : C f [a, c] S with
        | ok r S3 =>
          rw [hC] at p
          cases r with
          | bl bb =>
            dsimp only at p
            cases ne with
            | false =>
              show wpAny _ _ (richCompare .Eq (.ref ad) u) _ _ s
              refine PySem.W.cmp_K (op := .Eq) (by omega) hF I.ok.mod.kin J Lk (g.hK ▸ nfs) (g.hK ▸ me.at_) (g.hK ▸ me.fn) ?_
              refine wpAny_mono (own2 g hq mo hci hmo (A := X.A) (fun k r => r.mono (Nat.le_succ k)) g.grd I.env0 I br ra rc ry (K := fun w H' => w = .bl bb ∧ K w H') ?_) (fun w s' z => ?_) fun _ _ x => x
              · rw [hC]
                intro W' H' w l b r
                cases r
                exact ⟨rfl, p W' H' _ l b (.bl _)⟩
              · obtain ⟨z', H', I', rz, rfl, qz⟩ := z
                exact cmpbk rz ⟨_, H', I', rz, qz⟩
            | true =>
              show wpAny _ _ (richCompare .NotEq (.ref ad) u) _ _ s
              refine PySem.W.ne_K (by omega) hF I.ok.mod.kin J Lk (g.hK ▸ nfs) (g.hK ▸ co.ne) (g.hK ▸ co.hm) (g.hK ▸ me.at_) (g.hK ▸ me.fn) ?_
              refine wpAny_mono (own2 g hq mo hci hmo (A := X.A.in1) (fun k r => r.in1) (show X.A.in1.guards = some [] from g.grd) I.env0.in1 I br ra rc ry (K := fun w H' => ∃ t, w = .bl t ∧ K (.bl (!t)) H') ?_) (fun w s' z => ?_) fun _ _ x => x
              · rw [hC]
                intro W' H' w l b r
                cases r
                exact ⟨bb, rfl, p W' H' _ l b (.bl _)⟩
              · obtain ⟨z', H', I', rz, t, rfl, qz⟩ := z
                cases (show w = Value.bool t from rz)
                exact ⟨t, rfl, .bl (!t), H', I', rfl, qz⟩
          | _ => exact p.elim
        | exc e S3 => rw [hC] at p; exact p.elim
        | bad => rw [hC] at p; exact p.elim
    · exact p.elim
theorem ocmpO_no {ne : Bool} {m : Nat} {x y e : PV} {S S' : Store} : ocmpO G C ne m x y S ≠ .exc e S' := by
  unfold ocmpO
  split
  · cases cmpV S (if ne = true then .ne else .eq) x y <;> exact nofun
  · split
    · split <;> exact nofun
    · exact nofun
theorem poc_of {W : Wd} {env : PEnv} {σ : St} {K : VK} {o : Out PV} (hn : ∀ e S', o ≠ .exc e S') (p : PoE T Wx W env σ K o) : PoC T W K (fun _ _ _ => False) o := by
  cases o with
  | ok v S => exact p
  | exc e S => exact absurd rfl (hn e S)
  | bad => exact p
theorem ocmp_read (g : Good X T G C Wx Q) {ne : Bool} {m : Nat} {a b : IR} {σ : St} {H : Hp} {K : VK} (h : tE T G C Wx (.ocmp ne m a b) σ H K) : tOp (rOC T G C ne m) (tE T G C Wx a) (tE T G C Wx b) σ H K := by
  obtain ⟨W, env, S, br, er, p⟩ := h
  refine ⟨W, env, S, br, er, PoE.bind (by simpa only [ev] using p) fun v S1 W1 H1 w l1 b1 r1 p1 => ⟨W1, env, S1, b1, er.mono l1, p1.bind fun u S2 W2 H2 w2 l2 b2 r2 p2 => ?_⟩⟩
  exact ⟨W2, S2, v, u, b2, r1.mono l2, r2, poc_of (fun _ _ => ocmpO_no) p2⟩
theorem ocmp_bl {ne : Bool} {m : Nat} {x y : PV} {S : Store} : IsBl (ocmpO G C ne m x y S) := by
  unfold ocmpO
  split
  · exact isBl_opt
  · split
    · split
      · intro v S' e; cases e; exact ⟨_, rfl⟩
      · intro v S' e; cases e
    · intro v S' e; cases e
theorem snd_ocmp (g : Good X T G C Wx Q) (hq : Q.calm = true) {ne : Bool} {m : Nat} {a b : IR} {ea eb : Expr} {pos : Pos} (hs : notSet eb = true) (hm : Q.nm[m]? = some ("__eq__" : Str)) (mo : MethOk Q G m [eb] [] (.cons b .nil) .nil [.inl 0, .inl 1]) (ha : PE X ea (tE T G C Wx a)) (hb : PE X eb (tE T G C Wx b)) :
    PE X (.Compare ea [cop (if ne = true then .ne else .eq)] [eb] pos) (tE T G C Wx (.ocmp ne m a b)) ∧ PT X (.Compare ea [cop (if ne = true then .ne else .eq)] [eb] pos) (tT T G C Wx (.ocmp ne m a b)) := by
  refine ⟨PE.imp (pe_cmpR (ocmp_ok g hq hm mo) ha hb (behind_no hs)) fun σ H K h => ocmp_read g h, PT.imp (pt_cmpR (ocmp_ok g hq hm mo) ha hb (behind_no hs)) fun σ H K ⟨W, env, S, br, er, p⟩ => ?_⟩
  have p' := PoB.isBl (by simp only [ev]; exact IsBl.bind fun x S1 => IsBl.bind fun y S2 => ocmp_bl) p
  exact ocmp_read g ⟨W, env, S, br, er, p'⟩
/-! ### str -/
def rOS (T : Cs) (G : Gl) (C : CallF) (m : Nat) : List V → Hp → VK → Prop := fun xs H K => ∃ W S a x, xs = [x] ∧ BR T W S H ∧ Rel T W a x ∧ PoC T W K (fun _ _ _ => False) (ostrO G C m a S)
theorem strback {P : Value → Shared → Prop} {z : PySem.Str} {v : Value} {s' : Shared} (r : RelV (.str z) v) (h : P v s') : PySem.W.StrBack P v s' := by
  obtain ⟨t, rfl⟩ := (show ∃ t, v = Value.str z t from r)
  exact h
theorem ostr_ok (g : Good X T G C Wx Q) (hq : Q.calm = true) {m : Nat} (hm : Q.nm[m]? = some ("__str__" : Str)) (mo : MethOk Q G m [] [] .nil .nil [.inl 0]) : CallR X (.type "str") (rOS T G C m) := by
  intro pins s σ H xs us K I r hh
  obtain ⟨W, S, a, x, rfl, br, ra, p⟩ := hh
  unfold ostrO at p
  split at p
  · cases hf : bfnV S .str [a] with
    | none => rw [hf] at p; exact p.elim
    | some z => rw [hf] at p; exact bfn_ok g.hK .str (fun h => (by cases h)) g.grd (by have := g.un; omega) pins s σ H [x] us K I r ⟨W, S, [a], z, br, .cons ra .nil, hf, p⟩
  · rename_i cc hcl
    split at p
    · rename_i f hmo
      unfold methOf at hmo
      rw [hcl] at hmo
      dsimp only at hmo
      split at hmo
      · cases hmo
      · rename_i ci hci
        obtain ⟨ad, dx, vs0, rfl, ea⟩ := cls_at br ra hcl
        obtain ⟨v, rfl, rv⟩ := vals1 r
        cases (show v = Value.ref ad from rv)
        have co := g.kok.cls cc ci hci
        obtain ⟨me, nf⟩ := co.me m f _ hmo hm
        obtain ⟨mA, O, _⟩ := ins_get I.hok ea
        obtain ⟨od, J, _⟩ := O.look
        have un := g.un
        obtain ⟨ps, dvs, ks, cok⟩ := mo cc ci f hci hmo
        have eks : ks = [] := Option.some.inj (cok.kn.symm.trans rfl)
        subst eks
        obtain ⟨⟨kk, fd, dV, F, pl, dd, dr, rm⟩, kp⟩ := g.fns hq f ps dvs cok.sg
        obtain ⟨vals, vs2, bt, vv, rys, hl⟩ := shape_binds (s := s) (us := [.ref ad]) (ws := []) (vs := [.ref ad]) (zs := []) pl I.kIn dd (.cons ra .nil) (.cons rfl .nil) .nil (dr _) rfl cok.sh (ys := [a]) rfl
        cases hC : C f [a] S with
        | ok rr S3 =>
          rw [hC] at p
          cases rr with
          | str z =>
            refine PySem.W.kso_call (show X.A.in1.in1.units < cLine by show X.A.units + 1 + 1 < _; omega) I.kIn J (g.hK ▸ me.at_) (g.hK ▸ me.fn) ?_
            refine wpAny_mono (run_gA F (RF.Room.in2 rm) (show X.A.in1.in1.guards = some [] from g.grd) I.env0.in1.in1 I bt vv hl ⟨W, S, [a], br, rys, ?_⟩ (K := fun w H' => w = .str z ∧ K w H')) (fun w s' zz => ?_) fun _ _ x => x
            · rw [hC]
              intro W' H' w l b r
              cases r
              exact ⟨rfl, p W' H' _ l b (.str _)⟩
            · obtain ⟨z', H', I', rz, rfl, qz⟩ := zz
              exact strback rz ⟨_, H', I', rz, qz⟩
          | _ => exact p.elim
        | exc e S3 => rw [hC] at p; exact p.elim
        | bad => rw [hC] at p; exact p.elim
    · exact p.elim
theorem ostrO_no {m : Nat} {x e : PV} {S S' : Store} : ostrO G C m x S ≠ .exc e S' := by
  unfold ostrO
  split
  · cases bfnV S .str [x] <;> exact nofun
  · split
    · split <;> exact nofun
    · exact nofun
theorem snd_ostr (g : Good X T G C Wx Q) (hq : Q.calm = true) {m : Nat} {a : IR} {e : Expr} {x : Str} {p pos : Pos} (hx : x = bname .str) (h1 : glB Q.sc x = true) (h2 : x ∈ Q.bt) (hn : notStar e = true) (hm : Q.nm[m]? = some ("__str__" : Str)) (mo : MethOk Q G m [] [] .nil .nil [.inl 0]) (ha : PE X e (tE T G C Wx a)) :
    PE X (.Call (.Name x p) [e] [] pos) (tE T G C Wx (.ostr m a)) := by
  subst hx
  refine PE.imp (pe_callV (b := .str) (ostr_ok g hq hm mo) (g.gl h1) (g.bt _ h2) (pa_cons ha pa_nil (star_no hn)) (by simp only [noStars, hn, Bool.and_self])) fun σ H K ⟨W, env, S, br, er, p⟩ => ?_
  simp only [ev] at p
  exact ⟨W, env, S, br, er, p.bind fun v S1 W1 H1 w l1 b1 r1 p1 => show rOS T G C m [w] H1 K from ⟨W1, S1, v, w, rfl, b1, r1, poc_of (fun _ _ => ostrO_no) p1⟩⟩
end
end RF
/-! Fs: statements. -/
namespace RF
open PySem L2
/-- behind a statement -/
def PoF (T : Cs) (Wx : WXi) (W : Wd) (D : Ends) : Fl → Prop
  | .nx env S => ∀ W' σ' H', W.le W' → BR T W' S H' → ER T Wx.ξ W' env σ' → D.nx σ' H'
  | .rt v S => ∀ W' H' w, W.le W' → BR T W' S H' → Rel T W' v w → D.rt w H'
  | .bk env S => ∀ W' σ' H', W.le W' → BR T W' S H' → ER T Wx.ξ W' env σ' → D.bk σ' H'
  | .xc x env S => ∀ W' σ' H' cls d, W.le W' → BR T W' S H' → ER T Wx.ξ W' env σ' → XRel T W' x cls d → Wx.w cls d σ' H'
  | .bad => False
def tS (T : Cs) (G : Gl) (C : CallF) (Wx : WXi) (i : IS) : TS := fun D σ H => ∃ W env S, BR T W S H ∧ ER T Wx.ξ W env σ ∧ PoF T Wx W D (ex G C i env S)
section
variable {X : Cx} {T : Cs} {G : Gl} {C : CallF} {Wx : WXi} {Q : Sc} {W W' : Wd} {D : Ends} {env : PEnv} {σ : St}
theorem PoF.up {f : Fl} (l : W.le W') (p : PoF T Wx W D f) : PoF T Wx W' D f := by
  cases f with
  | nx env S => exact fun W2 σ2 H2 l2 => p W2 σ2 H2 (l.trans l2)
  | rt v S => exact fun W2 H2 w l2 => p W2 H2 w (l.trans l2)
  | bk env S => exact fun W2 σ2 H2 l2 => p W2 σ2 H2 (l.trans l2)
  | xc x env S => exact fun W2 σ2 H2 c d l2 => p W2 σ2 H2 c d (l.trans l2)
  | bad => exact p
theorem PoF.bind {f : Fl} {k : PEnv → Store → Fl} (p : PoF T Wx W D (f.bind k)) : PoF T Wx W { D with nx := fun σ' H' => ∃ W' env' S', BR T W' S' H' ∧ ER T Wx.ξ W' env' σ' ∧ PoF T Wx W' D (k env' S') } f := by
  cases f with
  | nx env S => exact fun W2 σ2 H2 l2 b2 e2 => ⟨W2, env, S, b2, e2, PoF.up l2 p⟩
  | rt v S => exact p
  | bk env S => exact p
  | xc x env S => exact p
  | bad => exact p
theorem PoF.thn {o : Out PV} {k : PV → Store → Fl} {K : VK} (er : ER T Wx.ξ W env σ) (p : PoF T Wx W D (o.thn env k))
    (h : ∀ v S' W' H' w, W.le W' → BR T W' S' H' → Rel T W' v w → PoF T Wx W' D (k v S') → K w H') : PoE T Wx W env σ K o := by
  cases o with
  | ok v S => exact fun W2 H2 w l b r => h v S W2 H2 w l b r (PoF.up l p)
  | exc x S => exact fun W2 H2 c d l b r => p W2 σ H2 c d l b (er.mono l) r
  | bad => exact p
theorem PoF.thnL {o : Out (List PV)} {k : List PV → Store → Fl} {K : List V → Hp → Prop} (er : ER T Wx.ξ W env σ) (p : PoF T Wx W D (o.thn env k))
    (h : ∀ v S' W' H' w, W.le W' → BR T W' S' H' → Rels T W' v w → PoF T Wx W' D (k v S') → K w H') : PoEs T Wx W env σ K o := by
  cases o with
  | ok v S => exact fun W2 H2 w l b r => h v S W2 H2 w l b r (PoF.up l p)
  | exc x S => exact fun W2 H2 c d l b r => p W2 σ H2 c d l b (er.mono l) r
  | bad => exact p
/-- a test -/
theorem PoF.test {c : IR} {S : Store} {K : Bool → Hp → Prop} {f : Bool → Store → Fl} (er : ER T Wx.ξ W env σ) (p : PoF T Wx W D ((ev G C c env S).thn env fun v S1 => match truthV S1 v with
      | some k => f k S1
      | none => .bad)) (h : ∀ k S1 W1 H1, W.le W1 → BR T W1 S1 H1 → PoF T Wx W1 D (f k S1) → K k H1) : PoB T Wx W env σ K (evT G C c env S) := by
  unfold evT
  cases ho : ev G C c env S with
  | ok v S1 =>
    rw [ho] at p
    simp only [thn_ok] at p
    simp only [Out.bind_ok]
    cases q : truthV S1 v with
    | none => rw [q] at p; exact p.elim
    | some k => rw [q] at p; exact fun W1 H1 l b => h k S1 W1 H1 l b (PoF.up l p)
  | exc e S1 => rw [ho] at p; exact fun W2 H2 c d l b r => p W2 σ H2 c d l b (er.mono l) r
  | bad => rw [ho] at p; exact p
/-- more that is known where statements are run -/
structure GoodS (X : Cx) (T : Cs) (G : Gl) (C : CallF) (Wx : WXi) (Q : Sc) : Prop extends Good X T G C Wx Q where
  stk : X.stack = X.env :: X.outer
  frm : X.env.frame = some X.env.locals
  pas : PassesOwn (model X.prog X.w) X.A X.env X.xe
theorem snd_skip : PSs X [] (tS T G C Wx .skip) := PSs.imp pss_nil fun D σ H ⟨W, env, S, br, er, p⟩ => by
  simp only [ex] at p
  exact p W σ H (.refl W) br er
theorem snd_pass {pos : Pos} : PS X (.Pass pos) (tS T G C Wx .skip) := PS.imp ps_pass fun D σ H ⟨W, env, S, br, er, p⟩ => by
  simp only [ex] at p
  exact p W σ H (.refl W) br er
theorem snd_doc {x : Str} {j : Nat} {pos pos' : Pos} : PS X (.Expr (.Constant (.str x) j pos) pos') (tS T G C Wx .skip) := PS.imp ps_doc fun D σ H ⟨W, env, S, br, er, p⟩ => by
  simp only [ex] at p
  exact p W σ H (.refl W) br er
theorem snd_brk {pos : Pos} : PS X (.Break pos) (tS T G C Wx .brk) := PS.imp ps_break fun D σ H ⟨W, env, S, br, er, p⟩ => by
  simp only [ex] at p
  exact p W σ H (.refl W) br er
theorem snd_seq {a b : IS} {st : Stmt} {rest : List Stmt} (ha : PS X st (tS T G C Wx a)) (hb : PSs X rest (tS T G C Wx b)) : PSs X (st :: rest) (tS T G C Wx (.seq a b)) :=
  PSs.imp (pss_cons ha hb) fun D σ H ⟨W, env, S, br, er, p⟩ => by
    simp only [ex] at p
    exact ⟨W, env, S, br, er, p.bind⟩
theorem snd_ret {e : IR} {x : Expr} {pos : Pos} (h : PE X x (tE T G C Wx e)) : PS X (.Return (some x) pos) (tS T G C Wx (.ret e)) :=
  PS.imp (ps_ret h) fun D σ H ⟨W, env, S, br, er, p⟩ => by
    simp only [ex] at p
    exact ⟨W, env, S, br, er, p.thn er fun v S1 W1 H1 w l1 b1 r1 p1 => p1 W1 H1 w (.refl W1) b1 r1⟩
theorem snd_retN {pos : Pos} : PS X (.Return none pos) (tS T G C Wx (.ret (.k .non))) :=
  PS.imp ps_retN fun D σ H ⟨W, env, S, br, er, p⟩ => by
    simp only [ex, ev, thn_ok] at p
    exact p W H _ (.refl W) br .non
def notComp : Expr → Bool
  | .ListComp .. => false
  | .SetComp .. => false
  | .DictComp .. => false
  | _ => true
theorem swap_no {e : Expr} {t : Option Expr} {n : Nat} {env : Env} (h : notComp e = true) : swapsWith e t n env = pure false := by
  cases e <;> first | rfl | cases h
theorem snd_expr {e : IR} {x : Expr} {pos : Pos} (hn : notComp x = true) (h : PE X x (tE T G C Wx e)) : PS X (.Expr x pos) (tS T G C Wx (.expr e)) :=
  PS.imp (ps_expr h (swap_no hn)) fun D σ H ⟨W, env, S, br, er, p⟩ => by
    simp only [ex] at p
    exact ⟨W, env, S, br, er, p.thn er fun v S1 W1 H1 w l1 b1 r1 p1 => p1 W1 σ H1 (.refl W1) b1 (er.mono l1)⟩
theorem snd_if {c : IR} {a b : IS} {ec : Expr} {ea eb : List Stmt} {pos : Pos} (hc : PT X ec (tT T G C Wx c)) (ha : PSs X ea (tS T G C Wx a)) (hb : PSs X eb (tS T G C Wx b)) : PS X (.If ec ea eb pos) (tS T G C Wx (.ite c a b)) :=
  PS.imp (ps_if hc ha hb) fun D σ H ⟨W, env, S, br, er, p⟩ => by
    simp only [ex] at p
    refine ⟨W, env, S, br, er, PoF.test (f := fun k S1 => if k = true then ex G C a env S1 else ex G C b env S1) (D := D) er ?_ fun k S1 W1 H1 l1 b1 p1 => ?_⟩
    · refine (congrArg (PoF T Wx W D) (congrArg (Out.thn _ env) ?_)).mp p
      funext v S1
      cases truthV S1 v with
      | none => rfl
      | some k => cases k <;> rfl
    · cases k with
      | true => rw [if_pos rfl] at p1 ⊢; exact ⟨W1, env, S1, b1, er.mono l1, p1⟩
      | false => rw [if_neg Bool.false_ne_true] at p1 ⊢; exact ⟨W1, env, S1, b1, er.mono l1, p1⟩
/-! ### assignments -/
/-- behind the value: the target -/
theorem asg_of {p : Pat} {e : IR} {te : TE} (D : Ends) (σ : St) (H : Hp) (h : tS T G C Wx (.set p e) D σ H) (k : ∀ K, tE T G C Wx e σ H K → te σ H K) : tAsg te (tP T Wx.ξ p) D σ H := by
  obtain ⟨W, env, S, br, er, q⟩ := h
  simp only [ex] at q
  refine k _ ⟨W, env, S, br, er, q.thn er fun v S1 W1 H1 w l1 b1 r1 p1 => ?_⟩
  cases hb : bindP p v env with
  | none => rw [hb] at p1; exact p1.elim
  | some env' =>
    rw [hb] at p1
    exact ⟨W1, env, v, env', er.mono l1, b1.frz, .inl r1, hb, fun σ' er' _ => p1 W1 σ' H1 (.refl W1) b1 er'⟩
/-- the stores are not swapped -/
def plainT : List Expr → Expr → Bool
  | [.Tuple _ _ _], .Tuple _ _ _ => false
  | [.List _ _], .Tuple _ _ _ => false
  | _, _ => true
theorem stores_no {ts : List Expr} {e : Expr} {env : Env} (h : plainT ts e = true) : swappedStores ts e env = pure none := by
  unfold swappedStores
  cases ts with
  | nil => rfl
  | cons t ts =>
    cases ts with
    | nil =>
      cases t <;> first
        | rfl
        | (cases e <;> first | rfl | cases h)
    | cons _ _ => cases t <;> rfl
theorem each_one {e : Expr} {env : Env} (h : notStar e = true) : (assignEach [e] env).map (·.2) = [assign e env] := by
  cases e <;> first | rfl | cases h
theorem snd_set (g : Good X T G C Wx Q) {p : Pat} {e : IR} {tg x : Expr} {pos : Pos} (hn : notComp x = true) (hp : swappedStores [tg] x X.env = pure none) (hs : notStar tg = true) (ht : PG X tg (tP T Wx.ξ p)) (h : PE X x (tE T G C Wx e)) : PS X (.Assign [tg] x pos) (tS T G C Wx (.set p e)) :=
  PS.imp (ps_asg h ht (swap_no hn) hp (each_one hs)) fun D σ H q => asg_of D σ H q fun K h => h
theorem snd_setC (g : Good X T G C Wx Q) {i : Nat} {x : Str} {e : IR} {own : List Nat} {p : Pat} {it elt cond : IR} {tp : Bool} {eelt tg iter : Expr} {ifs : List Expr} {scope : Scope} {cpos npos pos : Pos} (hn : nameOk Q i x = true) (c : CompOk X T G C Wx Q own p it elt cond tp eelt tg iter ifs scope)
    (he : ∀ σ H K, tE T G C Wx e σ H K → tLc (tI T G C Wx tp it) (tP T Wx.ξ p) (tT T G C (WF Wx.ξ) cond) (tE T G C (WF Wx.ξ) elt) own σ H K) :
    PS X (.Assign [.Name x npos] (.ListComp eelt [⟨tg, iter, ifs, 0⟩] scope cpos) pos) (tS T G C Wx (.set (.v i) e)) := by
  have hsw : ∃ b : Bool, swapsWith (.ListComp eelt [⟨tg, iter, ifs, 0⟩] scope cpos) (some (.Name x npos)) pos.line X.env = pure b ∧ (b = true → X.env.scope.names.lookup x = some .local) := by
    refine ⟨_, rfl, fun hb => ?_⟩
    simp only [Bool.and_eq_true] at hb
    exact beq_iff_eq.mp hb.1.1.2
  obtain ⟨b, e1, e2⟩ := hsw
  have hi : X.N[i]? = some x := by
    unfold nameOk at hn
    rw [Bool.and_eq_true] at hn
    rw [g.hN]; exact of_decide_eq_true hn.1
  have key : ∀ (D : Ends) (σ : St) (H : Hp), tS T G C Wx (.set (.v i) e) D σ H → tAsg (tLc (tI T G C Wx tp it) (tP T Wx.ξ p) (tT T G C (WF Wx.ξ) cond) (tE T G C (WF Wx.ξ) elt) own) (gName i) D σ H := fun D σ H q => by
    obtain ⟨W, env, S, br, er, q⟩ := q
    simp only [ex] at q
    refine he _ _ _ ⟨W, env, S, br, er, q.thn er fun v S1 W1 H1 w l1 b1 r1 p1 => ?_⟩
    simp only [bindP] at p1
    exact p1 W1 _ H1 (.refl W1) b1 ((er.mono l1).set i r1)
  cases b with
  | true => exact PS.imp (c.ps g hi (e2 rfl) e1) key
  | false => exact PS.imp (ps_asg (c.pe g) (nameOk_pg g hn) e1 (stores_no rfl) rfl) key
/-- neither a return nor a break -/
def Fl.plain : Fl → Bool
  | .rt _ _ => false
  | .bk _ _ => false
  | _ => true
theorem thn_plain {α : Type} {o : Out α} {env : PEnv} {k : α → Store → Fl} (h : ∀ v S, (k v S).plain = true) : (o.thn env k).plain = true := by
  cases o with
  | ok v S => exact h v S
  | exc x S => rfl
  | bad => rfl
theorem PoF.weak {D D' : Ends} {f : Fl} (p : PoF T Wx W D f) (h : f.plain = true) (hn : D.nx = D'.nx) : PoF T Wx W D' f := by
  cases f with
  | nx env S => exact fun W2 σ2 H2 l b e => hn ▸ p W2 σ2 H2 l b e
  | rt v S => cases h
  | bk env S => cases h
  | xc x env S => exact p
  | bad => exact p
/-! ### attributes, items -/
theorem putF_at : ∀ {ns : List Str} {vs : List V} {j : Nat} {f : Str} {y : V}, ns.Nodup → ns[j]? = some f → (j < vs.length → putF f y (ns.zip vs) = ns.zip (vs.set j y)) ∧ (j = vs.length → putF f y (ns.zip vs) = ns.zip (vs ++ [y]))
  | [], _, _, _, _, _, h => by simp at h
  | n :: ns, [], 0, f, y, nd, h => by
    simp at h; subst h
    refine ⟨fun h => by simp at h, fun _ => ?_⟩
    show [(n, y)] = (n, y) :: ns.zip []
    simp
  | n :: ns, [], j + 1, f, y, nd, h => ⟨fun h => by simp at h, fun h => by simp at h⟩
  | n :: ns, v :: vs, 0, f, y, nd, h => by
    simp at h; subst h
    refine ⟨fun _ => ?_, fun h => by simp at h⟩
    show (if n = n then (n, y) :: ns.zip vs else _) = _
    rw [if_pos rfl]; rfl
  | n :: ns, v :: vs, j + 1, f, y, nd, h => by
    simp only [List.getElem?_cons_succ] at h
    have hne : ¬ n = f := fun e => (List.nodup_cons.mp nd).1 (by rw [e]; exact List.mem_of_getElem? h)
    obtain ⟨i1, i2⟩ := putF_at (vs := vs) (y := y) (List.nodup_cons.mp nd).2 h
    have e0 : putF f y ((n :: ns).zip (v :: vs)) = (n, v) :: putF f y (ns.zip vs) := by
      show (if n = f then (n, y) :: ns.zip vs else (n, v) :: putF f y (ns.zip vs)) = _
      rw [if_neg hne]
    exact ⟨fun hl => by rw [e0, i1 (by simpa using hl)]; rfl, fun hl => by rw [e0, i2 (by simpa using hl)]; rfl⟩
theorem setattr_of {H : Hp} {S S' : Store} {v y : PV} {w u : V} {f : Nat} {name : Str} (ok : KOk T G Q.nm) (br : BR T W S H) (r : Rel T W v w) (ry : Rel T W y u) (hf : Q.nm[f]? = some name) (e : setAttrV G S v f y = some S') :
    ∃ a Ca dx fs, w = .ref a ∧ H a = some (.ins Ca dx fs) ∧ Cls T.K Ca ∧ NoAttr T.K Ca name ∧ fs.length < 1000 ∧ BR T W S' (upd H a (.ins Ca dx (putF name u fs))) := by
  cases r with
  | @ref n a h =>
    simp only [setAttrV] at e
    split at e
    · rename_i c xs hs
      split at e
      · rename_i j hj
        obtain ⟨pu, dx, vs, e1, ed, hl, rr⟩ := br.sto n _ a hs h
        obtain ⟨ci, hc⟩ := fix_cls hj
        have co := ok.cls c ci hc
        have e2 : (T.flds c)[j]? = some name := by rw [co.fl j f (fix_at hc hj)]; exact hf
        have hjl : j < (T.flds c).length := (List.getElem?_eq_some_iff.mp e2).1
        obtain ⟨p1, p2⟩ := putF_at (vs := vs) (y := u) co.nd e2
        have hlen := rr.length
        split at e
        · cases e
        · rename_i hp
          have hp : y.pure = true := by simpa using hp
          refine ⟨a, _, dx, _, rfl, e1, co.cl, co.na _ (List.mem_of_getElem? e2), ?_, ?_⟩
          · have := co.few
            rw [List.length_zip]
            omega
          · split at e
            · rename_i hlt
              cases e
              rw [p1 (by omega)]
              exact br.put h ⟨pures_iff.mpr fun z hz => by
                rcases List.mem_or_eq_of_mem_set hz with hz | hz
                · exact pures_iff.mp pu z hz
                · rw [hz]; exact hp, dx, vs.set j u, upd_same, ed, by rw [List.length_set]; exact hl, rr.set j ry⟩
            · split at e
              · rename_i _ heq
                cases e
                rw [p2 (by omega)]
                exact br.put h ⟨by rw [pures_append, pu]; simp only [PV.pures, hp, Bool.and_self], dx, vs ++ [u], upd_same, ed, by rw [List.length_append, List.length_singleton]; omega, rr.append (.cons ry .nil)⟩
              · cases e
      · cases e
    · cases e
  | _ => simp only [setAttrV] at e; cases e
theorem snd_setAttr (g : Good X T G C Wx Q) {o e : IR} {f : Nat} {name : Str} {eo x : Expr} {pos pos' : Pos} (hf : Q.nm[f]? = some name) (ho : PE X eo (tE T G C Wx o)) (hx : PE X x (tE T G C Wx e)) : PS X (.Assign [.Attribute eo name pos'] x pos) (tS T G C Wx (.setAttr o f e)) :=
  PS.imp (ps_fld ho hx (by cases x <;> rfl)) fun D σ H ⟨W, env, S, br, er, q⟩ => by
    simp only [ex] at q
    refine ⟨W, env, S, br, er, q.thn er fun v S1 W1 H1 w l1 b1 r1 p1 => ?_⟩
    refine ⟨W1, env, S1, b1, er.mono l1, PoF.thn (er.mono l1) p1 fun y S2 W2 H2 u l2 b2 r2 p2 => ?_⟩
    cases h : setAttrV G S2 y f v with
    | none => rw [h] at p2; exact p2.elim
    | some S3 =>
      rw [h] at p2
      obtain ⟨a, Ca, dx, fs, e1, e2, e3, e4, e5, e6⟩ := setattr_of (Q := Q) g.kok b2 r2 (r1.mono l2) hf h
      exact ⟨a, Ca, dx, fs, e1, e2, g.hK ▸ e3, g.hK ▸ e4, e5, p2 W2 σ _ (.refl W2) e6 (er.mono (l1.trans l2))⟩
theorem setidx_of {H : Hp} {S S' : Store} {o i y : PV} {wo wi wy : V} (br : BR T W S H) (ro : Rel T W o wo) (ri : Rel T W i wi) (ry : Rel T W y wy) (e : setIdxV S o i y = some S') : rSetL wo wi wy H fun H' => BR T W S' H' := by
  unfold setIdxV at e
  split at e
  · rename_i n k
    cases ri
    split at e
    · rename_i xs hs
      split at e
      · rename_i j hj
        split at e
        · rename_i hp
          cases e
          cases ro with
          | ref h =>
            obtain ⟨pu, vs, e1, rr⟩ := br.sto n _ _ hs h
            refine ⟨_, vs, k, j, rfl, rfl, e1, by rw [← rr.length]; exact hj, br.put h ⟨pures_iff.mpr fun z hz => ?_, _, upd_same, rr.set j ry⟩⟩
            rcases List.mem_or_eq_of_mem_set hz with hz | hz
            · exact pures_iff.mp pu z hz
            · rw [hz]; exact hp
        · cases e
      · cases e
    · cases e
  · cases e
theorem sub_assign {o i : Expr} {pos : Pos} {env : Env} (hn : notSlice i = true) : ∀ v, assign (.Subscript o i pos) env v = (do
      let ov ← holding [v] (eval o env)
      let iv ← holding [v, ov] (eval i env)
      standAt pos
      holding [v, ov, iv] (setItem ov iv v)
      release [v, ov, iv] []) := by intro v; cases i <;> first | rfl | cases hn
/-- o[i] = .., a target -/
theorem snd_subT (g : Good X T G C Wx Q) {o i : IR} {eo ei : Expr} {pos : Pos} (hn : notSlice ei = true) (ho : PE X eo (tE T G C Wx o)) (hi : PE X ei (tE T G C Wx i)) :
    PG X (.Subscript eo ei pos) (fun v σ H Q => ∃ W env S x, BR T W S H ∧ ER T Wx.ξ W env σ ∧ Rel T W x v ∧ PoF T Wx W { nx := Q, rt := fun _ _ => False } ((ev G C o env S).thn env fun ov S1 => (ev G C i env S1).thn env fun iv S2 => match setIdxV S2 ov iv x with
      | some S3 => .nx env S3
      | none => .bad)) :=
  PG.imp (pg_sub ho hi set_list (sub_assign hn)) fun v σ H K ⟨W, env, S, x, br, er, rx, q⟩ => by
    refine ⟨W, env, S, br, er, q.thn er fun ov S1 W1 H1 w l1 b1 r1 p1 => ?_⟩
    refine ⟨W1, env, S1, b1, er.mono l1, PoF.thn (er.mono l1) p1 fun iv S2 W2 H2 u l2 b2 r2 p2 => ?_⟩
    cases h : setIdxV S2 ov iv x with
    | none => rw [h] at p2; exact p2.elim
    | some S3 =>
      rw [h] at p2
      obtain ⟨p, xs, k, j, e1, e2, e3, e4, e5⟩ := setidx_of b2 (r1.mono l2) r2 (rx.mono (l1.trans l2)) h
      exact ⟨p, xs, k, j, e1, e2, e3, e4, p2 W2 σ _ (.refl W2) e5 (er.mono (l1.trans l2))⟩
theorem snd_setIdx (g : Good X T G C Wx Q) {o i e : IR} {eo ei x : Expr} {pos pos' : Pos} (hn : notSlice ei = true) (ho : PE X eo (tE T G C Wx o)) (hi : PE X ei (tE T G C Wx i)) (hx : PE X x (tE T G C Wx e)) : PS X (.Assign [.Subscript eo ei pos'] x pos) (tS T G C Wx (.setIdx o i e)) :=
  PS.imp (ps_asg hx (snd_subT g hn ho hi) (by cases x <;> rfl) (by cases x <;> rfl) rfl) fun D σ H ⟨W, env, S, br, er, q⟩ => by
    simp only [ex] at q
    refine ⟨W, env, S, br, er, q.thn er fun v S1 W1 H1 w l1 b1 r1 p1 => ⟨W1, env, S1, v, b1, er.mono l1, r1, ?_⟩⟩
    exact PoF.weak p1 (thn_plain fun ov S1 => thn_plain fun iv S2 => by split <;> rfl) rfl
theorem snd_aug (g : Good X T G C Wx Q) {i : Nat} {o : BOp} {e : IR} {x : Str} {ee : Expr} {pos pos' : Pos} (ho : o = .add ∨ o = .sub) (hn : nameOk Q i x = true) (h : PE X ee (tE T G C Wx e)) : PS X (.AugAssign (.Name x pos') (bop o) ee pos) (tS T G C Wx (.aug i o e)) := by
  unfold nameOk at hn
  rw [Bool.and_eq_true] at hn
  have h1 := of_decide_eq_true hn.1
  have key : ∃ f : Int → Int → Int, PIp X (bop o) (ipI f) ∧ ∀ (D : Ends) (σ : St) (H : Hp), tS T G C Wx (.aug i o e) D σ H → tAug i (tE T G C Wx e) (ipI f) D σ H := by
    rcases ho with rfl | rfl
    · refine ⟨_, ip_add, fun D σ H ⟨W, env, S, br, er, q⟩ => ?_⟩
      simp only [ex] at q
      split at q
      · rename_i x hx
        have hv : x.isExc = false → ∃ w, σ[i]? = some (some w) ∧ Rel T W x w := fun hz => let ⟨w, a, r⟩ := er.2 i x hx; ⟨w, a, r.rel hz⟩
        cases x with
        | int a =>
          obtain ⟨w, hw, rw'⟩ := hv rfl
          cases rw'
          refine ⟨_, hw, W, env, S, br, er, q.thn er fun y S1 W1 H1 u l1 b1 r1 p1 => ?_⟩
          cases y with
          | int b => cases r1; exact ⟨a, b, rfl, rfl, p1 W1 _ H1 (.refl W1) b1 ((er.mono l1).set i (.int _))⟩
          | _ => exact p1.elim
        | exc _ _ =>
          obtain ⟨w, hw, _⟩ := er.2 i _ hx
          exact ⟨w, hw, W, env, S, br, er, q.thn er fun y S1 W1 H1 u l1 b1 r1 p1 => by cases y <;> exact p1.elim⟩
        | _ =>
          obtain ⟨w, hw, _⟩ := hv rfl
          exact ⟨w, hw, W, env, S, br, er, q.thn er fun y S1 W1 H1 u l1 b1 r1 p1 => by cases y <;> exact p1.elim⟩
      · exact q.elim
    · refine ⟨_, ip_sub, fun D σ H ⟨W, env, S, br, er, q⟩ => ?_⟩
      simp only [ex] at q
      split at q
      · rename_i x hx
        have hv : x.isExc = false → ∃ w, σ[i]? = some (some w) ∧ Rel T W x w := fun hz => let ⟨w, a, r⟩ := er.2 i x hx; ⟨w, a, r.rel hz⟩
        cases x with
        | int a =>
          obtain ⟨w, hw, rw'⟩ := hv rfl
          cases rw'
          refine ⟨_, hw, W, env, S, br, er, q.thn er fun y S1 W1 H1 u l1 b1 r1 p1 => ?_⟩
          cases y with
          | int b => cases r1; exact ⟨a, b, rfl, rfl, p1 W1 _ H1 (.refl W1) b1 ((er.mono l1).set i (.int _))⟩
          | _ => exact p1.elim
        | exc _ _ =>
          obtain ⟨w, hw, _⟩ := er.2 i _ hx
          exact ⟨w, hw, W, env, S, br, er, q.thn er fun y S1 W1 H1 u l1 b1 r1 p1 => by cases y <;> exact p1.elim⟩
        | _ =>
          obtain ⟨w, hw, _⟩ := hv rfl
          exact ⟨w, hw, W, env, S, br, er, q.thn er fun y S1 W1 H1 u l1 b1 r1 p1 => by cases y <;> exact p1.elim⟩
      · exact q.elim
  obtain ⟨f, hf, hk⟩ := key
  have h2 := hn.2
  unfold locB at h2
  split at h2
  · rename_i q
    exact PS.imp (ps_aug g.nd (by rw [g.hN]; exact h1) (.inl (by rw [g.sc]; exact q)) h hf (.inr (by rw [g.sc]; exact q))) hk
  · rename_i q
    exact PS.imp (ps_aug g.nd (by rw [g.hN]; exact h1) (.inr (by rw [g.sc]; exact q)) h hf (.inl (g.fn _ h2))) hk
  · cases h2
end
end RF
/-! Ft: several targets, loops. -/
namespace RF
open PySem L2
section
variable {X : Cx} {T : Cs} {G : Gl} {C : CallF} {Wx : WXi} {Q : Sc}
def isLocal (sc : Scope) (x : Str) : Bool := match sc.names.lookup x with
  | some .local => true
  | _ => false
theorem isLocal_ok {sc : Scope} {x : Str} (h : isLocal sc x = true) : sc.names.lookup x = some .local := by
  unfold isLocal at h
  split at h
  · assumption
  · cases h
def par2Ok (Q : Sc) (i j : Nat) (x y : Str) (px py : Pos) (a b : Expr) : Bool :=
  decide (Q.N[i]? = some x) && decide (Q.N[j]? = some y) && decide (i ≠ j) && isLocal Q.sc x && isLocal Q.sc y && (py.line == px.line) && !(x == y) && notStar a && notStar b && !(foldedForSure 8 a && foldedForSure 8 b) && !(constantsAlone 8 a && constantsAlone 8 b)
def par3Ok (Q : Sc) (i j k : Nat) (x y z : Str) (px py pz : Pos) (a b c : Expr) : Bool :=
  decide (Q.N[i]? = some x) && decide (Q.N[j]? = some y) && decide (Q.N[k]? = some z) && decide (i ≠ j) && decide (i ≠ k) && decide (j ≠ k) && isLocal Q.sc x && isLocal Q.sc y && isLocal Q.sc z && (py.line == px.line) && (pz.line == px.line)
    && !(x == y) && !(x == z) && !(y == z) && notStar a && notStar b && notStar c && !(foldedForSure 8 a && (foldedForSure 8 b && foldedForSure 8 c)) && !(constantsAlone 8 a && (constantsAlone 8 b && constantsAlone 8 c))
theorem block_fn {env : Env} (h : env.scope.kind = .function) : (env.blockKind != .function) = false := by
  unfold Env.blockKind
  rw [h]; rfl
theorem ne_true {b : Bool} (h : b = false) : ¬ b = true := by rw [h]; exact Bool.false_ne_true
theorem swap2 {env : Env} {x y : Str} {px py pt p2 : Pos} {a b : Expr} {k k2 : Nat} (hk : env.scope.kind = .function) (hx : env.kindOf x = some .local) (hy : env.kindOf y = some .local) (hl : py.line = px.line) (hne : ¬ x = y)
    (na : notStar a = true) (nb : notStar b = true) (hf : (foldedForSure 8 a && foldedForSure 8 b) = false) (hc : (constantsAlone 8 a && constantsAlone 8 b) = false) :
    swappedStores [.Tuple [.Name x px, .Name y py] k pt] (.Tuple [a, b] k2 p2) env = pure (some [x, y]) := by
  have h1 := block_fn hk
  unfold swappedStores
  have hyx : ¬ y = x := fun e => hne e.symm
  simp only [List.length_cons, List.length_nil, h1, List.head?_cons, Option.map_some, Option.getD_some, List.filterMap_cons, List.filterMap_nil, hx, hy, hl, Expr.pos, beq_self_eq_true, Bool.and_self, if_true, List.eraseDups_cons, List.all_cons, List.all_nil, Bool.and_true, hf, hc]
  have hs : ∀ l : List Bool, (l = [true] → False) → True := fun _ _ => trivial
  rw [if_neg (by decide)]
  have hany : ∀ f : Expr → Bool, f a = false → f b = false → ([a, b].any f) = false := fun f h1 h2 => by simp [h1, h2]
  rw [hany _ (by cases a <;> first | rfl | cases na) (by cases b <;> first | rfl | cases nb)]
  simp [hne, hyx, List.eraseDups_cons]
theorem swap3 {env : Env} {x y z : Str} {px py pz pt p2 : Pos} {a b c : Expr} {k k2 : Nat} (hk : env.scope.kind = .function) (hx : env.kindOf x = some .local) (hy : env.kindOf y = some .local) (hz : env.kindOf z = some .local) (hl : py.line = px.line) (hl2 : pz.line = px.line) (hne : ¬ x = y) (hne2 : ¬ x = z) (hne3 : ¬ y = z)
    (na : notStar a = true) (nb : notStar b = true) (nc : notStar c = true) (hf : (foldedForSure 8 a && (foldedForSure 8 b && foldedForSure 8 c)) = false) (hc : (constantsAlone 8 a && (constantsAlone 8 b && constantsAlone 8 c)) = false) :
    swappedStores [.Tuple [.Name x px, .Name y py, .Name z pz] k pt] (.Tuple [a, b, c] k2 p2) env = pure (some [x, y, z]) := by
  have h1 := block_fn hk
  unfold swappedStores
  have e1 : ¬ y = x := fun e => hne e.symm
  have e2 : ¬ z = x := fun e => hne2 e.symm
  have e3 : ¬ z = y := fun e => hne3 e.symm
  simp only [List.length_cons, List.length_nil, h1, List.head?_cons, Option.map_some, Option.getD_some, List.filterMap_cons, List.filterMap_nil, hx, hy, hz, hl, hl2, Expr.pos, beq_self_eq_true, Bool.and_self, if_true, List.eraseDups_cons, List.all_cons, List.all_nil, Bool.and_true, hf, hc]
  rw [if_neg (by decide)]
  have hany : ∀ f : Expr → Bool, f a = false → f b = false → f c = false → ([a, b, c].any f) = false := fun f h1 h2 h3 => by simp [h1, h2, h3]
  rw [hany _ (by cases a <;> first | rfl | cases na) (by cases b <;> first | rfl | cases nb) (by cases c <;> first | rfl | cases nc)]
  simp [hne, hne2, hne3, e1, e2, e3, List.eraseDups_cons]
/-- some target is no local name: the stores are not swapped -/
def noSwapB (sc : Scope) : List Expr → Expr → Bool
  | [.Tuple ts _ _], .Tuple vs _ _ => !(ts.length == 2 || ts.length == 3) || vs.length != ts.length || ts.any (fun t => match t with
    | .Name x _ => !isLocal sc x
    | _ => true)
  | _, _ => false
theorem fm_less {α β : Type} {f : α → Option β} : ∀ {l : List α}, l.any (fun t => (f t).isNone) = true → (l.filterMap f).length < l.length
  | [], h => by cases h
  | a :: l, h => by
    rw [List.any_cons, Bool.or_eq_true] at h
    have hl := List.length_filterMap_le f l
    rcases h with h | h
    · rw [List.filterMap_cons, Option.isNone_iff_eq_none.mp h, List.length_cons]
      exact Nat.lt_succ_of_le hl
    · have := fm_less h
      rw [List.filterMap_cons]
      split
      · rw [List.length_cons]; omega
      · rw [List.length_cons, List.length_cons]; omega
theorem noSwap_ok {sc : Scope} {env : Env} (hs : env.scope = sc) {ts : List Expr} {x : Expr} (h : noSwapB sc ts x = true) : swappedStores ts x env = pure none := by
  unfold noSwapB at h
  split at h
  · rename_i ts k p vs k2 p2
    unfold swappedStores
    simp only
    by_cases h1 : (!(ts.length == 2 || ts.length == 3) || vs.length != ts.length || env.blockKind != .function) = true
    · rw [if_pos h1]
    · rw [if_neg h1]
      split
      · rfl
      · have h2 : ts.any (fun t => match t with
            | .Name x _ => !isLocal sc x
            | _ => true) = true := by
          cases q1 : (!(ts.length == 2 || ts.length == 3)) <;> cases q2 : (vs.length != ts.length) <;> simp_all
        have h3 : ts.any (fun t => ((match t with
            | .Name id pos => if (env.kindOf id == some .local && pos.line == (ts.head?.map (·.pos.line)).getD 0) = true then some id else none
            | _ => none : Option Str)).isNone) = true := by
          obtain ⟨t, ht, hq⟩ := List.any_eq_true.mp h2
          refine List.any_eq_true.mpr ⟨t, ht, ?_⟩
          split
          · rename_i id pos
            have hq : (!isLocal sc id) = true := hq
            have : (env.kindOf id == some .local) = false := by
              unfold Env.kindOf
              rw [hs]
              unfold isLocal at hq
              cases q : sc.names.lookup id with
              | none => rfl
              | some kd => rw [q] at hq; cases kd <;> first | rfl | cases hq
            rw [this, Bool.false_and, if_neg Bool.false_ne_true]; rfl
          · rfl
        have h4 := fm_less h3
        rw [if_pos]
        rw [Bool.or_eq_true]
        left
        rw [bne_iff_ne]
        exact Nat.ne_of_lt h4
  · cases h
theorem bnot_of {b : Bool} (h : (!b) = true) : b = false := by cases b <;> first | rfl | cases h
theorem snd_par2 (g : Good X T G C Wx Q) (hq : Q.calm = true) {i j : Nat} {x y : Str} {px py pt p2 pos : Pos} {a b : Expr} {k k2 : Nat} {l : IR} (h : par2Ok Q i j x y px py a b = true) (ha : PA X [a, b] (tEs T G C Wx l)) :
    PS X (.Assign [.Tuple [.Name x px, .Name y py] k pt] (.Tuple [a, b] k2 p2) pos) (tS T G C Wx (.par [i, j] l)) := by
  unfold par2Ok at h
  simp only [Bool.and_eq_true, decide_eq_true_eq] at h
  obtain ⟨⟨⟨⟨⟨⟨⟨⟨⟨⟨c1, c2⟩, c3⟩, c4⟩, c5⟩, c6⟩, c7⟩, c8⟩, c9⟩, c10⟩, c11⟩ := h
  have lx : X.env.scope.names.lookup x = some .local := by rw [g.sc]; exact isLocal_ok c4
  have ly : X.env.scope.names.lookup y = some .local := by rw [g.sc]; exact isLocal_ok c5
  refine PS.imp (ps_par (g.calm hq) g.nd (by rw [g.hN]; exact c1) (by rw [g.hN]; exact c2) c3 lx ly ha (swap2 g.knd lx ly (beq_iff_eq.mp c6) (beq_eq_false_iff_ne.mp (bnot_of c7)) c8 c9 (bnot_of c10) (bnot_of c11))) fun D σ H ⟨W, env, S, br, er, q⟩ => ?_
  simp only [ex] at q
  refine ⟨W, env, S, br, er, q.thnL er fun vs S1 W1 H1 ws l1 b1 r1 p1 => ?_⟩
  cases vs with
  | nil => simp [setMany, PoF] at p1
  | cons v vs => cases vs with
    | nil => simp [setMany, PoF] at p1
    | cons u vs => cases vs with
      | nil =>
        obtain ⟨w1, w2, rfl, r2, r3⟩ := r1.two
        simp only [setMany] at p1
        exact ⟨w1, w2, rfl, p1 W1 _ H1 (.refl W1) b1 (((er.mono l1).set i r2).set j r3)⟩
      | cons _ _ => simp [setMany, PoF] at p1
theorem snd_par3 (g : Good X T G C Wx Q) (hq : Q.calm = true) {i j m : Nat} {x y z : Str} {px py pz pt p2 pos : Pos} {a b c : Expr} {k k2 : Nat} {l : IR} (h : par3Ok Q i j m x y z px py pz a b c = true) (ha : PA X [a, b, c] (tEs T G C Wx l)) :
    PS X (.Assign [.Tuple [.Name x px, .Name y py, .Name z pz] k pt] (.Tuple [a, b, c] k2 p2) pos) (tS T G C Wx (.par [i, j, m] l)) := by
  unfold par3Ok at h
  simp only [Bool.and_eq_true, decide_eq_true_eq] at h
  obtain ⟨⟨⟨⟨⟨⟨⟨⟨⟨⟨⟨⟨⟨⟨⟨⟨⟨⟨c1, c2⟩, c3⟩, c4⟩, c5⟩, c6⟩, c7⟩, c8⟩, c9⟩, c10⟩, c11⟩, c12⟩, c13⟩, c14⟩, c15⟩, c16⟩, c17⟩, c18⟩, c19⟩ := h
  have lx : X.env.scope.names.lookup x = some .local := by rw [g.sc]; exact isLocal_ok c7
  have ly : X.env.scope.names.lookup y = some .local := by rw [g.sc]; exact isLocal_ok c8
  have lz : X.env.scope.names.lookup z = some .local := by rw [g.sc]; exact isLocal_ok c9
  refine PS.imp (ps_par3 (g.calm hq) g.nd (by rw [g.hN]; exact c1) (by rw [g.hN]; exact c2) (by rw [g.hN]; exact c3) c4 c5 c6 lx ly lz ha (swap3 g.knd lx ly lz (beq_iff_eq.mp c10) (beq_iff_eq.mp c11) (beq_eq_false_iff_ne.mp (bnot_of c12)) (beq_eq_false_iff_ne.mp (bnot_of c13)) (beq_eq_false_iff_ne.mp (bnot_of c14)) c15 c16 c17 (bnot_of c18) (bnot_of c19))) fun D σ H ⟨W, env, S, br, er, q⟩ => ?_
  simp only [ex] at q
  refine ⟨W, env, S, br, er, q.thnL er fun vs S1 W1 H1 ws l1 b1 r1 p1 => ?_⟩
  cases vs with
  | nil => simp [setMany, PoF] at p1
  | cons v vs => cases vs with
    | nil => simp [setMany, PoF] at p1
    | cons u vs => cases vs with
      | nil => simp [setMany, PoF] at p1
      | cons t vs => cases vs with
        | nil =>
          cases r1 with
          | cons r0 r1 =>
            obtain ⟨w1, w2, rfl, r2, r3⟩ := r1.two
            simp only [setMany] at p1
            exact ⟨_, w1, w2, rfl, p1 W1 _ H1 (.refl W1) b1 ((((er.mono l1).set i r0).set j r2).set m r3)⟩
        | cons _ _ => simp [setMany, PoF] at p1
/-! ### targets with subscripts among them -/
def TgOk (X : Cx) (T : Cs) (G : Gl) (C : CallF) (Wx : WXi) (Q : Sc) : Tg → List Expr → Prop
  | .nil, [] => True
  | .v i r, .Name x _ :: es => nameOk Q i x = true ∧ TgOk X T G C Wx Q r es
  | .ix o i r, .Subscript eo ei _ :: es => notSlice ei = true ∧ PE X eo (tE T G C Wx o) ∧ PE X ei (tE T G C Wx i) ∧ TgOk X T G C Wx Q r es
  | _, _ => False
def tTg (T : Cs) (G : Gl) (C : CallF) (Wx : WXi) (t : Tg) : TGs := fun vs σ H K => ∃ W env S xs, BR T W S H ∧ ER T Wx.ξ W env σ ∧ Rels T W xs vs ∧ PoF T Wx W { nx := K, rt := fun _ _ => False } (setTs G C t xs env S)
theorem tgs_each : ∀ {t : Tg} {es : List Expr} {env : Env}, TgOk X T G C Wx Q t es → (assignEach es env).map (·.2) = es.map (fun e => assign e env) ∧ (assignEach es env).findIdx? (·.1) = none ∧ (assignEach es env).length = es.length
  | .nil, [], _, _ => ⟨rfl, rfl, rfl⟩
  | .nil, _ :: _, _, h => h.elim
  | .v i r, [], _, h => h.elim
  | .ix o i r, [], _, h => h.elim
  | .v i r, e :: es, env, h => by
    cases e with
    | Name x p =>
      obtain ⟨i1, i2, i3⟩ := tgs_each (env := env) h.2
      refine ⟨?_, ?_, ?_⟩
      · show assign (.Name x p) env :: (assignEach es env).map (·.2) = _
        rw [i1]; rfl
      · show (((false, assign (.Name x p) env) :: assignEach es env)).findIdx? (·.1) = none
        rw [List.findIdx?_cons, i2]; rfl
      · show (assignEach es env).length + 1 = _
        rw [i3]; rfl
    | _ => exact h.elim
  | .ix o i r, e :: es, env, h => by
    cases e with
    | Subscript a b p =>
      obtain ⟨i1, i2, i3⟩ := tgs_each (env := env) h.2.2.2
      refine ⟨?_, ?_, ?_⟩
      · show assign (.Subscript a b p) env :: (assignEach es env).map (·.2) = _
        rw [i1]; rfl
      · show (((false, assign (.Subscript a b p) env) :: assignEach es env)).findIdx? (·.1) = none
        rw [List.findIdx?_cons, i2]; rfl
      · show (assignEach es env).length + 1 = _
        rw [i3]; rfl
    | _ => exact h.elim
theorem snd_tgs (g : Good X T G C Wx Q) : ∀ {t : Tg} {es : List Expr}, TgOk X T G C Wx Q t es → PGs X es (tTg T G C Wx t)
  | .nil, [], _ => PGs.imp pgs_nil fun vs σ H K ⟨W, env, S, xs, br, er, rr, q⟩ => by
    cases xs with
    | nil =>
      cases rr
      simp only [setTs] at q
      exact ⟨rfl, q W σ H (.refl W) br er⟩
    | cons _ _ => simp only [setTs] at q; exact q.elim
  | .nil, _ :: _, h => h.elim
  | .v i r, [], h => h.elim
  | .ix o i r, [], h => h.elim
  | .v i r, e :: es, h => by
    cases e with
    | Name x p =>
      refine PGs.imp (pgs_cons (nameOk_pg g h.1) (snd_tgs g h.2) rfl) fun vs σ H K ⟨W, env, S, xs, br, er, rr, q⟩ => ?_
      cases rr with
      | nil => simp only [setTs] at q; exact q.elim
      | cons r1 rr =>
        simp only [setTs] at q
        exact ⟨_, _, rfl, W, _, S, _, br, er.set i r1, rr, q⟩
    | _ => exact h.elim
  | .ix o i r, e :: es, h => by
    cases e with
    | Subscript a b p =>
      obtain ⟨h1, h2, h3, h4⟩ := h
      refine PGs.imp (pgs_cons (snd_subT g h1 h2 h3) (snd_tgs g h4) rfl) fun vs σ H K ⟨W, env, S, xs, br, er, rr, q⟩ => ?_
      cases rr with
      | nil => simp only [setTs] at q; exact q.elim
      | @cons x v xs vs r1 rr =>
        simp only [setTs] at q
        refine ⟨_, _, rfl, W, env, S, x, br, er, r1, ?_⟩
        cases ho : ev G C o env S with
        | ok ov S1 =>
          rw [ho] at q
          simp only [thn_ok] at q ⊢
          cases hi : ev G C i env S1 with
          | ok iv S2 =>
            rw [hi] at q
            simp only [thn_ok] at q ⊢
            cases hs : setIdxV S2 ov iv x with
            | none => rw [hs] at q; exact q.elim
            | some S3 =>
              rw [hs] at q
              exact fun W2 σ2 H2 l2 b2 e2 => ⟨W2, env, S3, xs, b2, e2, rr.mono l2, PoF.up l2 q⟩
          | exc x S2 => rw [hi] at q; exact q
          | bad => rw [hi] at q; exact q
        | exc x S1 => rw [ho] at q; exact q
        | bad => rw [ho] at q; exact q
    | _ => exact h.elim
theorem setTs_plain : ∀ (t : Tg) (xs : List PV) (env : PEnv) (S : Store), (setTs G C t xs env S).plain = true
  | .nil, [], _, _ => rfl
  | .nil, _ :: _, _, _ => rfl
  | .v _ _, [], _, _ => rfl
  | .ix _ _ _, [], _, _ => rfl
  | .v i r, x :: xs, env, S => by simp only [setTs]; exact setTs_plain r xs _ S
  | .ix o i r, x :: xs, env, S => by
    simp only [setTs]
    refine thn_plain fun ov S1 => thn_plain fun iv S2 => ?_
    split
    · exact setTs_plain r xs _ _
    · rfl
theorem tgOk_len : ∀ {t : Tg} {es : List Expr}, TgOk X T G C Wx Q t es → t.len = es.length
  | .nil, [], _ => rfl
  | .nil, _ :: _, h => h.elim
  | .v i r, [], h => h.elim
  | .ix o i r, [], h => h.elim
  | .v i r, e :: es, h => by
    cases e with
    | Name x p => show r.len + 1 = es.length + 1; rw [tgOk_len h.2]
    | _ => exact h.elim
  | .ix o i r, e :: es, h => by
    cases e with
    | Subscript a b p => show r.len + 1 = es.length + 1; rw [tgOk_len h.2.2.2]
    | _ => exact h.elim
theorem snd_setT (g : Good X T G C Wx Q) (hq : Q.calm = true) {t : Tg} {es : List Expr} {e : IR} {x : Expr} {k : Nat} {p pos : Pos} (ht : TgOk X T G C Wx Q t es) (hn : notComp x = true) (hp : swappedStores [.Tuple es k p] x X.env = pure none) (hx : PE X x (tE T G C Wx e)) :
    PS X (.Assign [.Tuple es k p] x pos) (tS T G C Wx (.setT t e)) := by
  obtain ⟨_, h2, h3⟩ := tgs_each (env := X.env) ht
  refine PS.imp (ps_asg hx (pg_tup (n := es.length) (g.calm hq) (snd_tgs g ht) h3 h2) (show swapsWithSole [.Tuple es k p] x pos.line X.env = pure false from swap_no (t := some (.Tuple es k p)) (n := pos.line) (env := X.env) hn) hp rfl) fun D σ H ⟨W, env, S, br, er, q⟩ => ?_
  simp only [ex] at q
  refine ⟨W, env, S, br, er, q.thn er fun v S1 W1 H1 w l1 b1 r1 p1 => ?_⟩
  cases r1 with
  | @tup a xs vs h rr =>
    simp only at p1
    split at p1
    · rename_i hl
      exact ⟨a, vs, rfl, g.hK ▸ (TupAt.upw b1.frz h).sq, by rw [← rr.length, hl, tgOk_len ht], W1, env, S1, xs, b1, er.mono l1, rr, p1.weak (setTs_plain _ _ _ _) rfl⟩
    · exact p1.elim
  | _ => exact p1.elim
/-! ### loops -/
theorem snd_for (g : GoodS X T G C Wx Q) (hq : Q.calm = true) {p : Pat} {it : IR} {b : IS} {tp : Bool} {tg iter : Expr} {body : List Stmt} {pos : Pos} (hi : PI X tg iter (tI T G C Wx tp it)) (htp : tp = true → patTup p = true) (hp : PG X tg (tP T Wx.ξ p)) (hb : PSs X body (tS T G C Wx b)) (hs : notSet iter = true) :
    PS X (.For tg iter body [] pos) (tS T G C Wx (.for p it b)) := by
  refine PS.imp (ps_for g.pas (g.calm hq) hi hp hb (fold_no hs)) fun D σ H ⟨W, env, S, br, er, q⟩ => ?_
  simp only [ex] at q
  refine ⟨W, env, S, br, er, ?_⟩
  cases hit : evs G C it env S with
  | exc x S1 => rw [hit] at q; exact fun W2 H2 c d l b r => q W2 σ H2 c d l b (er.mono l) r
  | bad => rw [hit] at q; exact q
  | ok l S1 =>
    rw [hit] at q
    simp only [thn_ok] at q
    cases l with
    | nil => exact q.elim
    | cons gv xs =>
      simp only at q
      refine ⟨gv, xs, rfl, fun W1 H1 J l1 b1 iok => ?_⟩
      let Pv : Nat → St → Hp → Prop := fun i σ2 H2 => i ≤ xs.length ∧ ∃ W2 S2 env2, W1.le W2 ∧ BR T W2 S2 H2 ∧ ER T Wx.ξ W2 env2 σ2 ∧ PoF T Wx W2 D (forL p (ex G C b) gv (vw S1 gv) (xs.drop i) env2 S2)
      refine ⟨fun i m σ2 H2 => m = xs.length - i ∧ Pv i σ2 H2, ⟨xs.length, by simp, Nat.zero_le _, W1, S1, env, .refl W1, b1, er.mono l1, by rw [List.drop_zero]; exact PoF.up l1 q⟩, ?_⟩
      rintro i m σ2 H2 ⟨rfl, hi, W2, S2, env2, le, b2, e2, pp⟩
      cases hx : xs.drop i with
      | nil =>
        rw [hx] at pp
        simp only [forL] at pp
        split at pp
        · rename_i hst
          have hl : i = xs.length := by
            have := congrArg List.length hx
            rw [List.length_drop, List.length_nil] at this
            omega
          subst hl
          exact .inl ⟨iok.stop W2 S2 H2 le.sub b2 hst, pp W2 σ2 H2 (.refl W2) b2 e2⟩
        · exact pp.elim
      | cons x rest =>
        rw [hx] at pp
        have hlt : i < xs.length := by
          have := congrArg List.length hx
          rw [List.length_drop, List.length_cons] at this
          omega
        have hxi : xs[i]? = some x := by
          have := congrArg (fun l => l[0]?) hx
          simpa using this
        have hrest : xs.drop (i + 1) = rest := by
          rw [← List.drop_drop, hx]; rfl
        simp only [forL] at pp
        split at pp
        · rename_i hst
          split at pp
          · exact pp.elim
          · rename_i env' hbd
            refine .inr ⟨iok.go i W2 S2 H2 le.sub b2 hst hlt, Pv (i + 1), fun σ' H' p' => ⟨xs.length - (i + 1), by omega, rfl, p'⟩, fun v H' yl => ?_⟩
            obtain ⟨W3, l3, b3, rel⟩ := iok.yld i W2 S2 H2 v H' x le.sub b2 hst hxi yl
            refine ⟨W3, env2, x, env', e2.mono l3, b3.frz, rel.imp id (fun h => ⟨htp h.1, h.2⟩), hbd, fun σ3 er3 _ => ⟨W3, env', S2, b3, er3, ?_⟩⟩
            have pp := PoF.up l3 pp
            cases hbody : ex G C b env' S2 with
            | nx env3 S3 =>
              rw [hbody] at pp
              exact fun W4 σ4 H4 l4 b4 e4 => ⟨hlt, W4, S3, env3, le.trans (l3.trans l4), b4, e4, by rw [hrest]; exact PoF.up l4 pp⟩
            | rt v S3 => rw [hbody] at pp; exact pp
            | bk env3 S3 => rw [hbody] at pp; exact pp
            | xc x env3 S3 => rw [hbody] at pp; exact pp
            | bad => rw [hbody] at pp; exact pp
        · exact pp.elim
theorem snd_while (g : GoodS X T G C Wx Q) {c : IR} {b : IS} {ec : Expr} {body : List Stmt} {pos : Pos} (hc : PT X ec (tT T G C Wx c)) (hb : PSs X body (tS T G C Wx b)) : PS X (.While ec body [] pos) (tS T G C Wx (.while c b)) := by
  refine PS.imp (ps_while g.pas hc hb) fun D σ H ⟨W, env, S, br, er, q⟩ => ?_
  simp only [ex] at q
  refine ⟨fun m σ2 H2 => ∃ W2 S2 env2, BR T W2 S2 H2 ∧ ER T Wx.ξ W2 env2 σ2 ∧ PoF T Wx W2 D (whileL (ev G C c) (ex G C b) m env2 S2), ⟨whileMost, W, S, env, br, er, q⟩, ?_⟩
  rintro m σ2 H2 ⟨W2, S2, env2, b2, e2, pp⟩
  cases m with
  | zero => exact pp.elim
  | succ m =>
    simp only [whileL] at pp
    refine ⟨W2, env2, S2, b2, e2, PoF.test (D := D) (f := fun k S1 => if k = true then (match ex G C b env2 S1 with
      | .nx env2 S2 => whileL (ev G C c) (ex G C b) m env2 S2
      | .bk env2 S2 => .nx env2 S2
      | f => f) else .nx env2 S1) e2 ?_ fun k S3 W3 H3 l3 b3 p3 => ?_⟩
    · refine (congrArg (PoF T Wx W2 D) (congrArg (Out.thn _ env2) ?_)).mp pp
      funext v S1
      cases truthV S1 v with
      | none => rfl
      | some k => cases k <;> rfl
    · cases k with
      | false => rw [if_neg Bool.false_ne_true] at p3 ⊢; exact p3 W3 σ2 H3 (.refl W3) b3 (e2.mono l3)
      | true =>
        rw [if_pos rfl] at p3 ⊢
        refine ⟨fun σ' H' => ∃ W2 S2 env2, BR T W2 S2 H' ∧ ER T Wx.ξ W2 env2 σ' ∧ PoF T Wx W2 D (whileL (ev G C c) (ex G C b) m env2 S2), fun σ' H' h => ⟨m, Nat.lt_succ_self m, h⟩, W3, env2, S3, b3, e2.mono l3, ?_⟩
        cases hbody : ex G C b env2 S3 with
        | nx env3 S4 =>
          rw [hbody] at p3
          exact fun W4 σ4 H4 l4 b4 e4 => ⟨W4, S4, env3, b4, e4, PoF.up l4 p3⟩
        | rt v S4 => rw [hbody] at p3; exact p3
        | bk env3 S4 => rw [hbody] at p3; exact p3
        | xc x env3 S4 => rw [hbody] at p3; exact p3
        | bad => rw [hbody] at p3; exact p3
end
end RF
set_option maxHeartbeats 1000000
/-! Fu: an own error is made: its __init__ says super().__init__(), then stores its fields. -/
namespace RF
open PySem L2
open PySem.HandSPX (excO)
theorem asgOk_cons {self f p : Str} {st : Stmt} {body : List Stmt} {l : List (Str × Str)} (h : AsgOk self (st :: body) ((f, p) :: l) = true) :
    ∃ q1 q2 q3 q4, st = .Assign [.Attribute (.Name self q1) f q2] (.Name p q3) q4 ∧ AsgOk self body l = true := by
  unfold AsgOk at h
  split at h
  · rename_i e1 e2; cases e1
  · rename_i s q1 f' q2 p' q3 q4 r f2 p2 l2 e1 e2
    cases e1; cases e2
    simp only [Bool.and_eq_true, beq_iff_eq] at h
    obtain ⟨⟨⟨rfl, rfl⟩, rfl⟩, h⟩ := h
    exact ⟨_, _, _, _, rfl, h⟩
  · cases h
theorem XInit.pa {K : PySem.W.Frag} {prog : Program} {C fI cc ca : Addr} {fd : FuncData} {ps : List Str} {me : Str} {asg : List (Str × Str)} (XI : XInit K prog C fI cc ca fd ps me asg) {q : Str × Str} (h : q ∈ asg) : q.2 ∈ ps := by
  have h1 : q.2 ∈ asg.map (·.2) := List.mem_map_of_mem h
  rw [XI.pt] at h1
  exact List.mem_of_mem_tail h1
section
variable {prog : Program} {w : World} {A : Around} {E : Value → Shared → Prop} {K : PySem.W.Frag}
theorem meth_form0 {o : Expr} {m : Str} {apos pos : Pos} {env : Env} (hline : (apos.endLine == pos.line) = true) :
    eval (.Call (.Attribute o m apos) [] [] pos) env = (do
      let ov ← attributeBase o m env (eval o env)
      standAt apos.atName
      let (f, first) ← holding [ov] (getMethod ov m (do return (← importBound o env).getD true))
      callWith pos f first (backTo pos (starEach [] env)) []) := by
  have hpos : methodCallPos true o env apos pos = pure pos := by
    unfold methodCallPos
    rw [hline]; rfl
  rw [arm_eval_Call]
  refine bind_congr fun ov => bind_congr fun _ => ?_
  have hform : methodCallForm (([] : List Expr).length + ([] : List Keyword).length) (backTo pos (starEach [] env)) (backToKw pos (keywordEach [] env)) = true := by rfl
  unfold methodCall
  rw [hform, hpos]
  simp only [calleeOf, if_true, pure_bind]
  rfl
/-- the bound __init__ of ValueError is called -/
theorem call_mwVE {nm q : Str} {C N : Addr} {bs bm : List Value} {hdct : Bool} {sn : List Str} {sub : List Value} {ab : Bool} {col : Option Bool} {dd : Option Addr} {k0 k1 k2 k3 k5 : Option Value}
    {h : Heap} {g : Array GenState} {d : Drawn} {t : Nat} {os : OsState} {u e t0 : Addr} {Q : Value → Shared → Prop}
    (hC : h.get? C = some (excClassObj nm q C N bs bm hdct sn sub ab col dd k0 k1 k2 k3 k5 "ValueError.__new__")) (he : h.get? e = some (excO C t0)) (hu : h.get? u = some (PySem.W.kxs_mw "ValueError.__init__" e))
    (hq : ∀ h' t1, (∀ b o, b ≠ e → h.get? b = some o → h'.get? b = some o) → h'.get? e = some (excO C t1) → Q .none ⟨h', g, d, t, os⟩) :
    wpAny (model prog w) A (PySem.call (.ref u) []) Q E ⟨h, g, d, t, os⟩ := by
  refine wpAny_call (codeAny_of_tree ?_)
  show wpAny _ A.in1 (callAny (.ref u) ⟨[], []⟩) _ _ _
  simp only [callAny]
  refine wpAny_bind (wpAny_load hu ?_)
  simp only [PySem.W.kxs_mw, show (Value.type "method-wrapper" == Value.type "method" || Value.type "method-wrapper" == Value.type "builtin_function_or_method" || Value.type "method-wrapper" == Value.type "method-wrapper") = true by decide, if_true]
  refine PySem.W.KFB.if_so (by decide) ?_
  refine wpAny_bind (ESX.check_bound PySem.F.excBase_ValueError hC he rfl ?_)
  refine wpAny_bind (wpAny_pure (wpAny_pure ?_))
  refine ⟨Code.quiet_builtin _ (by decide +kernel), codeAny_builtin PySem.F.excBase_ValueError.initEntry ?_⟩
  rw [Around.under_plainId PySem.F.excBase_ValueError.init.plain _]
  wp_walk
  refine hq _ h.objs.size (fun b o hb ho => ?_) ?_
  · rw [Heap.get?_update_other _ _ (Ne.symm hb)]
    exact Heap.get?_push_of_some _ ho
  · rw [Heap.get?_update_self _ (Heap.get?_push_of_some _ he) rfl]
    rfl
/-- the fields that are stored, one behind the other -/
theorem asg_walk {C fI cc ca : Addr} {fd : FuncData} {ps : List Str} {self : Str} {asg : List (Str × Str)} (XI : XInit K prog C fI cc ca fd ps self asg) {L e t1 : Addr} {m : Str → Option Value} {g : Array GenState} {d : Drawn} {os : OsState} {base : Heap} {R : Flow → Shared → Prop}
    (hL : base.get? L ≠ none) (hKe : K.lookup e = none) (hKb : ∀ a o, K.lookup a = some o → a ≠ e → base.get? a ≠ none) (hLe : L ≠ e) (hself : m self = some (.ref e)) :
    ∀ (l done : List (Str × Str)) (body : List Stmt) (h : Heap) (t : Nat) (dx : Addr) (val : Str → Value), AsgOk self body l = true → done ++ l = asg → (∀ q, q ∈ asg → m q.2 = some (val q.2)) → K.In h → h.Ns L m → (∀ b o, b ≠ e → base.get? b = some o → h.get? b = some o) →
      ((done = [] ∧ h.get? e = some (excO C t1)) ∨ (base.get? dx = none ∧ e < dx ∧ dx ≠ L ∧ h.get? e = some { cls := .ref C, dict := some dx, data := .fields #[.ref t1, .none, .none, .none, .bool false, .none] } ∧ ∃ mA, h.Ns1 dx mA ∧ ∀ y, mA y = (done.map fun q => (q.1, val q.2)).lookup y)) →
      (∀ h' t' dx, (∀ b o, b ≠ e → base.get? b = some o → h'.get? b = some o) → base.get? dx = none → e < dx → h'.get? e = some { cls := .ref C, dict := some dx, data := .fields #[.ref t1, .none, .none, .none, .bool false, .none] } →
        (∃ mA, h'.Ns1 dx mA ∧ ∀ y, mA y = (asg.map fun q => (q.1, val q.2)).lookup y) → R .next ⟨h', g, d, t', os⟩) →
      wpAny (model prog w) A (execs body (callEnv fd L fI)) R E ⟨h, g, d, t, os⟩
  | [], done, body, h, t, dx, val, hb, hd, hv, hK, hns, hk, hst, hR => by
    cases body with
    | cons _ _ => simp [AsgOk] at hb
    | nil =>
      rw [List.append_nil] at hd
      subst hd
      rcases hst with ⟨e1, _⟩ | ⟨e1, e2, e3, e4, e5⟩
      · exact absurd e1 XI.ne
      · exact wpAny_execs_nil (hR h t dx hk e1 e2 e4 e5)
  | (f, p) :: l, done, body, h, t, dx, val, hb, hd, hv, hK, hns, hk, hst, hR => by
    have hmem : (f, p) ∈ asg := by rw [← hd]; simp
    have hp := XI.pa hmem
    have hsm : self ∈ ps := by
      have := XI.hd
      cases hps : ps with
      | nil => rw [hps] at this; cases this
      | cons a b => rw [hps] at this; cases this; exact List.mem_cons_self
    cases body with
    | nil => simp [AsgOk] at hb
    | cons st body =>
      obtain ⟨q1, q2, q3, q4, rfl, hb2⟩ := asgOk_cons hb
      have hkd : (callEnv fd L fI).scope.kind = .function := XI.kd
      have hlp : (callEnv fd L fI).kindOf p = some .local := XI.lc p hp
      have hls : (callEnv fd L fI).kindOf self = some .local := XI.lc self hsm
      have hm1 : ⟨h, g, d, t, os⟩ = (⟨h, g, d, t, os⟩ : Shared) := rfl
      obtain ⟨nm, q, N, bs, bm, sn, sub, ab, col, dd, k0, k1, k2, k3, k5, hC, hbm⟩ := XI.cl.cls
      have hcl : PySem.W.clsIn K C = some { name := nm, bases := bs, mro := .ref C :: bm, ns := N, qualname := q, hasDict := true, slotNames := sn, subclasses := sub, abstract := ab, collection := col, hasDel := false } := by unfold PySem.W.clsIn; rw [hC] <;> rfl
      have hno := XI.nof _ hmem
      have hnotin : ((done.map fun q => (q.1, val q.2)).lookup f) = none := by
        have hnd : ((done ++ (f, p) :: l).map (·.1)).Nodup := by rw [hd]; exact XI.sn
        have hf : f ∉ done.map (·.1) := by
          rw [List.map_append, List.map_cons] at hnd
          have := (List.nodup_append.mp hnd).2.2
          exact fun z => this f z f (List.mem_cons_self) rfl
        clear hd hst hnd hR
        induction done with
        | nil => rfl
        | cons a r ih =>
          have h1 : (f == a.1) = false := beq_eq_false_iff_ne.mpr fun z => hf (by rw [z]; simp)
          rw [List.map_cons, List.lookup_cons, h1]
          exact ih fun z => hf (by simp at z ⊢; exact .inr z)
      have next : ∀ h' t' dx', (∀ b o, b ≠ e → base.get? b = some o → h'.get? b = some o) → K.In h' → h'.Ns L m → base.get? dx' = none → e < dx' → dx' ≠ L → h'.get? e = some { cls := .ref C, dict := some dx', data := .fields #[.ref t1, .none, .none, .none, .bool false, .none] } →
          (∃ mA, h'.Ns1 dx' mA ∧ ∀ y, mA y = ((done ++ [(f, p)]).map fun q => (q.1, val q.2)).lookup y) → wpAny (model prog w) A (execs body (callEnv fd L fI)) R E ⟨h', g, d, t', os⟩ :=
        fun h' t' dx' a1 a2 a3 a4 a5 a6 a7 a8 => asg_walk XI hL hKe hKb hLe hself l (done ++ [(f, p)]) body h' t' dx' val hb2 (by rw [List.append_assoc]; exact hd) hv a2 a3 a1 (.inr ⟨a4, a5, a6, a7, a8⟩) hR
      have app : ∀ y, ((done ++ [(f, p)]).map fun q => (q.1, val q.2)).lookup y = if y = f then some (val p) else (done.map fun q => (q.1, val q.2)).lookup y := fun y => by
        rw [List.map_append, lookup_app]
        by_cases hy : y = f
        · subst hy
          rw [hnotin, if_pos rfl]
          show List.lookup y [(y, val p)] = _
          rw [List.lookup_cons, beq_self_eq_true]
        · rw [if_neg hy]
          cases hq : (done.map fun q => (q.1, val q.2)).lookup y with
          | some v => rfl
          | none =>
            show List.lookup y [(f, val p)] = _
            rw [List.lookup_cons, beq_eq_false_iff_ne.mpr hy]; rfl
      refine wpAny_execs_cons (plainObj_wpAny_Assign_Attribute (wpAny_Name (wpAny_loadName_local hkd hlp hns (hv _ hmem) ?_) (XI.dbg p hp)) rfl)
      refine wpAny_Name (wpAny_loadName_local hkd hls hns hself ?_) (XI.dbg self hsm)
      rcases hst with ⟨e0, he⟩ | ⟨e1, e2, e3, e4, mA, hA, hmA⟩
      · refine PySem.W.set_plain hK (ox := excO C t1) (od := none) ⟨he, rfl, rfl, trivial⟩ XI.cl.sa ?_
        refine PySem.HandSPX.exc_osa hK he hcl (show PySem.HandSPX.refsVE (.ref C :: bm) = true from hbm) rfl hno fun h' tk' dx' kk dn dne hx hn => ?_
        have hbd : base.get? dx' = none := by
          cases z : base.get? dx' with
          | none => rfl
          | some o =>
            have := Heap.lt_size (hk dx' o dne z)
            exact absurd (Nat.lt_of_lt_of_le this dn) (Nat.lt_irrefl _)
        have hdL : dx' ≠ L := fun z => hL (by rw [← z]; exact hbd)
        refine next h' _ dx' (fun b o hb2 hb3 => kk b o hb2 (hk b o hb2 hb3)) (fun a o ha => kk a o (fun z => ?_) (hK a o ha)) ?_ hbd (Nat.lt_of_lt_of_le (Heap.lt_size he) dn) hdL hx ⟨_, hn, fun y => ?_⟩
        · subst z
          rw [hKe] at ha; cases ha
        · obtain ⟨oL, es, ep, hL', r⟩ := hns
          exact ⟨oL, es, ep, kk L oL hLe hL', r⟩
        · rw [app]
          subst e0
          rfl
      · have hw : Within mA (done.map (·.1)) := fun y hy => by
          rw [hmA y] at hy
          clear hd hnotin hR next app hmA
          induction done with
          | nil => exact absurd rfl hy
          | cons a r ih =>
            rw [List.map_cons, List.lookup_cons] at hy
            cases hq : y == a.1 with
            | true => rw [beq_iff_eq.mp hq]; simp
            | false =>
              rw [hq] at hy
              exact List.mem_cons_of_mem _ (ih hy)
        have hz : (done.map (·.1)).length ≤ 1000 := by
          have h1 := XI.fw
          rw [← hd, List.length_append] at h1
          rw [List.length_map]; omega
        obtain ⟨oD, _, _, hoD, _, _⟩ := hA.count hw
        refine PySem.W.set_plain hK (ox := { cls := .ref C, dict := some dx, data := .fields #[.ref t1, .none, .none, .none, .bool false, .none] }) (od := some oD) ⟨e4, rfl, rfl, hoD⟩ XI.cl.sa ?_
        refine PySem.OEX.osa_old hK e4 hA hw (by rw [List.length_map] at hz ⊢; omega) hcl (show PySem.HandSPX.refsVE (.ref C :: bm) = true from hbm) rfl hno fun h' tk' kk hn => ?_
        have hKd : K.lookup dx = none := by
          cases z : K.lookup dx with
          | none => rfl
          | some o => exact absurd e1 (hKb dx o z (Nat.ne_of_gt e2))
        refine next h' _ dx (fun b o hb2 hb3 => kk b o (fun z => by subst z; rw [e1] at hb3; cases hb3) (hk b o hb2 hb3)) (fun a o ha => kk a o (fun z => ?_) (hK a o ha)) ?_ e1 e2 e3 ((kk e _ (Nat.ne_of_lt e2) e4)) ⟨_, hn, fun y => ?_⟩
        · subst z
          rw [hKd] at ha; cases ha
        · obtain ⟨oL, es, ep, hL', r⟩ := hns
          exact ⟨oL, es, ep, kk L oL (Ne.symm e3) hL', r⟩
        · rw [app]
          by_cases hy : y = f
          · rw [if_pos hy, if_pos hy]
          · rw [if_neg hy, if_neg hy]; exact hmA y
theorem xbody_cons {me : Str} {asg : List (Str × Str)} {body : List Stmt} (h : XBody me asg body = true) :
    ∃ p0 p1 apos cpos pos r, body = .Expr (.Call (.Attribute (.Call (.Name "super" p0) [] [] p1) "__init__" apos) [] [] cpos) pos :: r ∧ (apos.endLine == cpos.line) = true ∧ AsgOk me r asg = true := by
  unfold XBody at h
  split at h
  · rename_i sup p0 p1 ini apos cpos pos r
    simp only [Bool.and_eq_true, beq_iff_eq] at h
    obtain ⟨⟨⟨rfl, rfl⟩, h3⟩, h4⟩ := h
    exact ⟨_, _, _, _, _, _, rfl, by rw [h3]; exact beq_self_eq_true _, h4⟩
  · cases h
theorem lookup_mem : ∀ {l : List (Str × Value)} {p : Str} {v : Value}, l.lookup p = some v → p ∈ l.map (·.1)
  | [], _, _, h => by cases h
  | a :: l, p, v, h => by
    rw [List.lookup_cons] at h
    cases hq : p == a.1 with
    | true => rw [beq_iff_eq.mp hq]; simp
    | false => rw [hq] at h; exact List.mem_cons_of_mem _ (lookup_mem h)
theorem lookup_rev : ∀ {l : List (Str × Value)}, (l.map (·.1)).Nodup → ∀ p, l.reverse.lookup p = l.lookup p
  | [], _, _ => rfl
  | a :: l, nd, p => by
    rw [List.map_cons, List.nodup_cons] at nd
    have e1 : List.lookup p (a :: l) = if (p == a.1) = true then some a.2 else l.lookup p := by
      rw [List.lookup_cons]
      cases p == a.1 <;> rfl
    have e2 : List.lookup p [a] = if (p == a.1) = true then some a.2 else none := by
      rw [List.lookup_cons]
      cases p == a.1 <;> rfl
    rw [List.reverse_cons, lookup_app, lookup_rev nd.2 p, e1, e2]
    by_cases hq : (p == a.1) = true
    · rw [if_pos hq, if_pos hq]
      cases hv : l.lookup p with
      | none => rfl
      | some v => exact absurd (by rw [← beq_iff_eq.mp hq]; exact lookup_mem hv) nd.1
    · rw [if_neg hq, if_neg hq]
      cases l.lookup p <;> rfl
theorem boot_super : bootBuiltins "super" = some (.type "super") := by decide +kernel
/-- the __init__ of an own class of errors -/
theorem init_walk {C fI cc ca : Addr} {fd : FuncData} {ps : List Str} {me : Str} {asg : List (Str × Str)} (XI : XInit K prog C fI cc ca fd ps me asg) {mg mb : Str → Option Value} {s : Shared} {e t0 : Addr} {us : List Value} {args : Args} {R : Result → Shared → Prop}
    (hK : K.In s.heap) (hg : s.heap.Ns mainGlobals mg) (hmg : mg "super" = none) (hb : s.heap.Ns builtinsNs mb) (hmb : mb "super" = some (.type "super")) (lim : s.heap.NoLimit) (room : A.depth < recursionLimit)
    (he : s.heap.get? e = some (excO C t0)) (hKe : K.lookup e = none) (hgE : mainGlobals ≠ e) (hbE : builtinsNs ≠ e) (hbind : BindsTo s fd args (ps.zip (.ref e :: us))) (hl : us.length + 1 = ps.length)
    (hR : ∀ h' t' dx t1, (∀ b o, b ≠ e → s.heap.get? b = some o → h'.get? b = some o) → e < dx → h'.get? e = some { cls := .ref C, dict := some dx, data := .fields #[.ref t1, .none, .none, .none, .bool false, .none] } →
      (∃ mA, h'.Ns1 dx mA ∧ ∀ y, mA y = (asg.map fun q => (q.1, ((ps.zip (.ref e :: us)).lookup q.2).getD .none)).lookup y) → R (.ok (.ret .none)) ⟨h', s.gens, s.drawn, t', s.os⟩) :
    codeAny (model prog w) A (.call (.ref fI) args) R s := by
  obtain ⟨body, hbody, hX⟩ := XI.bd
  obtain ⟨p0, p1, apos, cpos, pos, rest, rfl, hline, hA⟩ := xbody_cons hX
  obtain ⟨oc, od, osl, hfn⟩ := XI.fn
  obtain ⟨sh, gens, drawn, toks, os⟩ := s
  have hloc : ∀ x ∈ ps.zip (Value.ref e :: us), fd.scope.names.lookup x.1 = some .local := fun x hx => XI.lc x.1 (List.of_mem_zip hx).1
  refine ks_codeAny_call_defAt room (hK _ _ hfn) rfl lim (PySem.W.codeRec_of hK XI.cin) hbody hbind XI.nc hloc (fun h₁ hns hk₁ => ?_) XI.co XI.ge XI.kd
  have hL : sh.objs.size ≠ e := Nat.ne_of_gt (Heap.lt_size he)
  -- the names
  have hlook : ∀ p, (ps.zip (Value.ref e :: us)).reverse.lookup p = (ps.zip (Value.ref e :: us)).lookup p := fun p => by
    refine lookup_rev ?_ p
    have : (ps.zip (Value.ref e :: us)).map (·.1) = ps := by
      rw [List.map_fst_zip]
      simp; omega
    rw [this]; exact XI.nd
  have hme : (ps.zip (Value.ref e :: us)).lookup me = some (.ref e) := by
    have := XI.hd
    cases hps : ps with
    | nil => rw [hps] at this; cases this
    | cons a b =>
      rw [hps] at this
      cases this
      rw [List.zip_cons_cons, List.lookup_cons, beq_self_eq_true]
  have hpar : ∀ q, q ∈ asg → (ps.zip (Value.ref e :: us)).lookup q.2 = some (((ps.zip (Value.ref e :: us)).lookup q.2).getD .none) := fun q hq => by
    have h1 := lookup_zip_some (us := Value.ref e :: us) (ps := ps) (k := q.2) (by simp; omega) (List.contains_iff_mem.mpr (XI.pa hq))
    cases z : (ps.zip (Value.ref e :: us)).lookup q.2 with
    | some v => rfl
    | none => rw [z] at h1; cases h1
  have hsm : me ∈ ps := by
    have := XI.hd
    cases hps : ps with
    | nil => rw [hps] at this; cases this
    | cons a b => rw [hps] at this; cases this; exact List.mem_cons_self
  -- super().__init__()
  obtain ⟨nm, q, N, bs, bm, sn, sub, ab, col, dd, k0, k1, k2, k3, k5, hC, hbm⟩ := XI.cl.cls
  obtain ⟨ca1, ca2, vs, ca3, tf, hca, hvs⟩ := XI.fil
  obtain ⟨ce1, ce2, ce3, hcc⟩ := XI.cel
  have hK1 : K.In h₁ := fun a o z => hk₁ a o (hK a o z)
  have he1 : h₁.get? e = some (excO C t0) := hk₁ _ _ he
  have I1 : PySem.W.InstAt h₁ e (excO C t0) C none := ⟨he1, rfl, rfl, trivial⟩
  have hpar0 : ∃ ar : Arg, (fd.params.posonlyargs ++ fd.params.args).head? = some ar ∧ ar.arg = me := by
    rw [XI.pl.po, List.nil_append]
    have h1 := XI.pl.ar
    have h2 := XI.hd
    cases z : fd.params.args with
    | nil => rw [z] at h1; subst h1; cases h2
    | cons ar r =>
      rw [z] at h1
      subst h1
      exact ⟨ar, rfl, Option.some.inj h2⟩
  obtain ⟨ar, har, hare⟩ := hpar0
  refine ks_wpAt_execs_cons (ks_wpAt_Expr_any (ks_wpAt_MethodCall (pl := (do return (← importBound (.Call (.Name "super" p0) [] [] p1) (callEnv fd sh.objs.size fI)).getD true)) ?_ (meth_form0 hline)) ?_ rfl)
  · refine ks_wpAt_super_base (fd := fd) (ar := ar) (cc := ca) (vs := vs) (tf := tf) XI.ks XI.kc (by decide) rfl (hK1 _ _ hfn) rfl har XI.cod (hK1 _ _ hca) rfl hvs (beq_self_eq_true _) XI.top ?_
    refine PySem.W.ks_loadName_global XI.kd XI.ks (Calls.loadGlobal_builtin (mg := mg) (mb := mb) (by show h₁.Ns fd.globals mg; rw [XI.glb]; exact hg.keeps hk₁) hmg (by show h₁.Ns fd.builtins mb; rw [XI.blt]; exact hb.keeps hk₁) hmb ⟨rfl, ?_⟩)
    refine wpAny_loadName_free (c := cc) XI.kd XI.kc (by show fd.closure.lookup _ = _; rw [XI.cls]; rfl) ⟨_, hK1 _ _ hcc, rfl⟩ ?_
    rw [hare]
    refine wpAny_loadName_local XI.kd (XI.lc me hsm) hns (by rw [hlook]; exact hme) ?_
    refine ks_wpAny_isType_cls (hK1 _ _ hC) rfl ⟨rfl, ?_⟩
    refine ks_wpAny_call_super (hK1 _ _ hC) rfl he1 rfl (fun c z => by cases z) (PySem.W.looks_mroIn hK1 XI.mro) fun h2 e2 kk2 => ?_
    have hK2 : K.In h2 := fun a o z => kk2 a o (hK1 a o z)
    have I2 : PySem.W.InstAt h2 e (excO C t0) C none := ⟨kk2 _ _ he1, rfl, rfl, trivial⟩
    have hcl : PySem.W.clsIn K C = some { name := nm, bases := bs, mro := .ref C :: bm, ns := N, qualname := q, hasDict := true, slotNames := sn, subclasses := sub, abstract := ab, collection := col, hasDel := false } := by unfold PySem.W.clsIn; rw [hC] <;> rfl
    have hsup := XI.sup
    unfold PySem.W.ks_superIn at hsup
    rw [hcl] at hsup
    refine PySem.W.kxs_getMethod PySem.W.kxs_ValueError e2 (PySem.W.looks_opaque hK2 XI.opq) (fun A Q E s k z => wpAny_bind ((PySem.W.looks_clsIn hK2 hcl) A _ E s k (wpAny_pure z))) rfl hK2 hsup (I2.type.andThen (PySem.W.looks_subIn hK2 XI.sve)) (PySem.W.ks_ne hK2 I2 hcl) (by decide) ?_
    refine PySem.W.kxs_callWith (i := "ValueError.__init__") (x := e) rfl (PyProof.Rows.evalArgs_empty ⟨Heap.get?_push_size _ rfl, ?_⟩)
    refine call_mwVE (t0 := t0) (Heap.get?_push_of_some _ (hK2 _ _ hC)) (Heap.get?_push_of_some _ I2.at_) (Heap.get?_push_size _ rfl) fun h3 t3 kk3 he3 => ?_
    show wpAt _ _ _ _ _ _ _
    refine wpAt_of_wpAny ?_
    have up : ∀ b o, b ≠ e → h₁.get? b = some o → h3.get? b = some o := fun b o hb ho => kk3 b o hb (Heap.get?_push_of_some _ (kk2 b o ho))
    refine asg_walk XI (base := h₁) (L := sh.objs.size) (e := e) (t1 := t3) (m := fun x => (ps.zip (Value.ref e :: us)).reverse.lookup x) ?_ hKe (fun a o z hz w => by rw [hK1 a o z] at w; cases w) hL (by rw [hlook]; exact hme) asg [] rest h3 _ 0
      (fun p => ((ps.zip (Value.ref e :: us)).lookup p).getD .none) hA rfl (fun q hq => by rw [hlook]; exact hpar q hq) (fun a o z => up a o (fun y => by subst y; rw [hKe] at z; cases z) (hK1 a o z)) ?_ up (.inl ⟨rfl, he3⟩) fun h4 t4 dx kk4 hd4 hne4 he4 hA4 => ?_
    · obtain ⟨o, _, _, ho, _⟩ := hns
      rw [ho]; exact fun z => by cases z
    · obtain ⟨oL, es, ep, hL', r⟩ := hns
      exact ⟨oL, es, ep, up _ oL hL hL', r⟩
    · exact hR h4 t4 dx t3 (fun b o hb ho => kk4 b o hb (hk₁ b o ho)) hne4 he4 hA4
  · show interactive (callEnv fd sh.objs.size fI) = false
    unfold interactive
    have : (callEnv fd sh.objs.size fI).scope.kind = .function := XI.kd
    rw [this]; rfl
theorem fm_congr {α β : Type} {f g : α → Option β} : ∀ {l : List α}, (∀ x, x ∈ l → f x = g x) → l.filterMap f = l.filterMap g
  | [], _ => rfl
  | a :: l, h => by rw [List.filterMap_cons, List.filterMap_cons, h a List.mem_cons_self, fm_congr fun x hx => h x (List.mem_cons_of_mem _ hx)]
theorem fm_zip : ∀ {ps : List Str} {us : List Value}, ps.Nodup → us.length = ps.length → (ps.filterMap fun n => ((ps.zip us).lookup n).map fun v => (n, v)) = ps.zip us
  | [], us, _, _ => by simp
  | p :: ps, [], _, h => by simp at h
  | p :: ps, u :: us, nd, h => by
    have nd' := List.nodup_cons.mp nd
    rw [List.zip_cons_cons, List.filterMap_cons]
    have e0 : List.lookup p ((p, u) :: ps.zip us) = some u := by rw [List.lookup_cons, beq_self_eq_true]
    rw [e0]
    simp only [Option.map_some]
    have e1 : (ps.filterMap fun n => (List.lookup n ((p, u) :: ps.zip us)).map fun v => (n, v)) = ps.filterMap fun n => ((ps.zip us).lookup n).map fun v => (n, v) := fm_congr fun n hn => by
      have : (n == p) = false := beq_eq_false_iff_ne.mpr fun z => nd'.1 (by rw [← z]; exact hn)
      rw [List.lookup_cons, this]
    rw [e1, fm_zip nd'.2 (by simpa using h)]
theorem bind_full {fd : FuncData} {ps : List Str} {us : List Value} (p : Plain fd ps) (hd : fd.defaults = .none) (nd : ps.Nodup) (hl : us.length = ps.length) : bindArgs fd ⟨us, []⟩ = pure (ps.zip us) := by
  obtain ⟨k, e1, e2⟩ := bind_gen (kws := []) p trivial (Nat.le_of_eq hl)
  rw [e1, hd, seq_none, pure_bind, e2 none (Nat.zero_le _) ?_]
  · congr 1
    have : ps.zip us ++ [] ++ (ps.drop (ps.length - ((none : Option (Array Value)).getD #[]).toList.length)).zip ((none : Option (Array Value)).getD #[]).toList = ps.zip us := by simp
    rw [this]
    exact fm_zip nd hl
  · refine List.filter_eq_nil_iff.mpr fun n hn => ?_
    have hn : n ∈ ps := List.mem_of_mem_take hn
    rw [List.append_nil]
    have := lookup_zip_some (us := us) (k := n) (ps := ps) (by omega) (List.contains_iff_mem.mpr hn)
    cases q : (ps.zip us).lookup n with
    | some v => simp
    | none => rw [q] at this; cases this
theorem relO_zip : ∀ {ns : List Str} {vs : List V} {us : List Value}, Vals vs us → ∀ f, RelO ((ns.zip vs).lookup f) ((ns.zip us).lookup f)
  | [], _, _, _, _ => trivial
  | _ :: _, _, _, .nil, _ => trivial
  | n :: ns, _, _, .cons r t, f => by
    rw [List.zip_cons_cons, List.zip_cons_cons, List.lookup_cons, List.lookup_cons]
    cases f == n with
    | true => exact r
    | false => exact relO_zip t f
theorem asg_zip : ∀ {asg : List (Str × Str)} {pt : List Str} {us : List Value}, asg.map (·.2) = pt → pt.Nodup → us.length = pt.length → (asg.map fun q => (q.1, ((pt.zip us).lookup q.2).getD .none)) = (asg.map (·.1)).zip us
  | [], pt, us, h, _, hl => by
    subst h; simp
  | (f, p) :: asg, [], us, h, _, _ => by simp at h
  | (f, p) :: asg, p' :: pt, [], h, _, hl => by simp at hl
  | (f, p) :: asg, p' :: pt, u :: us, h, nd, hl => by
    rw [List.map_cons] at h
    cases h
    have nd' := List.nodup_cons.mp nd
    have e0 : List.lookup p ((p, u) :: (asg.map (·.2)).zip us) = some u := by rw [List.lookup_cons, beq_self_eq_true]
    rw [List.map_cons, List.map_cons, List.zip_cons_cons, List.zip_cons_cons, e0, ← asg_zip rfl nd'.2 (by simpa using hl)]
    show (f, u) :: _ = (f, u) :: _
    congr 1
    refine List.map_congr_left fun q hq => ?_
    have : (q.2 == p) = false := beq_eq_false_iff_ne.mpr fun z => nd'.1 (by rw [← z]; exact List.mem_map_of_mem (f := fun q => q.2) hq)
    rw [List.lookup_cons, this]
/-- an own error is made -/
theorem pmk_x {X : Cx} {C fI cc ca : Addr} {fd : FuncData} {ps : List Str} {me : Str} {asg : List (Str × Str)} (XI : XInit X.K X.prog C fI cc ca fd ps me asg) {k : Nat} (hr : Room (k + 1) X.A) {x : Str} {p pos : Pos} {es : List Expr} {t : TA} (hx : okName x = true) (hg : L2.Gl X x) (hm : X.mg x = some (.ref C)) (hms : X.mg "super" = none)
    (ha : PA X es t) (hn : noStars es = true) (hne : es ≠ []) :
    PMk X (.Call (.Name x p) es [] pos) (fun σ H K => t σ H fun vs H1 => vs.length + 1 = ps.length ∧ ∀ dx, H1 dx = none → K (.ref C) (some dx) (upd H1 dx (.xd ((asg.map (·.1)).zip vs)))) := by
  intro pins s σ H K I h
  obtain ⟨nm, q, N, bs, bm, sn, sub, ab, col, dd, k0, k1, k2, k3, k5, hC, hbm⟩ := XI.cl.cls
  refine wpAny_Call_Name_kw (ld_glob I hg hm ?_ (okName_d hx))
  cases es with
  | nil => exact absurd rfl hne
  | cons e1 es =>
    have hn2 := hn
    simp only [noStars, Bool.and_eq_true] at hn2
    refine PySem.W.callWith_K (h₀ := X.base) I.ok.mod.kin XI.cl.kC (thn (ha.run pos pins s σ H _ I h) fun us s1 ⟨vs, H1, I1, r1, hz, q1⟩ => ⟨I1.kIn, ?_⟩) (star_no hn2.1) (noStars_any hn2.2)
    show wpAny _ _ (PySem.call (.ref C) us) _ _ _
    obtain ⟨hp, gs, dr, tk, os⟩ := s1
    have hus : us.length ≤ sizeLine := by
      have h1 := XI.fw
      have h2 := congrArg List.length XI.pt
      rw [List.length_map, List.length_tail] at h2
      rw [← r1.length, sizeLine_eq]
      omega
    have kk : ∀ b o, hp.get? b = some o → ((hp.push (PySem.W.kdv_tup us)).push (excO C hp.objs.size)).get? b = some o := fun b o e => Heap.get?_push_of_some _ (Heap.get?_push_of_some _ e)
    have hget : ((hp.push (PySem.W.kdv_tup us)).push (excO C hp.objs.size)).get? (hp.objs.size + 1) = some (excO C hp.objs.size) := by
      have := Heap.get?_push_size (hp.push (PySem.W.kdv_tup us)) (o := excO C hp.objs.size) rfl
      rwa [Heap.size_push] at this
    have fresh : ∀ {b : Addr} {o : Obj}, hp.get? b = some o → b ≠ hp.objs.size + 1 := fun {b o} z => Nat.ne_of_lt (Nat.lt_succ_of_lt (Heap.lt_size z))
    have hKe : X.K.lookup (hp.objs.size + 1) = none := by
      cases z : X.K.lookup (hp.objs.size + 1) with
      | none => rfl
      | some o => exact absurd rfl (fresh (I1.kIn _ _ z))
    obtain ⟨mb, hmb1, hmb2⟩ := I1.mod.blt
    have hgl : hp.Ns mainGlobals X.mg := I1.mod.glob.keeps I1.bk
    have hbl : hp.Ns builtinsNs mb := hmb1.keeps I1.bk
    have nsne : ∀ {b : Addr} {m : Str → Option Value}, hp.Ns b m → b ≠ hp.objs.size + 1 := fun {b m} z => by
      obtain ⟨o, _, _, ho, _⟩ := z
      exact fresh ho
    have hlu : us.length + 1 = ps.length := by rw [← r1.length]; exact hz
    refine wpAny_call (PySem.HandSPX.call_own PySem.F.excBase_ValueError (fun Y => PySem.HandSPX.refsVE_contains Y bm hbm) (I1.kIn _ _ hC) (PySem.W.looks_findIn I1.kIn XI.ini) (fun self => PySem.W.bind_fn I1.kIn self XI.tI) hus ?_)
    refine init_walk XI (mg := X.mg) (mb := mb) (us := us) (t0 := hp.objs.size) (fun a o z => kk a o (I1.kIn a o z)) (hgl.keeps kk) hms (hbl.keeps kk) ((hmb2 _ (by decide)).trans boot_super) (I1.nolimit.keeps kk) (hr.make C us []).depth hget hKe (nsne hgl) (nsne hbl)
      (.of_eq (bind_full XI.pl XI.dv XI.nd (by rw [List.length_cons]; exact hlu))) hlu fun h' t' dx t1 hk' hlt he' ⟨mA, hA, hmA⟩ => ?_
    show Value.none = Value.none ∧ _
    refine ⟨rfl, ?_⟩
    obtain ⟨Gh, g1', g2'⟩ := restrict h' fun b => decide (b ≠ hp.objs.size + 1)
    have gk : ∀ b, b ≠ hp.objs.size + 1 → Gh.get? b = h'.get? b := fun b hb => g1' b (decide_eq_true hb)
    have ge : Gh.get? (hp.objs.size + 1) = none := g2' _ (by simp)
    have hd1 : hp.objs.size ≤ dx := Nat.le_of_lt (Nat.lt_trans (Nat.lt_succ_self _) hlt)
    have hps : ps = me :: ps.tail := by
      have := XI.hd
      cases z : ps with
      | nil => rw [z] at this; cases this
      | cons a b => rw [z] at this; cases this; rfl
    have hfs : ∀ y, mA y = ((asg.map (·.1)).zip us).lookup y := fun y => by
      rw [hmA y, ← asg_zip XI.pt (XI.nd.sublist (List.tail_sublist _)) (by rw [List.length_tail]; omega)]
      congr 1
      refine List.map_congr_left fun q hq => ?_
      have hq2 : q.2 ∈ ps.tail := by rw [← XI.pt]; exact List.mem_map_of_mem (f := fun q => q.2) hq
      have hne2 : (q.2 == me) = false := beq_eq_false_iff_ne.mpr fun z => by
        have hnd := XI.nd
        rw [hps] at hnd
        exact (List.nodup_cons.mp hnd).1 (by rw [← z]; exact hq2)
      rw [hps, List.zip_cons_cons, List.lookup_cons, hne2]
      rfl
    have hI : L2.Inv X pins σ (upd H1 dx (.xd ((asg.map (·.1)).zip vs))) ⟨Gh, gs, dr, t', os⟩ := by
      refine I1.laid (t' := t') (a := dx) (fun b o z => ?_) hd1 ⟨mA, ?_, fun f => ?_⟩
      · have hb := fresh z
        rw [gk b hb]
        exact hk' b o hb (kk b o z)
      · exact hA.at fun o z => (gk dx (Nat.ne_of_gt hlt)).trans z
      · rw [hfs]; exact relO_zip r1 f
    refine ⟨hp.objs.size + 1, _, _, ⟨Gh, gs, dr, t', os⟩, _, .ref C, some dx, rfl, hI, fun b o z => ?_, ge, he', ⟨rfl, rfl⟩, rfl, rfl, ?_, rfl, I1.bare, raises_own XI.cl.exC XI.cl.tyC, q1 dx (I1.hok.fresh hd1)⟩
    · by_cases hb : b = hp.objs.size + 1
      · subst hb
        have z : Gh.get? (hp.objs.size + 1) = some o := z
        rw [ge] at z; cases z
      · exact (gk b hb).symm.trans z
    · rw [upd_ne (Nat.ne_of_lt hlt)]
      exact I1.hok.fresh (Nat.le_succ _)
end
end RF
/-! Fv: raise, try. -/
namespace RF
open PySem L2
section
variable {X : Cx} {T : Cs} {G : Gl} {C : CallF} {Wx : WXi} {Q : Sc}
theorem snd_raise (g : Good X T G C Wx Q) (hq : Q.calm = true) {c : Nat} {xi : XI} {l : IR} {x : Str} {p pos rpos : Pos} {es : List Expr} (hx : okName x = true) (h1 : glB Q.sc x = true) (h2 : Q.ge[c]? = some x) (hc : G.exs[c]? = some xi) (hf : xi.flds ≠ [])
    (hn : noStars es = true) (hne : es ≠ []) (hl : consLen l = some es.length) (hfl : es.length = xi.flds.length) (ha : PA X es (tEs T G C Wx l)) : PS X (.Raise (some (.Call (.Name x p) es [] pos)) none rpos) (tS T G C Wx (.raise c l)) := by
  have xo := g.xs c xi hc
  obtain ⟨fI, cc, ca, fd, ps, me, asg, XI, hT⟩ := xo.ini hf
  refine PS.imp (ps_raise (g.calm hq) g.tk (pmk_x XI (g.rm hq) hx (g.gl h1) (g.ge x c h2).1 g.sup ha hn hne)) fun D σ H ⟨W, env, S, br, er, q⟩ => ?_
  simp only [ex] at q
  have hps : ps.length = asg.length + 1 := by
    have h3 := congrArg List.length XI.pt
    rw [List.length_map, List.length_tail] at h3
    have h4 := XI.hd
    cases z : ps with
    | nil => rw [z] at h4; cases h4
    | cons a b => rw [z] at h3; simp at h3; rw [List.length_cons, h3]
  have hal : asg.length = es.length := by
    rw [hfl, xo.ln, hT, List.length_map]
  refine ⟨W, env, S, br, er, ?_⟩
  cases hev : evs G C l env S with
  | ok xs S1 =>
    rw [hev] at q
    simp only [thn_ok] at q
    intro W1 H1 vs l1 b1 r1
    have hxl := evs_len hl hev
    have hvl := r1.length
    refine ⟨by omega, fun dx hdx => ?_⟩
    split at q
    · rename_i hp
      obtain ⟨b2, l2⟩ := b1.alloc (o := .xd ((asg.map (·.1)).zip vs)) hdx
      refine q _ σ _ _ _ (l1.trans l2) b2 (er.mono (l1.trans l2)) ⟨rfl, hp, vs, r1.mono l2, ?_, .inr ⟨dx, rfl, ?_⟩⟩
      · rw [hT, List.length_map]; omega
      · rw [hT]; exact upd_same
    · exact q.elim
  | exc e S1 => rw [hev] at q; exact fun W2 H2 c d l2 b r => q W2 σ H2 c d l2 b (er.mono l2) r
  | bad => rw [hev] at q; exact q.elim
/-- e.f, in an except suite -/
theorem snd_xattr (g : Good X T G C Wx Q) {i f : Nat} {x name : Str} {p pos : Pos} (h1 : Q.N[i]? = some x) (h2 : visB Q.sc x = true) (h3 : okName x = true) (hf : Q.nm[f]? = some name) : PE X (.Attribute (.Name x p) name pos) (tE T G C Wx (.xattr i f)) := by
  have hvar : PE X (.Name x p) (tVar i) := pe_var (by rw [g.hN]; exact h1) (by rw [g.sc]; exact visB_ok h2) (okName_d h3) (okName_c h3)
  have inv : ∀ σ H K, tE T G C Wx (.xattr i f) σ H K → ∃ (c : Nat) (xs : List PV) (xi : XI) (j : Nat) (a : Addr) (cls : Value) (d : Option Addr) (vs : List V) (W : Wd) (S : Store) (z : PV), G.exs[c]? = some xi ∧ xi.flds[j]? = some f ∧ Wx.ξ = some (a, cls, d) ∧ σ[i]? = some (some (.ref a)) ∧ cls = .ref (T.xat c) ∧ Rels T W xs vs ∧ vs.length = (T.xfl c).length ∧
      (vs = [] ∨ ∃ dd, d = some dd ∧ W.Φ dd = some (.xd ((T.xfl c).zip vs))) ∧ xs[j]? = some z ∧ BR T W S H ∧ (∀ W' H' w, W.le W' → BR T W' S H' → Rel T W' z w → K w H') := by
    rintro σ H K ⟨W, env, S, br, er, q⟩
    simp only [ev] at q
    split at q
    · rename_i c xs henv
      split at q
      · rename_i j hj
        obtain ⟨w, hw, a, cls, d, e1, e2, e3, e4, vs, e5, e6, e7⟩ := er.2 i _ henv
        subst e2
        have hxi : ∃ xi, G.exs[c]? = some xi ∧ xi.flds[j]? = some f := by
          unfold Gl.xfix at hj
          cases z : G.exs[c]? with
          | none => rw [z] at hj; cases hj
          | some xi =>
            rw [z] at hj
            obtain ⟨hl, h5, _⟩ := List.findIdx?_eq_some_iff_getElem.mp hj
            exact ⟨xi, rfl, by rw [List.getElem?_eq_getElem hl]; exact congrArg some (beq_iff_eq.mp h5)⟩
        obtain ⟨xi, hx1, hx2⟩ := hxi
        cases hz : xs[j]? with
        | none => rw [hz] at q; exact q.elim
        | some z =>
          rw [hz] at q
          exact ⟨c, xs, xi, j, a, cls, d, vs, W, S, z, hx1, hx2, e1, hw, e3, e5, e6, e7, hz, br, q⟩
      · exact q.elim
    · exact q.elim
  by_cases hξ : ∃ a c d, c < G.exs.length ∧ Wx.ξ = some (a, .ref (T.xat c), d) ∧ name ∈ T.xfl c
  · obtain ⟨a, c, d, hc, hξ, hnm⟩ := hξ
    have xo := g.xs c _ (List.getElem?_eq_getElem hc)
    obtain ⟨X0, oe, pn, rfl, hz, hfl⟩ := g.sui a _ d hξ
    refine PE.imp (pe_xf xo.xf (xo.no name hnm) hz hfl hvar rfl) fun σ H K q => ?_
    obtain ⟨c', xs, xi, j, a', cls, d', vs, W, S, z, h5, h6, h7, h8, h9, h10, h11, h12, h13, h14, h15⟩ := inv σ H K q
    rw [hξ] at h7
    have h7 := Option.some.inj h7
    cases h7
    have xo' := g.xs c' xi h5
    have hat : T.xat c = T.xat c' := Value.ref.inj h9
    refine ⟨.ref a, h8, rfl, rfl, ?_⟩
    have e1 : (T.xfl c')[j]? = some name := by rw [xo'.fl j f h6]; exact hf
    obtain ⟨w, hw, rw'⟩ := h10.get h13
    rcases h12 with h12 | ⟨dd, h12, h16⟩
    · subst h12; simp at hw
    · exact ⟨dd, _, w, h12, h14.frz _ _ h16, zip_lookup xo'.nd e1 hw, h15 W H w (.refl W) h14 rw'⟩
  · refine PE.imp (t := fun _ _ _ => False) ⟨fun _ _ _ _ _ _ h => h.elim⟩ fun σ H K q => ?_
    obtain ⟨c', xs, xi, j, a', cls, d', vs, W, S, z, h5, h6, h7, h8, h9, h10, h11, h12, h13, h14, h15⟩ := inv σ H K q
    have xo' := g.xs c' xi h5
    have e1 : (T.xfl c')[j]? = some name := by rw [xo'.fl j f h6]; exact hf
    exact hξ ⟨a', c', d', (List.getElem?_eq_some_iff.mp h5).1, by rw [h7, h9], List.mem_of_getElem? e1⟩
/-- into an except suite -/
theorem ER.enter {W : Wd} {env : PEnv} {σ : St} {i : Nat} {a : Addr} {c : Nat} {xs : List PV} {cls : Value} {d : Option Addr} (e : ER T none W env σ) (x : XRel T W (.exc c xs) cls d) : ER T (some (a, cls, d)) W (env.set i (some (.exc c xs))) (σ.set i (some (.ref a))) := by
  refine ⟨by rw [List.length_set, List.length_set]; exact e.1, fun j v h => ?_⟩
  have hl := e.1
  by_cases hj : i = j
  · subst hj
    have hi : i < env.length := by
      rcases Nat.lt_or_ge i env.length with h' | h'
      · exact h'
      · rw [List.set_eq_of_length_le h', List.getElem?_eq_none h'] at h; cases h
    rw [List.getElem?_set_self hi] at h
    cases h
    exact ⟨.ref a, List.getElem?_set_self (by omega), a, cls, d, rfl, rfl, x⟩
  · rw [List.getElem?_set_ne hj] at h ⊢
    obtain ⟨w, hw, r⟩ := e.2 j v h
    refine ⟨w, hw, ?_⟩
    cases v with
    | exc c' xs' => obtain ⟨a', cls', d', z, _⟩ := r; cases z
    | _ => exact r
theorem ER.enterN {W : Wd} {env : PEnv} {σ : St} {ξ : Xi} (e : ER T none W env σ) : ER T ξ W env σ := ⟨e.1, fun j v h => by
  obtain ⟨w, hw, r⟩ := e.2 j v h
  refine ⟨w, hw, ?_⟩
  cases v with
  | exc c' xs' => obtain ⟨a', cls', d', z, _⟩ := r; cases z
  | _ => exact r⟩
theorem purge_at {env : PEnv} {j : Nat} {v : PV} (h : (purge env)[j]? = some (some v)) : env[j]? = some (some v) ∧ v.isExc = false := by
  unfold purge at h
  rw [List.getElem?_map] at h
  cases z : env[j]? with
  | none => rw [z] at h; cases h
  | some o =>
    rw [z] at h
    cases o with
    | none => cases h
    | some u =>
      have h : some (if u.isExc = true then none else some u) = some (some v) := h
      split at h
      · cases h
      · rename_i hu
        cases h
        exact ⟨rfl, by simpa using hu⟩
theorem ER.leaveN {W : Wd} {env : PEnv} {σ : St} {ξ : Xi} (e : ER T ξ W env σ) : ER T none W (purge env) σ := by
  refine ⟨by unfold purge; rw [List.length_map]; exact e.1, fun j v h => ?_⟩
  obtain ⟨h1, h2⟩ := purge_at h
  obtain ⟨w, hw, r⟩ := e.2 j v h1
  exact ⟨w, hw, .of (r.rel h2)⟩
theorem ER.leave {W : Wd} {env : PEnv} {σ : St} {ξ : Xi} {i : Nat} (e : ER T ξ W env σ) : ER T none W (purge (env.set i none)) (σ.set i none) := (e.unset i).leaveN
/-- the context of a try's body -/
theorem GoodS.tr (g : GoodS X T G C Wx Q) (hq : Q.calm = true) {W : WX} {pn : List (Addr × Obj)} {xe : Value → Shared → Prop} (tk : Takes (X.tr pn xe) W) (pas : PassesOwn (model X.prog X.w) X.A X.env xe) : GoodS (X.tr pn xe) T G C ⟨W, Wx.ξ⟩ Q where
  hK := g.hK
  hN := g.hN
  sc := g.sc
  fn := g.fn
  nd := g.nd
  calm := g.calm
  grd := g.grd
  un := g.un
  tk := tk
  knd := g.knd
  gk := g.gk
  bt := g.bt
  kok := g.kok
  fns := fun h f ps dvs e => ⟨(g.fns h f ps dvs e).ex, (g.fns h f ps dvs e).kp⟩
  xs := g.xs
  ge := g.ge
  sup := g.sup
  rm := g.rm
  xn := g.xn
  sui := fun a cls d h => by
    have h : Wx.ξ = some (a, cls, d) := h
    rw [g.xn hq] at h; cases h
  gf := g.gf
  gc := g.gc
  stk := g.stk
  frm := g.frm
  pas := pas
/-- the names in an except suite -/
def Sc.hot (Q : Sc) : Sc := { Q with calm := false }
theorem GoodS.suite (g : GoodS X T G C Wx Q) {a : Addr} {oe : Obj} {cls : Value} {d : Option Addr} {pn : List (Addr × Obj)} (hz : Zc cls d oe) (hf : ∃ vs, oe.data = .fields vs) : Good (X.suite a ((a, oe) :: pn)) T G C ⟨fun _ _ _ _ => False, some (a, cls, d)⟩ Q.hot where
  hK := g.hK
  hN := g.hN
  sc := g.sc
  fn := g.fn
  nd := g.nd
  calm := fun h => by cases h
  grd := g.grd
  un := g.un
  tk := fun u s' ⟨_, _, _, _, _, _, _, _, _, _, _, _, _, _, _, _, w⟩ => w.elim
  knd := g.knd
  gk := g.gk
  bt := g.bt
  kok := g.kok
  fns := fun h => by cases h
  xs := g.xs
  ge := g.ge
  sup := g.sup
  rm := fun h => by cases h
  xn := fun h => by cases h
  sui := fun a' cls' d' h => by
    cases h
    exact ⟨X, oe, pn, rfl, hz, hf⟩
  gf := g.gf
  gc := g.gc
/-- a suite's reading -/
def tSu (T : Cs) (G : Gl) (C : CallF) (h : IS) : Addr → Value → Option Addr → TS := fun a cls d => tS T G C ⟨fun _ _ _ _ => False, some (a, cls, d)⟩ h
theorem snd_tryAs (g : GoodS X T G C Wx Q) (hq : Q.calm = true) {b h : IS} {c i : Nat} {xi : XI} {x n : Str} {np hp pos : Pos} {body suite : List Stmt} {b₀ : Stmt} (h1 : glB Q.sc x = true) (hx : okName x = true) (h2 : Q.ge[c]? = some x) (h3 : Q.N[i]? = some n) (h4 : isLocal Q.sc n = true)
    (hb : ∀ X' Wx', GoodS X' T G C Wx' Q → PSs X' body (tS T G C Wx' b)) (hs : ∀ X' Wx', Good X' T G C Wx' Q.hot → PSs X' (b₀ :: suite) (tS T G C Wx' h)) :
    PS X (.Try body [.ExceptHandler (some (.Name x np)) (some n) (b₀ :: suite) hp] [] [] pos) (tS T G C Wx (.try_ b [c] (some i) h)) := by
  have hξ := g.xn hq
  obtain ⟨hge, hclt⟩ := g.ge x c h2
  refine PS.imp (ps_try_as (c := .ref (T.xat c)) (i := i) (Wout := Wx.w) (tb := fun W => tS T G C ⟨W, Wx.ξ⟩ b) (ts := tSu T G C h) g.stk g.frm g.nd (by rw [g.hN]; exact h3) (by show X.env.scope.names.lookup n = _; rw [g.sc]; exact isLocal_ok h4) ⟨g.gl h1, okName_d hx, .inl hge⟩ g.tk
    (fun W pn xe tk pas => hb _ _ (g.tr hq tk pas)) (fun a oe cls d pn hz hf => hs _ _ (g.suite hz hf))) fun D σ H ⟨W, env, S, br, er, q⟩ => ?_
  simp only [ex] at q
  refine ⟨W, env, S, br, er, ?_⟩
  cases hbd : ex G C b env S with
  | nx env1 S1 => rw [hbd] at q; exact q
  | rt v S1 => rw [hbd] at q; exact q
  | bk env1 S1 => rw [hbd] at q; exact q
  | bad => rw [hbd] at q; exact q
  | xc e env1 S1 =>
    rw [hbd] at q
    cases e with
    | exc cx xs =>
      simp only at q
      intro W1 σ1 H1 cls d l1 b1 er1 xr
      have hcls : cls = .ref (T.xat cx) := xr.1
      cases hxi : G.exs[cx]? with
      | none => rw [hxi] at q; exact q.elim
      | some xi =>
        rw [hxi] at q
        simp only at q
        have xo := g.xs cx xi hxi
        have hb1 : PySem.W.exmOne X.K cls (.ref (T.xat c)) = some (decide (c ∈ xi.sup)) := by rw [hcls]; exact xo.ex c hclt
        refine ⟨decide (c ∈ xi.sup), hb1, fun hy a ha => ?_, fun hn => ?_⟩
        · have hany : ([c].any fun d => decide (d ∈ xi.sup)) = true := by simp only [List.any_cons, List.any_nil, Bool.or_false]; exact hy
          rw [if_pos hany] at q
          have er2 : ER T none W1 env1 σ1 := by
            have := er1
            rw [show (⟨wAs X.K (.ref (T.xat c)) i (tSu T G C h) Wx.w D, Wx.ξ⟩ : WXi).ξ = none from hξ] at this
            exact this
          refine ⟨W1, _, S1, b1, er2.enter (a := a) (i := i) xr, ?_⟩
          have q := PoF.up l1 q
          cases hsu : ex G C h (env1.set i (some (.exc cx xs))) S1 with
          | nx env2 S2 =>
            rw [hsu] at q
            intro W3 σ3 H3 l3 b3 e3
            refine q W3 _ H3 l3 b3 ?_
            rw [hξ]
            exact e3.leave
          | rt v S2 => rw [hsu] at q; exact q
          | bk env2 S2 => rw [hsu] at q; exact q.elim
          | xc e env2 S2 => rw [hsu] at q; exact q.elim
          | bad => rw [hsu] at q; exact q.elim
        · have hany : ¬ ([c].any fun d => decide (d ∈ xi.sup)) = true := by
            simp only [List.any_cons, List.any_nil, Bool.or_false]
            rw [hn]; exact Bool.false_ne_true
          rw [if_neg hany] at q
          exact q W1 σ1 H1 cls d l1 b1 er1 xr
    | _ => exact fun W1 σ1 H1 cls d l1 b1 er1 xr => xr.elim
end
end RF
/-! Fw: bodies keep their promises. -/
namespace RF
open PySem L2 PyProof.Rows
/-- a def keeps its promise, by its body -/
theorem fun_fnG {P : Program} {w : World} {K : PySem.W.Frag} {mg : Str → Option Value} {base : Heap} {x qual : Str} {params : Arguments} {body : List Stmt} {scope : Scope} {dvs : List V} {kws : List (Str × V)} {f : Addr} {fd : FuncData} {N ps : List Str} {m : Nat} {sp : Sp}
    (F : FunD K x qual params body scope dvs kws f fd) (S : FnScope N ps scope)
    (hbody : ∀ (cdv : Value) (A : Around) (outer : List Env) (s : Shared) (H : Hp) (vs : List V) (Q : VK) (E : XK), Room m (A.deeper (envOfC qual scope s.heap.objs.size f cdv)) → A.guards = some [] → vs.length = ps.length → sp vs H Q E →
      ∃ t, PSs (cxOf (CX P w) P w K mg base N qual scope f cdv A outer s H E) body t ∧ t { nx := fun _ H' => Q .non H', rt := Q } (L2.start N vs) H) : FnG P w K mg base (m + 1) f fd ps sp := by
  obtain ⟨oc, od, dV, kV, doc, pm, an, cdv, ct, osl, rfl, lk, hcd, _, _⟩ := F.ex
  intro A outer s H args us vs Q E hr hgu e0 hb rv hlu hsp
  have hlv : vs.length = ps.length := by rw [rv.length]; exact hlu
  have hKs : K.In s.heap := e0.mod.kin.keeps fun b o e => (e0.bs b o e).1
  have hlim : s.heap.NoLimit := e0.mod.nolimit.keeps fun b o e => (e0.bs b o e).1
  have hkinds : ∀ y ∈ ps.zip us, scope.names.lookup y.1 = some .local ∨ (scope.names.lookup y.1 = some .cell ∧ ((cellsFrom (s.heap.objs.size + 1) scope.names []).lookup y.1).isSome = true) := fun y hy => by
    rcases S.par y.1 (List.of_mem_zip hy).1 with z | z
    · exact .inl z
    · exact .inr ⟨z, PySem.W.cellsFrom_some _ _ _ (.inl z)⟩
  refine codeAny_call_function hr.depth (hKs _ _ lk) rfl S.co S.gen rfl (PySem.W.codeRec_of hKs hcd) (hb _ _ _ _ ?_)
  refine wpAny_newFunctionEnv_cells S.kind hkinds fun env he s1 ic => ?_
  subst he
  refine ⟨hlim.keeps ic.toInCall.keep, codeAny_func ?_⟩
  obtain ⟨t, ht, hq⟩ := hbody cdv A outer s H vs Q E (hr.deeper _) hgu hlv hsp
  have I := inv_start (CX := CX P w) (E := E) S hr.hd e0 hlv rv ic
  refine wpAny_mono (ht.run [] s1 (L2.start N vs) H _ I hq) (fun fl s' hs => ?_) fun e s' hs => hs
  cases fl with
  | ret u =>
    obtain ⟨v, σ', H', J, rv', q⟩ := hs
    exact ⟨v, H', J.os, J.bare, J.base, J.hok, rv', q⟩
  | next =>
    obtain ⟨σ', H', J, q⟩ := hs
    exact ⟨V.non, H', J.os, J.bare, J.base, J.hok, rfl, q⟩
  | brk =>
    obtain ⟨_, _, _, q⟩ := hs
    exact q.elim
  | cont =>
    obtain ⟨_, _, _, q⟩ := hs
    exact q.elim
/-- a def of the text, and what it is in the small language -/
structure FT where
  name : Str
  qual : Str
  params : Arguments
  body : List Stmt
  scope : Scope
  N : List Str
  ps : List Str
  dvs : List PV
  fi : FnI
/-- the names that every def sees -/
structure Names where
  gk : List (Str × PV)
  gf : List (Option Str)
  gc : List Str
  ge : List Str
  bt : List Str
  nm : List Str
def Sc.of (M : Names) (fts : List FT) (ft : FT) : Sc where
  N := ft.N
  sc := ft.scope
  raw := none
  calm := true
  gk := M.gk
  gf := M.gf
  gc := M.gc
  ge := M.ge
  bt := M.bt
  nm := M.nm
  sig := fts.map fun t => (t.ps, t.dvs)
/-- what stands of the text, of the classes, of the names -/
structure Stands (P : Program) (w : World) (K : PySem.W.Frag) (mg : Str → Option Value) (T : Cs) (G : Gl) (M : Names) (fts : List FT) : Prop where
  hK : T.K = K
  kok : KOk T G M.nm
  xs : ∀ (c : Nat) (xi : XI), G.exs[c]? = some xi → XOk K P T M.nm G.exs.length c xi
  gk : ∀ x v, M.gk.lookup x = some v → ∃ u w, mg x = some u ∧ RelV w u ∧ ∀ W, Rel T W v w
  gf : ∀ (x : Str) (f : Nat), M.gf[f]? = some (some x) → mg x = some (.ref (T.fa f))
  gc : ∀ (x : Str) (c : Nat), M.gc[c]? = some x → mg x = some (.ref (T.at_ c)) ∧ c < G.cls.length
  ge : ∀ (x : Str) (c : Nat), M.ge[c]? = some x → mg x = some (.ref (T.xat c)) ∧ c < G.exs.length
  bt : ∀ x, x ∈ M.bt → mg x = none
  sup : mg "super" = none
  fns : ∀ (f : Nat) (t : FT), fts[f]? = some t → ∃ fd dV, FunD K t.name t.qual t.params t.body t.scope dV [] (T.fa f) fd ∧ Plain fd t.ps ∧ DflV K fd.defaults dV ∧ (∀ W, Rels T W t.dvs dV)
/-- what is checked of each text -/
structure Shown (T : Cs) (G : Gl) (M : Names) (fts : List FT) (t : FT) : Prop where
  sc : FnScope t.N t.ps t.scope
  np : t.fi.np = t.ps.length
  ns : t.fi.ns = t.N.length
  le : t.ps.length ≤ t.N.length
  bd : ∀ X C Wx, GoodS X T G C Wx (Sc.of M fts t) → PSs X t.body (tS T G C Wx t.fi.body)
theorem le_of_trunc {T : Cs} {W W2 : Wd} {S S2 : Store} {H H2 : Hp} (b : BR T W S H) (l : W.le W2) : W.le ⟨W2.Φ, W2.ρ.take S.length, W2.Fh⟩ := ⟨l.fr, fun i a h => by
  have hi := (List.getElem?_eq_some_iff.mp h).1
  show (W2.ρ.take S.length)[i]? = some a
  rw [List.getElem?_take_of_lt (by rw [← b.len]; exact hi)]
  exact l.rf i a h, l.fh⟩
/-- a body's end -/
theorem end_of {T : Cs} {W : Wd} {S : Store} {H : Hp} {Q : VK} {E : XK} {gc : Bool} {f : Fl} (b : BR T W S H) (p : PoC T W Q E (endF gc S.length f)) : PoF T ⟨fun cls d _ H' => E cls d H', none⟩ W { nx := fun _ H' => Q .non H', rt := Q } f := by
  have val : ∀ (v : PV) (S1 : Store), PoC T W Q E (if gc = true then gcV S.length v S1 else .ok v S1) → ∀ W' H' w, W.le W' → BR T W' S1 H' → Rel T W' v w → Q w H' := fun v S1 p W' H' w l b' r => by
    split at p
    · cases hg : gcV S.length v S1 with
      | ok v' S3 =>
        rw [hg] at p
        obtain ⟨W3, l3, b3, r3⟩ := gc_ok b l b' r hg
        exact p W3 H' w l3 b3 r3
      | exc e S3 =>
        exfalso
        unfold gcV at hg
        split at hg
        · split at hg
          · cases hg
          · split at hg <;> cases hg
        · split at hg <;> cases hg
      | bad => rw [hg] at p; exact p.elim
    · exact p W' H' w l b' r
  cases f with
  | nx env S1 => exact fun W' σ' H' l b' _ => val .non S1 p W' H' .non l b' .non
  | rt v S1 => exact fun W' H' w l b' r => val v S1 p W' H' w l b' r
  | bk env S1 => exact p.elim
  | bad => exact p.elim
  | xc x env S1 =>
    intro W' σ' H' cls d l b' _ xr
    cases gc with
    | true => exact p ⟨W'.Φ, W'.ρ.take S.length, W'.Fh⟩ H' cls d (le_of_trunc (S2 := S1) (H2 := H') b l) (b'.trunc S.length) (XRel.mono (W := W') (W' := ⟨W'.Φ, W'.ρ.take S.length, W'.Fh⟩) (fun _ _ h => h) xr)
    | false => exact p W' H' cls d l b' xr
theorem start_er {T : Cs} {W : Wd} {args : List PV} {vs : List V} {N : List Str} {np ns : Nat} (r : Rels T W args vs) (hn : args.length = np) (hs : ns = N.length) : ER T none W (args.map some ++ List.replicate (ns - np) none) (L2.start N vs) := by
  have hl := r.length
  refine ⟨?_, fun i v h => ?_⟩
  · unfold L2.start
    rw [List.length_append, List.length_append, List.length_map, List.length_map, List.length_replicate, List.length_replicate]
    omega
  · by_cases hi : i < args.length
    · rw [List.getElem?_append_left (by rw [List.length_map]; exact hi), List.getElem?_map] at h
      cases hv : args[i]? with
      | none => rw [hv] at h; cases h
      | some u =>
        rw [hv] at h
        have h : some (some u) = some (some v) := h
        cases h
        obtain ⟨w, hw, rw'⟩ := r.get hv
        refine ⟨w, ?_, .of rw'⟩
        unfold L2.start
        rw [List.getElem?_append_left (by rw [List.length_map]; omega), List.getElem?_map, hw]; rfl
    · rw [List.getElem?_append_right (by rw [List.length_map]; omega), List.getElem?_replicate] at h
      split at h <;> cases h
/-- every def keeps its promise, to any depth of calls -/
theorem family {P : Program} {w : World} {K : PySem.W.Frag} {mg : Str → Option Value} {base : Heap} {T : Cs} {G : Gl} {M : Names} {fts : List FT} (St : Stands P w K mg T G M fts) (Sh : ∀ t, t ∈ fts → Shown T G M fts t) :
    ∀ (k f : Nat) (t : FT) (fd : FuncData) (dV : List V), fts[f]? = some t → FunD K t.name t.qual t.params t.body t.scope dV [] (T.fa f) fd → FnG P w K mg base (2 * k) (T.fa f) fd t.ps (spF T (call G (fts.map (·.fi)) k) f)
  | 0, f, t, fd, dV, ht, F => by
    intro A outer s H args us vs Q E hr hgu e0 hb rv hlu hsp
    obtain ⟨W, S, args, br, rr, p⟩ := hsp
    exact p.elim
  | k + 1, f, t, fd, dV, ht, F => by
    have sh := Sh t (List.mem_of_getElem? ht)
    refine fun_fnG (m := 2 * k + 1) F sh.sc fun cdv A outer s H vs Q E hr hgu hlv hsp => ?_
    obtain ⟨W, S, args, br, rr, p⟩ := hsp
    have hal : args.length = t.fi.np := by rw [rr.length, hlv, sh.np]
    have hfi : (fts.map (·.fi))[f]? = some t.fi := by rw [List.getElem?_map, ht]; rfl
    simp only [call, hfi, hal, if_true, runF] at p
    refine ⟨_, sh.bd _ (call G (fts.map (·.fi)) k) ⟨fun cls d _ H' => E cls d H', none⟩ ?_, W, _, S, br, start_er rr hal sh.ns, end_of br p⟩
    have hgu2 : (A.deeper (envOfC t.qual t.scope s.heap.objs.size (T.fa f) cdv)).guards = some [] := hgu
    exact {
      hK := St.hK
      hN := rfl
      sc := rfl
      fn := fun _ _ => rfl
      nd := sh.sc.nd
      calm := fun _ => rfl
      grd := hgu2
      un := by have := hr.un; show (A.deeper (envOfC t.qual t.scope s.heap.objs.size (T.fa f) cdv)).units + 100 < cLine; omega
      tk := takes_of (X := cxOf (CX P w) P w K mg base t.N t.qual t.scope (T.fa f) cdv A outer s H E) rfl rfl rfl rfl
      knd := sh.sc.kind
      gk := St.gk
      bt := St.bt
      kok := St.kok
      fns := fun _ g ps dvs hg => by
        have hg : (fts.map fun t => (t.ps, t.dvs))[g]? = some (ps, dvs) := hg
        rw [List.getElem?_map] at hg
        cases hz : fts[g]? with
        | none => rw [hz] at hg; cases hg
        | some u =>
          rw [hz] at hg
          cases hg
          obtain ⟨fd', dV', F', pl, dd, dr⟩ := St.fns g u hz
          exact ⟨⟨2 * k, fd', dV', family St Sh k g u fd' dV' hz F', pl, dd, dr, hr⟩, F'.kp⟩
      xs := St.xs
      ge := St.ge
      sup := St.sup
      rm := fun _ => hr.mono (by omega)
      xn := fun _ => rfl
      sui := fun a cls d h => by cases h
      gf := St.gf
      gc := St.gc
      stk := rfl
      frm := rfl
      pas := passes_of (X := cxOf (CX P w) P w K mg base t.N t.qual t.scope (T.fa f) cdv A outer s H E) rfl }
end RF
/-! Fx: the checker: a text against the small language. -/
namespace RF
open PySem L2
def bopEq : BOp → Operator → Bool
  | .add, .Add => true | .sub, .Sub => true | .mul, .Mult => true | .fdiv, .FloorDiv => true | .mod, .Mod => true | .pow, .Pow => true | .band, .BitAnd => true
  | _, _ => false
theorem bopEq_ok {o : BOp} {op : Operator} (h : bopEq o op = true) : op = bop o := by
  cases o <;> cases op <;> first | rfl | cases h
def copEq : COp → CmpOp → Bool
  | .eq, .Eq => true | .ne, .NotEq => true | .lt, .Lt => true | .le, .LtE => true | .gt, .Gt => true | .ge, .GtE => true | .inn, .In => true | .nin, .NotIn => true | .is, .Is => true | .isn, .IsNot => true
  | _, _ => false
theorem copEq_ok {o : COp} {op : CmpOp} (h : copEq o op = true) : op = cop o := by
  cases o <;> cases op <;> first | rfl | cases h
def lkB : Option PV → PV → Bool
  | some u, v => PV.beq u v
  | none, _ => false
theorem lkB_ok {o : Option PV} {v : PV} (h : lkB o v = true) : o = some v := by
  cases o with
  | none => cases h
  | some u => exact congrArg some (beq_eq u v h)
def permB : List (Sum Nat PV) → List (Sum Nat PV) → Bool
  | [], [] => true
  | .inl i :: a, .inl j :: b => (i == j) && permB a b
  | .inr u :: a, .inr v :: b => PV.beq u v && permB a b
  | _, _ => false
theorem permB_ok : ∀ {a b : List (Sum Nat PV)}, permB a b = true → a = b
  | [], [], _ => rfl
  | [], _ :: _, h => by simp [permB] at h
  | _ :: _, [], h => by simp [permB] at h
  | .inl i :: a, .inl j :: b, h => by
    simp only [permB, Bool.and_eq_true, beq_iff_eq] at h
    rw [h.1, permB_ok h.2]
  | .inr u :: a, .inr v :: b, h => by
    simp only [permB, Bool.and_eq_true] at h
    rw [beq_eq _ _ h.1, permB_ok h.2]
  | .inl i :: a, .inr v :: b, h => by simp [permB] at h
  | .inr i :: a, .inl v :: b, h => by simp [permB] at h
/-- a name that is a built-in one here -/
def blB (Q : Sc) (x : Str) : Bool := glB Q.sc x && decide (x ∈ Q.bt)
def shapeB (Q : Sc) (f n : Nat) (ks : List Str) (perm : List (Sum Nat PV)) : Bool := match Q.sig[f]? with
  | some (ps, dvs) => match shape ps dvs n ks with
    | some p => permB p perm
    | none => false
  | none => false
def isNilE : List Expr → Bool
  | [] => true
  | _ => false
def callB (Q : Sc) (f extra : Nat) (es : List Expr) (kws : List Keyword) (l kw : IR) (perm : List (Sum Nat PV)) : Bool := match kwNames kws with
  | some ks => decide (consLen l = some es.length) && decide (consLen kw = some ks.length) && noStars es && shapeB Q f (es.length + extra) ks perm && (!isNilE es || l.isNil)
  | none => false
theorem callB_ok {Q : Sc} {f extra : Nat} {es : List Expr} {kws : List Keyword} {l kw : IR} {perm : List (Sum Nat PV)} (h : callB Q f extra es kws l kw perm = true) : ∃ ps dvs ks, CallOk Q f extra es kws l kw perm ps dvs ks := by
  unfold callB at h
  split at h
  · rename_i ks hk
    simp only [Bool.and_eq_true, decide_eq_true_eq] at h
    obtain ⟨⟨⟨⟨h1, h2⟩, h3⟩, h4⟩, h5⟩ := h
    unfold shapeB at h4
    split at h4
    · rename_i ps dvs hs
      split at h4
      · rename_i p hp
        cases permB_ok h4
        refine ⟨ps, dvs, ks, hs, h1, h2, h3, hk, hp, fun e => ?_⟩
        subst e
        have h5 : l.isNil = true := by simpa [isNilE] using h5
        cases l <;> first | rfl | cases h5
      · cases h4
    · cases h4
  · cases h
def methB (Q : Sc) (G : Gl) (m : Nat) (es : List Expr) (kws : List Keyword) (l kw : IR) (perm : List (Sum Nat PV)) : Bool := G.cls.all fun ci => match ci.meths.lookup m with
  | some f => callB Q f 1 es kws l kw perm
  | none => true
theorem methB_ok {Q : Sc} {G : Gl} {m : Nat} {es : List Expr} {kws : List Keyword} {l kw : IR} {perm : List (Sum Nat PV)} (h : methB Q G m es kws l kw perm = true) : MethOk Q G m es kws l kw perm := by
  intro c ci f hc hm
  have := List.all_eq_true.mp h ci (List.mem_of_getElem? hc)
  rw [hm] at this
  exact callB_ok this
def isTupE : Expr → Bool
  | .Tuple .. => true
  | _ => false
def tpOf : IR → Bool
  | .itEnum _ => true
  | _ => false
def tyB (Q : Sc) (G : Gl) : ITy → Expr → Bool
  | .own c, .Name y _ => glB Q.sc y && okName y && decide (Q.gc[c]? = some y) && decide (c < G.cls.length)
  | t, .Name y _ => isBase t && (y == (tyNm t : Str)) && blB Q y && okName y
  | _, _ => false
def mmB : MMt → Bool
  | .insert => false
  | _ => true
def isYes : IR → Bool
  | .k (.bl true) => true
  | _ => false
mutual
def chkE (Q : Sc) (G : Gl) : IR → Expr → Bool
  | .k v, .Constant c _ _ => kEq c v
  | .k v, .Name x _ => glB Q.sc x && okName x && lkB (Q.gk.lookup x) v
  | .var i, .Name x _ => decide (Q.N[i]? = some x) && visB Q.sc x && okName x
  | .xattr i f, .Attribute (.Name x _) name _ => decide (Q.N[i]? = some x) && visB Q.sc x && okName x && decide (Q.nm[f]? = some name)
  | .tup l, .Tuple es _ _ => chkA Q G l es
  | .lst l, .List es _ => chkA Q G l es
  | .lstR l, .List es _ => chkA Q G l es
  | .bin o a b, .BinOp ea op eb _ => bopEq o op && chkE Q G a ea && chkE Q G b eb
  | .cmp o a b, .Compare ea [op] [eb] _ => copEq o op && notSet eb && chkE Q G a ea && chkE Q G b eb
  | .chain o1 o2 a b c, .Compare ea [p1, p2] [eb, ec] _ => copEq o1 p1 && copEq o2 p2 && notSet ec && chkE Q G a ea && chkE Q G b eb && chkE Q G c ec
  | .neg a, .UnaryOp .USub e _ => chkE Q G a e
  | .not a, .UnaryOp .Not e _ => chkE Q G a e
  | .and a b, .BoolOp .And (ea :: eb :: rest) pos => chkE Q G a ea && chkE Q G b (boolRest .And eb rest pos)
  | .or a b, .BoolOp .Or (ea :: eb :: rest) pos => chkE Q G a ea && chkE Q G b (boolRest .Or eb rest pos)
  | .ite c a b, .IfExp ec ea eb _ => chkE Q G c ec && chkE Q G a ea && chkE Q G b eb
  | .call f l kw perm, .Call (.Name x _) es kws _ => Q.calm && okName x && glB Q.sc x && decide (Q.gf[f]? = some (some x)) && callB Q f 0 es kws l kw perm && chkA Q G l es && chkK Q G kw kws
  | .new c l kw perm, .Call (.Name x _) es kws _ => Q.calm && okName x && glB Q.sc x && decide (Q.gc[c]? = some x) && (match G.cls[c]? with
      | some ci => callB Q ci.init 1 es kws l kw perm
      | none => false) && chkA Q G l es && chkK Q G kw kws
  | .meth m o l kw perm, .Call (.Attribute eo name apos) es kws pos => Q.calm && decide (Q.nm[m]? = some name) && notCall0 eo && noStars es && (kwNames kws).isSome && decide (es.length + kws.length + 1 < 30) && (apos.endLine == pos.line) && methB Q G m es kws l kw perm && (!isNilE es || l.isNil) && chkE Q G o eo && chkA Q G l es && chkK Q G kw kws
  | .bfn b l, .Call (.Name x _) (e :: es) [] _ => (x == bname b) && blB Q x && (!bCalm b || Q.calm) && noStars (e :: es) && chkA Q G l (e :: es)
  | .listR a, .Call (.Name x _) [e] [] _ => (x == bname .list) && blB Q x && notStar e && chkE Q G a e
  | .bmt b o l, .Call (.Attribute eo name apos) (e :: es) [] cpos => (name == bmName b) && notCall0 eo && noStars (e :: es) && decide ((e :: es).length < 30) && (apos.endLine == cpos.line) && chkE Q G o eo && chkA Q G l (e :: es)
  | .mmt b o l, .Call (.Attribute eo name apos) es [] cpos => mmB b && (name == mmName b) && notCall0 eo && noStars es && decide (es.length < 30) && (apos.endLine == cpos.line) && (!isNilE es || l.isNil) && chkE Q G o eo && chkA Q G l es
  | .isI a t, .Call (.Name x _) [e, e2] [] _ => (x == ("isinstance" : Str)) && blB Q x && notStar e && notStar e2 && tyB Q G t e2 && chkE Q G a e
  | .attr o f, .Attribute e name _ => decide (Q.nm[f]? = some name) && notCall0 e && chkE Q G o e
  | .rev o, .Subscript e (.Slice none none (some (.UnaryOp .USub (.Constant (.int 1) _ _) _)) _) _ => chkE Q G o e
  | .slc o lo hi, .Subscript e (.Slice elo ehi none _) _ => chkE Q G o e && (match elo with
      | none => lo.isNil
      | some x => !lo.isNil && chkE Q G lo x) && (match ehi with
      | none => hi.isNil
      | some x => !hi.isNil && chkE Q G hi x)
  | .idx o i, .Subscript ea eb _ => notSlice eb && chkE Q G o ea && chkE Q G i eb
  | .comp own p it elt cond, .ListComp eelt [⟨tg, iter, ifs, 0⟩] scope _ => Q.calm && blkC Q.N Q.sc scope (ownP Q own) && chkP (Q.blk scope) p tg && (pvars p).all (fun i => decide (i ∈ own)) && (!tpOf it || (patTup p && isTupE tg)) && notSet iter && chkI Q G it iter && chkE (Q.blk scope) G elt eelt && (match ifs with
      | [] => isYes cond
      | [c] => chkE (Q.blk scope) G cond c
      | _ => false)
  | .compR own p it elt cond, .ListComp eelt [⟨tg, iter, ifs, 0⟩] scope _ => Q.calm && blkC Q.N Q.sc scope (ownP Q own) && chkP (Q.blk scope) p tg && (pvars p).all (fun i => decide (i ∈ own)) && (!tpOf it || (patTup p && isTupE tg)) && notSet iter && chkI Q G it iter && chkE (Q.blk scope) G elt eelt && (match ifs with
      | [] => isYes cond
      | [c] => chkE (Q.blk scope) G cond c
      | _ => false)
  | .fmt a, .FormattedValue e (-1) none _ => chkE Q G a e
  | .fstr l, .JoinedStr (e1 :: e2 :: es) _ => chkJ Q G l (e1 :: e2 :: es)
  | .one a, .JoinedStr [e] _ => chkE Q G a e
  | .ocmp ne m a b, .Compare ea [op] [eb] _ => Q.calm && copEq (if ne then .ne else .eq) op && notSet eb && notStar eb && decide (Q.nm[m]? = some ("__eq__" : Str)) && methB Q G m [eb] [] (.cons b .nil) .nil [.inl 0, .inl 1] && chkE Q G a ea && chkE Q G b eb
  | .ostr m a, .Call (.Name x _) [e] [] _ => Q.calm && (x == ("str" : Str)) && blB Q x && notStar e && decide (Q.nm[m]? = some ("__str__" : Str)) && methB Q G m [] [] .nil .nil [.inl 0] && chkE Q G a e
  | _, _ => false
termination_by structural x => x
def chkA (Q : Sc) (G : Gl) : IR → List Expr → Bool
  | .nil, [] => true
  | .star a b, .Starred e _ :: es => chkE Q G a e && chkA Q G b es
  | .cons a b, e :: es => notStar e && chkE Q G a e && chkA Q G b es
  | _, _ => false
termination_by structural x => x
def chkK (Q : Sc) (G : Gl) : IR → List Keyword → Bool
  | .nil, [] => true
  | .cons a b, ⟨_, e, _⟩ :: es => chkE Q G a e && chkK Q G b es
  | _, _ => false
termination_by structural x => x
def chkJ (Q : Sc) (G : Gl) : IR → List Expr → Bool
  | .nil, [] => true
  | .cons a b, e :: es => chkE Q G a e && chkJ Q G b es
  | _, _ => false
termination_by structural x => x
def chkI (Q : Sc) (G : Gl) : IR → Expr → Bool
  | .itV a, e => chkE Q G a e
  | .itR1 a, .Call (.Name x _) [e] [] _ => (x == ("range" : Str)) && blB Q x && notStar e && chkE Q G a e
  | .itR2 a b, .Call (.Name x _) [e, e2] [] _ => (x == ("range" : Str)) && blB Q x && notStar e && notStar e2 && chkE Q G a e && chkE Q G b e2
  | .itEnum a, .Call (.Name x _) [e] [] _ => (x == ("enumerate" : Str)) && blB Q x && notStar e && chkE Q G a e
  | _, _ => false
termination_by structural x => x
end
end RF
/-! Fy: what the checker says of expressions is so. -/
namespace RF
open PySem L2
structure Snd (T : Cs) (G : Gl) (C : CallF) (ir : IR) : Prop where
  e : ∀ {X : Cx} {Wx : WXi} {Q : Sc}, Good X T G C Wx Q → ∀ {x : Expr}, chkE Q G ir x = true → PE X x (tE T G C Wx ir) ∧ PT X x (tT T G C Wx ir)
  a : ∀ {X : Cx} {Wx : WXi} {Q : Sc}, Good X T G C Wx Q → ∀ {x : List Expr}, chkA Q G ir x = true → PA X x (tEs T G C Wx ir)
  k : ∀ {X : Cx} {Wx : WXi} {Q : Sc}, Good X T G C Wx Q → ∀ {x : List Keyword}, chkK Q G ir x = true → PK X x (tEs T G C Wx ir)
  j : ∀ {X : Cx} {Wx : WXi} {Q : Sc}, Good X T G C Wx Q → ∀ {x : List Expr}, chkJ Q G ir x = true → PJl X T G C Wx x ir
  i : ∀ {X : Cx} {Wx : WXi} {Q : Sc}, Good X T G C Wx Q → ∀ {x tg : Expr}, chkI Q G ir x = true → (tpOf ir = true → isTupE tg = true) → PI X tg x (tI T G C Wx (tpOf ir) ir)
/-- of one expression alone -/
def SndE (T : Cs) (G : Gl) (C : CallF) (ir : IR) : Prop := ∀ {X : Cx} {Wx : WXi} {Q : Sc}, Good X T G C Wx Q → ∀ {x : Expr}, chkE Q G ir x = true → PE X x (tE T G C Wx ir) ∧ PT X x (tT T G C Wx ir)
theorem blB_ok {Q : Sc} {x : Str} (h : blB Q x = true) : glB Q.sc x = true ∧ x ∈ Q.bt := by
  unfold blB at h
  simpa only [Bool.and_eq_true, decide_eq_true_eq] using h
theorem nil_no {es : List Expr} {l : IR} (h : (!isNilE es || l.isNil) = true) : es = [] → l = .nil := fun e => by
  subst e
  cases l <;> first | rfl | cases h
section
variable {T : Cs} {G : Gl} {C : CallF}
theorem val {X : Cx} {Wx : WXi} {Q : Sc} (g : Good X T G C Wx Q) {a : IR} {e : Expr} (ha : PE X e (tE T G C Wx a)) (h : isTest e = false) : PE X e (tE T G C Wx a) ∧ PT X e (tT T G C Wx a) := ⟨ha, snd_truth g h ha⟩
theorem s_k (v : PV) : SndE T G C (.k v) := fun {X Wx Q} g {x} h => by
  cases x
  case Constant c k pos => exact val g (snd_const h) rfl
  case Name y pos =>
    have h : (glB Q.sc y && okName y && lkB (Q.gk.lookup y) v) = true := h
    simp only [Bool.and_eq_true] at h
    exact val g (snd_gk g h.1.1 (lkB_ok h.2) h.1.2) rfl
  all_goals cases h
theorem s_var (i : Nat) : SndE T G C (.var i) := fun {X Wx Q} g {x} h => by
  cases x
  case Name y pos =>
    have h : (decide (Q.N[i]? = some y) && visB Q.sc y && okName y) = true := h
    simp only [Bool.and_eq_true, decide_eq_true_eq] at h
    exact val g (snd_var g h.1.1 h.1.2 h.2) rfl
  all_goals cases h
theorem s_xattr (i f : Nat) : SndE T G C (.xattr i f) := fun {X Wx Q} g {x} h => by
  cases x
  case Attribute o name pos =>
    cases o
    case Name y p =>
      have h : (decide (Q.N[i]? = some y) && visB Q.sc y && okName y && decide (Q.nm[f]? = some name)) = true := h
      simp only [Bool.and_eq_true, decide_eq_true_eq] at h
      exact val g (snd_xattr g h.1.1.1 h.1.1.2 h.1.2 h.2) rfl
    all_goals cases h
  all_goals cases h
theorem s_tup {l : IR} (hl : Snd T G C l) : SndE T G C (.tup l) := fun {X Wx Q} g {x} h => by
  cases x
  case Tuple es k pos => exact val g (snd_tup (hl.a g h)) rfl
  all_goals cases h
theorem s_lst {l : IR} (hl : Snd T G C l) : SndE T G C (.lst l) := fun {X Wx Q} g {x} h => by
  cases x
  case List es pos => exact val g (snd_lst (hl.a g h)) rfl
  all_goals cases h
theorem s_lstR {l : IR} (hl : Snd T G C l) : SndE T G C (.lstR l) := fun {X Wx Q} g {x} h => by
  cases x
  case List es pos => exact val g (snd_lstR (hl.a g h)) rfl
  all_goals cases h
theorem s_bin {o : BOp} {a b : IR} (ha : Snd T G C a) (hb : Snd T G C b) : SndE T G C (.bin o a b) := fun {X Wx Q} g {x} h => by
  cases x
  case BinOp ea op eb pos =>
    have h : (bopEq o op && chkE Q G a ea && chkE Q G b eb) = true := h
    simp only [Bool.and_eq_true] at h
    cases bopEq_ok h.1.1
    exact val g (snd_bin g (ha.e g h.1.2).1 (hb.e g h.2).1) rfl
  all_goals cases h
theorem s_cmp {o : COp} {a b : IR} (ha : Snd T G C a) (hb : Snd T G C b) : SndE T G C (.cmp o a b) := fun {X Wx Q} g {x} h => by
  cases x
  case Compare ea ops es pos =>
    rcases ops with _ | ⟨op, _ | ⟨_, _⟩⟩ <;> rcases es with _ | ⟨eb, _ | ⟨_, _⟩⟩ <;> try (cases h; done)
    have h : (copEq o op && notSet eb && chkE Q G a ea && chkE Q G b eb) = true := h
    simp only [Bool.and_eq_true] at h
    cases copEq_ok h.1.1.1
    exact ⟨snd_cmp g h.1.1.2 (ha.e g h.1.2).1 (hb.e g h.2).1, snd_cmpT g h.1.1.2 (ha.e g h.1.2).1 (hb.e g h.2).1⟩
  all_goals cases h
theorem s_ocmp {ne : Bool} {m : Nat} {a b : IR} (ha : Snd T G C a) (hb : Snd T G C b) : SndE T G C (.ocmp ne m a b) := fun {X Wx Q} g {x} h => by
  cases x
  case Compare ea ops es pos =>
    rcases ops with _ | ⟨op, _ | ⟨_, _⟩⟩ <;> rcases es with _ | ⟨eb, _ | ⟨_, _⟩⟩ <;> try (cases h; done)
    have h : (Q.calm && copEq (if ne then .ne else .eq) op && notSet eb && notStar eb && decide (Q.nm[m]? = some ("__eq__" : Str)) && methB Q G m [eb] [] (.cons b .nil) .nil [.inl 0, .inl 1] && chkE Q G a ea && chkE Q G b eb) = true := h
    simp only [Bool.and_eq_true, decide_eq_true_eq] at h
    obtain ⟨⟨⟨⟨⟨⟨⟨h1, h2⟩, h3⟩, h4⟩, h5⟩, h6⟩, h7⟩, h8⟩ := h
    cases copEq_ok h2
    exact snd_ocmp g h1 h3 h5 (methB_ok h6) (ha.e g h7).1 (hb.e g h8).1
  all_goals cases h
theorem s_ostr {m : Nat} {a : IR} (ha : Snd T G C a) : SndE T G C (.ostr m a) := fun {X Wx Q} g {x} h => by
  cases x
  case Call fe es kws pos =>
    cases fe
    case Name y p =>
      rcases es with _ | ⟨e, _ | ⟨_, _⟩⟩ <;> rcases kws with _ | ⟨_, _⟩ <;> try (cases h; done)
      have h : (Q.calm && (y == ("str" : Str)) && blB Q y && notStar e && decide (Q.nm[m]? = some ("__str__" : Str)) && methB Q G m [] [] .nil .nil [.inl 0] && chkE Q G a e) = true := h
      simp only [Bool.and_eq_true, decide_eq_true_eq, beq_iff_eq] at h
      obtain ⟨⟨⟨⟨⟨⟨h1, h2⟩, h3⟩, h4⟩, h5⟩, h6⟩, h7⟩ := h
      exact val g (snd_ostr g h1 h2 (blB_ok h3).1 (blB_ok h3).2 h4 h5 (methB_ok h6) (ha.e g h7).1) rfl
    all_goals cases h
  all_goals cases h
theorem s_chain {o1 o2 : COp} {a b c : IR} (ha : Snd T G C a) (hb : Snd T G C b) (hc : Snd T G C c) : SndE T G C (.chain o1 o2 a b c) := fun {X Wx Q} g {x} h => by
  cases x
  case Compare ea ops es pos =>
    rcases ops with _ | ⟨p1, _ | ⟨p2, _ | ⟨_, _⟩⟩⟩ <;> rcases es with _ | ⟨eb, _ | ⟨ec, _ | ⟨_, _⟩⟩⟩ <;> try (cases h; done)
    have h : (copEq o1 p1 && copEq o2 p2 && notSet ec && chkE Q G a ea && chkE Q G b eb && chkE Q G c ec) = true := h
    simp only [Bool.and_eq_true] at h
    cases copEq_ok h.1.1.1.1.1
    cases copEq_ok h.1.1.1.1.2
    exact snd_chain g h.1.1.1.2 (ha.e g h.1.1.2).1 (hb.e g h.1.2).1 (hc.e g h.2).1
  all_goals cases h
theorem s_neg {a : IR} (ha : Snd T G C a) : SndE T G C (.neg a) := fun {X Wx Q} g {x} h => by
  cases x
  case UnaryOp op e pos =>
    cases op
    case USub => exact val g (snd_neg g (ha.e g h).1) rfl
    all_goals cases h
  all_goals cases h
theorem s_not {a : IR} (ha : Snd T G C a) : SndE T G C (.not a) := fun {X Wx Q} g {x} h => by
  cases x
  case UnaryOp op e pos =>
    cases op
    case Not => exact ⟨snd_not g (ha.e g h).1, snd_notT g (ha.e g h).2⟩
    all_goals cases h
  all_goals cases h
theorem s_and {a b : IR} (ha : Snd T G C a) (hb : Snd T G C b) : SndE T G C (.and a b) := fun {X Wx Q} g {x} h => by
  cases x
  case BoolOp op es pos =>
    rcases es with _ | ⟨ea, _ | ⟨eb, rest⟩⟩ <;> cases op <;> try (cases h; done)
    have h : (chkE Q G a ea && chkE Q G b (boolRest .And eb rest pos)) = true := h
    simp only [Bool.and_eq_true] at h
    exact ⟨snd_and g (ha.e g h.1).1 (hb.e g h.2).1, snd_andT g (ha.e g h.1).2 (hb.e g h.2).2⟩
  all_goals cases h
theorem s_or {a b : IR} (ha : Snd T G C a) (hb : Snd T G C b) : SndE T G C (.or a b) := fun {X Wx Q} g {x} h => by
  cases x
  case BoolOp op es pos =>
    rcases es with _ | ⟨ea, _ | ⟨eb, rest⟩⟩ <;> cases op <;> try (cases h; done)
    have h : (chkE Q G a ea && chkE Q G b (boolRest .Or eb rest pos)) = true := h
    simp only [Bool.and_eq_true] at h
    exact ⟨snd_or g (ha.e g h.1).1 (hb.e g h.2).1, snd_orT g (ha.e g h.1).2 (hb.e g h.2).2⟩
  all_goals cases h
theorem s_ite {c a b : IR} (hc : Snd T G C c) (ha : Snd T G C a) (hb : Snd T G C b) : SndE T G C (.ite c a b) := fun {X Wx Q} g {x} h => by
  cases x
  case IfExp ec ea eb pos =>
    have h : (chkE Q G c ec && chkE Q G a ea && chkE Q G b eb) = true := h
    simp only [Bool.and_eq_true] at h
    exact ⟨snd_ite g (hc.e g h.1.1).2 (ha.e g h.1.2).1 (hb.e g h.2).1, snd_iteT g (hc.e g h.1.1).2 (ha.e g h.1.2).2 (hb.e g h.2).2⟩
  all_goals cases h
theorem s_call {f : Nat} {l kw : IR} {perm : List (Sum Nat PV)} (hl : Snd T G C l) (hk : Snd T G C kw) : SndE T G C (.call f l kw perm) := fun {X Wx Q} g {x} h => by
  cases x
  case Call fe es kws pos =>
    cases fe
    case Name y p =>
      have h : (Q.calm && okName y && glB Q.sc y && decide (Q.gf[f]? = some (some y)) && callB Q f 0 es kws l kw perm && chkA Q G l es && chkK Q G kw kws) = true := h
      simp only [Bool.and_eq_true, decide_eq_true_eq] at h
      obtain ⟨⟨⟨⟨⟨⟨h1, h2⟩, h3⟩, h4⟩, h5⟩, h6⟩, h7⟩ := h
      obtain ⟨ps, dvs, ks, co⟩ := callB_ok h5
      exact val g (snd_call g h1 h2 h3 h4 co (hl.a g h6) (hk.k g h7)) rfl
    all_goals cases h
  all_goals cases h
theorem s_new {c : Nat} {l kw : IR} {perm : List (Sum Nat PV)} (hl : Snd T G C l) (hk : Snd T G C kw) : SndE T G C (.new c l kw perm) := fun {X Wx Q} g {x} h => by
  cases x
  case Call fe es kws pos =>
    cases fe
    case Name y p =>
      have h : (Q.calm && okName y && glB Q.sc y && decide (Q.gc[c]? = some y) && (match G.cls[c]? with
        | some ci => callB Q ci.init 1 es kws l kw perm
        | none => false) && chkA Q G l es && chkK Q G kw kws) = true := h
      simp only [Bool.and_eq_true, decide_eq_true_eq] at h
      obtain ⟨⟨⟨⟨⟨⟨h1, h2⟩, h3⟩, h4⟩, h5⟩, h6⟩, h7⟩ := h
      cases hc : G.cls[c]? with
      | none => rw [hc] at h5; cases h5
      | some ci =>
        rw [hc] at h5
        obtain ⟨ps, dvs, ks, co⟩ := callB_ok h5
        exact val g (snd_new (f := 0) g h1 h2 h3 h4 hc co (hl.a g h6) (hk.k g h7)) rfl
    all_goals cases h
  all_goals cases h
theorem s_meth {m : Nat} {o l kw : IR} {perm : List (Sum Nat PV)} (ho : Snd T G C o) (hl : Snd T G C l) (hk : Snd T G C kw) : SndE T G C (.meth m o l kw perm) := fun {X Wx Q} g {x} h => by
  cases x
  case Call fe es kws pos =>
    cases fe
    case Attribute eo name apos =>
      have h : (Q.calm && decide (Q.nm[m]? = some name) && notCall0 eo && noStars es && (kwNames kws).isSome && decide (es.length + kws.length + 1 < 30) && (apos.endLine == pos.line) && methB Q G m es kws l kw perm && (!isNilE es || l.isNil) && chkE Q G o eo && chkA Q G l es && chkK Q G kw kws) = true := h
      simp only [Bool.and_eq_true, decide_eq_true_eq] at h
      obtain ⟨⟨⟨⟨⟨⟨⟨⟨⟨⟨⟨h1, h2⟩, h3⟩, h4⟩, h5⟩, h6⟩, h7⟩, h8⟩, h9⟩, h10⟩, h11⟩, h12⟩ := h
      obtain ⟨ks, hks⟩ := Option.isSome_iff_exists.mp h5
      exact val g (snd_meth g h1 h2 h3 h4 hks h6 h7 (methB_ok h8) (ho.e g h10).1 (hl.a g h11) (hk.k g h12) (nil_no h9)) rfl
    all_goals cases h
  all_goals cases h
theorem s_bfn {b : BFn} {l : IR} (hl : Snd T G C l) : SndE T G C (.bfn b l) := fun {X Wx Q} g {x} h => by
  cases x
  case Call fe es kws pos =>
    cases fe
    case Name y p =>
      rcases es with _ | ⟨e, es⟩ <;> rcases kws with _ | ⟨_, _⟩ <;> try (cases h; done)
      have h : ((y == bname b) && blB Q y && (!bCalm b || Q.calm) && noStars (e :: es) && chkA Q G l (e :: es)) = true := h
      simp only [Bool.and_eq_true, beq_iff_eq] at h
      obtain ⟨⟨⟨⟨h1, h2⟩, h3⟩, h4⟩, h5⟩ := h
      exact val g (snd_bfn g (fun hb => by rw [hb] at h3; simpa using h3) h1 (blB_ok h2).1 (blB_ok h2).2 h4 (hl.a g h5)) rfl
    all_goals cases h
  all_goals cases h
theorem s_listR {a : IR} (ha : Snd T G C a) : SndE T G C (.listR a) := fun {X Wx Q} g {x} h => by
  cases x
  case Call fe es kws pos =>
    cases fe
    case Name y p =>
      rcases es with _ | ⟨e, _ | ⟨_, _⟩⟩ <;> rcases kws with _ | ⟨_, _⟩ <;> try (cases h; done)
      have h : ((y == bname .list) && blB Q y && notStar e && chkE Q G a e) = true := h
      simp only [Bool.and_eq_true, beq_iff_eq] at h
      obtain ⟨⟨⟨h1, h2⟩, h3⟩, h4⟩ := h
      exact val g (snd_listR g h1 (blB_ok h2).1 (blB_ok h2).2 h3 (ha.e g h4).1) rfl
    all_goals cases h
  all_goals cases h
theorem s_bmt {b : BMt} {o l : IR} (ho : Snd T G C o) (hl : Snd T G C l) : SndE T G C (.bmt b o l) := fun {X Wx Q} g {x} h => by
  cases x
  case Call fe es kws pos =>
    cases fe
    case Attribute eo name apos =>
      rcases es with _ | ⟨e, es⟩ <;> rcases kws with _ | ⟨_, _⟩ <;> try (cases h; done)
      have h : ((name == bmName b) && notCall0 eo && noStars (e :: es) && decide ((e :: es).length < 30) && (apos.endLine == pos.line) && chkE Q G o eo && chkA Q G l (e :: es)) = true := h
      simp only [Bool.and_eq_true, beq_iff_eq, decide_eq_true_eq] at h
      obtain ⟨⟨⟨⟨⟨⟨h1, h2⟩, h3⟩, h4⟩, h5⟩, h6⟩, h7⟩ := h
      exact val g (snd_bmt g h1 h2 h3 h4 (beq_iff_eq.mpr h5) (ho.e g h6).1 (hl.a g h7)) rfl
    all_goals cases h
  all_goals cases h
theorem s_mmt {b : MMt} {o l : IR} (ho : Snd T G C o) (hl : Snd T G C l) : SndE T G C (.mmt b o l) := fun {X Wx Q} g {x} h => by
  cases x
  case Call fe es kws pos =>
    cases fe
    case Attribute eo name apos =>
      rcases kws with _ | ⟨_, _⟩ <;> try (cases h; done)
      have h : (mmB b && (name == mmName b) && notCall0 eo && noStars es && decide (es.length < 30) && (apos.endLine == pos.line) && (!isNilE es || l.isNil) && chkE Q G o eo && chkA Q G l es) = true := h
      simp only [Bool.and_eq_true, beq_iff_eq, decide_eq_true_eq] at h
      obtain ⟨⟨⟨⟨⟨⟨⟨⟨h0, h1⟩, h2⟩, h3⟩, h4⟩, h5⟩, h6⟩, h7⟩, h8⟩ := h
      exact val g (snd_mmt g (fun e => by subst e; cases h0) h1 h2 h3 h4 (beq_iff_eq.mpr h5) (nil_no h6) (ho.e g h7).1 (hl.a g h8)) rfl
    all_goals cases h
  all_goals cases h
theorem tyB_ok {X : Cx} {Wx : WXi} {Q : Sc} (g : Good X T G C Wx Q) {t : ITy} {e : Expr} (h : tyB Q G t e = true) : (∀ c, t = .own c → c < G.cls.length) ∧ ∃ c, PE X e (tC c) ∧ ClsV c (itVal T t) := by
  unfold tyB at h
  split at h
  · rename_i c y p
    simp only [Bool.and_eq_true, decide_eq_true_eq] at h
    exact ⟨fun d e => by cases e; exact h.2, _, cls_own g h.1.1.1 h.1.2 h.1.1.2⟩
  · rename_i t' y p hn
    simp only [Bool.and_eq_true, beq_iff_eq] at h
    exact ⟨fun d e => (by subst e; cases h.1.1.1), _, cls_ty g h.1.1.1 h.1.1.2 (blB_ok h.1.2).1 (blB_ok h.1.2).2 h.2⟩
  · cases h
theorem s_isI {a : IR} {t : ITy} (ha : Snd T G C a) : SndE T G C (.isI a t) := fun {X Wx Q} g {x} h => by
  cases x
  case Call fe es kws pos =>
    cases fe
    case Name y p =>
      rcases es with _ | ⟨e, _ | ⟨e2, _ | ⟨_, _⟩⟩⟩ <;> rcases kws with _ | ⟨_, _⟩ <;> try (cases h; done)
      have h : ((y == ("isinstance" : Str)) && blB Q y && notStar e && notStar e2 && tyB Q G t e2 && chkE Q G a e) = true := h
      simp only [Bool.and_eq_true, beq_iff_eq] at h
      obtain ⟨⟨⟨⟨⟨h1, h2⟩, h3⟩, h4⟩, h5⟩, h6⟩ := h
      exact val g (snd_isI g h1 (blB_ok h2).1 (blB_ok h2).2 h3 h4 (tyB_ok g h5).1 (ha.e g h6).1 (tyB_ok g h5).2) rfl
    all_goals cases h
  all_goals cases h
theorem s_attr {o : IR} {f : Nat} (ho : Snd T G C o) : SndE T G C (.attr o f) := fun {X Wx Q} g {x} h => by
  cases x
  case Attribute e name pos =>
    have h : (decide (Q.nm[f]? = some name) && notCall0 e && chkE Q G o e) = true := h
    simp only [Bool.and_eq_true, decide_eq_true_eq] at h
    exact val g (snd_attr g h.1.1 h.1.2 (ho.e g h.2).1) rfl
  all_goals cases h
theorem s_idx {o i : IR} (ho : Snd T G C o) (hi : Snd T G C i) : SndE T G C (.idx o i) := fun {X Wx Q} g {x} h => by
  cases x
  case Subscript ea eb pos =>
    have h : (notSlice eb && chkE Q G o ea && chkE Q G i eb) = true := h
    simp only [Bool.and_eq_true] at h
    exact val g (snd_idx g h.1.1 (ho.e g h.1.2).1 (hi.e g h.2).1) rfl
  all_goals cases h
theorem o_ok {X : Cx} {Wx : WXi} {Q : Sc} (g : Good X T G C Wx Q) {ir : IR} (hi : Snd T G C ir) {o : Option Expr} (h : (match o with
      | none => ir.isNil
      | some x => !ir.isNil && chkE Q G ir x) = true) : PoO X T G C Wx o ir := by
  cases o with
  | none => cases ir <;> first | rfl | cases h
  | some x =>
    simp only [Bool.and_eq_true] at h
    exact ⟨bnot_of h.1, (hi.e g h.2).1⟩
theorem s_slc {o lo hi : IR} (ho : Snd T G C o) (hlo : Snd T G C lo) (hhi : Snd T G C hi) : SndE T G C (.slc o lo hi) := fun {X Wx Q} g {x} h => by
  unfold chkE at h
  split at h
  all_goals first | contradiction | skip
  rename_i e1
  cases e1
  simp only [Bool.and_eq_true] at h
  exact val g (snd_slc g (ho.e g h.1.1).1 (o_ok g hlo h.1.2) (o_ok g hhi h.2)) rfl
theorem s_rev {o : IR} (ho : Snd T G C o) : SndE T G C (.rev o) := fun {X Wx Q} g {x} h => by
  unfold chkE at h
  split at h
  all_goals first | contradiction | skip
  rename_i o' e k p1 p2 p3 pos e1
  cases e1
  exact val g (snd_rev g (ho.e g h).1) rfl
theorem comp_ok {X : Cx} {Wx : WXi} {Q : Sc} (g : Good X T G C Wx Q) {own : List Nat} {p : Pat} {it elt cond : IR} {eelt tg iter : Expr} {ifs : List Expr} {scope : Scope} (hi : Snd T G C it) (he : Snd T G C elt) (hc : Snd T G C cond)
    (h : (Q.calm && blkC Q.N Q.sc scope (ownP Q own) && chkP (Q.blk scope) p tg && (pvars p).all (fun i => decide (i ∈ own)) && (!tpOf it || (patTup p && isTupE tg)) && notSet iter && chkI Q G it iter && chkE (Q.blk scope) G elt eelt && (match ifs with
      | [] => isYes cond
      | [c] => chkE (Q.blk scope) G cond c
      | _ => false)) = true) : CompOk X T G C Wx Q own p it elt cond (tpOf it) eelt tg iter ifs scope := by
  simp only [Bool.and_eq_true] at h
  obtain ⟨⟨⟨⟨⟨⟨⟨⟨h1, h2⟩, h3⟩, h4⟩, h5⟩, h6⟩, h7⟩, h8⟩, h9⟩ := h
  have h5' : tpOf it = true → patTup p = true ∧ isTupE tg = true := fun e => by rw [e] at h5; simpa using h5
  exact {
    hi := hi.i g h7 fun e => (h5' e).2
    hb := h2
    hp := h3
    hv := fun i hi => of_decide_eq_true (List.all_eq_true.mp h4 i hi)
    htp := fun e => (h5' e).1
    hc := fun X' g' => by
      rcases ifs with _ | ⟨c, _ | ⟨_, _⟩⟩
      · have h9 : isYes cond = true := h9
        unfold isYes at h9
        split at h9
        · exact snd_noifs
        · cases h9
      · exact pts_one (hc.e g' h9).2
      · cases h9
    he := fun X' g' => (he.e g' h8).1
    hs := h6
    hq := h1 }
theorem s_comp {own : List Nat} {p : Pat} {it elt cond : IR} (hi : Snd T G C it) (he : Snd T G C elt) (hc : Snd T G C cond) : SndE T G C (.comp own p it elt cond) := fun {X Wx Q} g {x} h => by
  unfold chkE at h
  split at h
  all_goals first | contradiction | skip
  rename_i e1
  cases e1
  exact val g (snd_comp g (comp_ok g hi he hc h)) rfl
theorem s_compR {own : List Nat} {p : Pat} {it elt cond : IR} (hi : Snd T G C it) (he : Snd T G C elt) (hc : Snd T G C cond) : SndE T G C (.compR own p it elt cond) := fun {X Wx Q} g {x} h => by
  unfold chkE at h
  split at h
  all_goals first | contradiction | skip
  rename_i e1
  cases e1
  exact val g (snd_compR g (comp_ok g hi he hc h)) rfl
theorem s_fmt {a : IR} (ha : Snd T G C a) : SndE T G C (.fmt a) := fun {X Wx Q} g {x} h => by
  unfold chkE at h
  split at h
  all_goals first | contradiction | skip
  rename_i e1
  cases e1
  exact val g (snd_fmt (ha.e g h).1) rfl
theorem s_fstr {l : IR} (hl : Snd T G C l) : SndE T G C (.fstr l) := fun {X Wx Q} g {x} h => by
  cases x
  case JoinedStr es pos =>
    rcases es with _ | ⟨e1, _ | ⟨e2, es⟩⟩ <;> try (cases h; done)
    exact val g (snd_fstr (hl.j g h)) rfl
  all_goals cases h
theorem s_one {a : IR} (ha : Snd T G C a) : SndE T G C (.one a) := fun {X Wx Q} g {x} h => by
  cases x
  case JoinedStr es pos =>
    rcases es with _ | ⟨e1, _ | ⟨e2, es⟩⟩ <;> try (cases h; done)
    exact val g (PE.imp (pe_joined1 (ha.e g h).1) fun σ H K ⟨W, env, S, br, er, p⟩ => ⟨W, env, S, br, er, by simpa only [ev] using p⟩) rfl
  all_goals cases h
theorem no_e {ir : IR} (h : ∀ Q x, chkE Q G ir x = false) : SndE T G C ir := fun {X Wx Q} g {x} e => by rw [h] at e; cases e
theorem a_no {ir : IR} (h : ∀ Q x, chkA Q G ir x = false) {X : Cx} {Wx : WXi} {Q : Sc} {x : List Expr} (e : chkA Q G ir x = true) : PA X x (tEs T G C Wx ir) := by rw [h] at e; cases e
theorem k_no {ir : IR} (h : ∀ Q x, chkK Q G ir x = false) {X : Cx} {Wx : WXi} {Q : Sc} {x : List Keyword} (e : chkK Q G ir x = true) : PK X x (tEs T G C Wx ir) := by rw [h] at e; cases e
theorem j_no {ir : IR} (h : ∀ Q x, chkJ Q G ir x = false) {X : Cx} {Wx : WXi} {Q : Sc} {x : List Expr} (e : chkJ Q G ir x = true) : PJl X T G C Wx x ir := by rw [h] at e; cases e
theorem i_no {ir : IR} (h : ∀ Q x, chkI Q G ir x = false) {X : Cx} {Wx : WXi} {Q : Sc} {x tg : Expr} (e : chkI Q G ir x = true) : PI X tg x (tI T G C Wx (tpOf ir) ir) := by rw [h] at e; cases e
/-- an expression, that is no list and no iterable -/
theorem only {ir : IR} (he : SndE T G C ir) (ha : ∀ Q x, chkA Q G ir x = false) (hk : ∀ Q x, chkK Q G ir x = false) (hj : ∀ Q x, chkJ Q G ir x = false) (hi : ∀ Q x, chkI Q G ir x = false) : Snd T G C ir where
  e := he
  a := fun _ _ h => a_no ha h
  k := fun _ _ h => k_no hk h
  j := fun _ _ h => j_no hj h
  i := fun _ _ _ h _ => i_no hi h
theorem l_nil : Snd T G C .nil where
  e := no_e fun _ _ => rfl
  a := fun {X Wx Q} g {x} h => by
    cases x
    · exact snd_nil
    · cases h
  k := fun {X Wx Q} g {x} h => by
    cases x
    · exact snd_knil
    · cases h
  j := fun {X Wx Q} g {x} h => by
    cases x
    · trivial
    · cases h
  i := fun _ _ _ h _ => i_no (fun _ _ => rfl) h
theorem l_cons {a b : IR} (ha : Snd T G C a) (hb : Snd T G C b) : Snd T G C (.cons a b) where
  e := no_e fun _ _ => rfl
  a := fun {X Wx Q} g {x} h => by
    cases x with
    | nil => cases h
    | cons e es =>
      have h : (notStar e && chkE Q G a e && chkA Q G b es) = true := h
      simp only [Bool.and_eq_true] at h
      exact snd_cons h.1.1 (ha.e g h.1.2).1 (hb.a g h.2)
  k := fun {X Wx Q} g {x} h => by
    cases x with
    | nil => cases h
    | cons e es =>
      obtain ⟨n, e, p⟩ := e
      have h : (chkE Q G a e && chkK Q G b es) = true := h
      simp only [Bool.and_eq_true] at h
      exact snd_kcons (ha.e g h.1).1 (hb.k g h.2)
  j := fun {X Wx Q} g {x} h => by
    cases x with
    | nil => cases h
    | cons e es =>
      have h : (chkE Q G a e && chkJ Q G b es) = true := h
      simp only [Bool.and_eq_true] at h
      exact ⟨(ha.e g h.1).1, hb.j g h.2⟩
  i := fun _ _ _ h _ => i_no (fun _ _ => rfl) h
theorem l_star {a b : IR} (ha : Snd T G C a) (hb : Snd T G C b) : Snd T G C (.star a b) where
  e := no_e fun _ _ => rfl
  a := fun {X Wx Q} g {x} h => by
    unfold chkA at h
    split at h
    all_goals first | contradiction | skip
    rename_i e1
    cases e1
    simp only [Bool.and_eq_true] at h
    exact snd_star g (ha.e g h.1).1 (hb.a g h.2)
  k := fun _ _ h => k_no (fun _ _ => rfl) h
  j := fun _ _ h => j_no (fun _ _ => rfl) h
  i := fun _ _ _ h _ => i_no (fun _ _ => rfl) h
theorem l_itV {a : IR} (ha : Snd T G C a) : Snd T G C (.itV a) where
  e := no_e fun _ _ => rfl
  a := fun _ _ h => a_no (fun _ _ => rfl) h
  k := fun _ _ h => k_no (fun _ _ => rfl) h
  j := fun _ _ h => j_no (fun _ _ => rfl) h
  i := fun {X Wx Q} g x tg h ht => snd_itV g (ha.e g h).1
theorem l_itR1 {a : IR} (ha : Snd T G C a) : Snd T G C (.itR1 a) where
  e := no_e fun _ _ => rfl
  a := fun _ _ h => a_no (fun _ _ => rfl) h
  k := fun _ _ h => k_no (fun _ _ => rfl) h
  j := fun _ _ h => j_no (fun _ _ => rfl) h
  i := fun {X Wx Q} g x tg h ht => by
    unfold chkI at h
    split at h
    all_goals first | contradiction | skip
    rename_i e1
    cases e1
    simp only [Bool.and_eq_true, beq_iff_eq] at h
    exact snd_itR1 g h.1.1.1 (blB_ok h.1.1.2).1 (blB_ok h.1.1.2).2 h.1.2 (ha.e g h.2).1
theorem l_itR2 {a b : IR} (ha : Snd T G C a) (hb : Snd T G C b) : Snd T G C (.itR2 a b) where
  e := no_e fun _ _ => rfl
  a := fun _ _ h => a_no (fun _ _ => rfl) h
  k := fun _ _ h => k_no (fun _ _ => rfl) h
  j := fun _ _ h => j_no (fun _ _ => rfl) h
  i := fun {X Wx Q} g x tg h ht => by
    unfold chkI at h
    split at h
    all_goals first | contradiction | skip
    rename_i e1
    cases e1
    simp only [Bool.and_eq_true, beq_iff_eq] at h
    obtain ⟨⟨⟨⟨⟨h1, h2⟩, h3⟩, h4⟩, h5⟩, h6⟩ := h
    exact snd_itR2 g h1 (blB_ok h2).1 (blB_ok h2).2 h3 h4 (ha.e g h5).1 (hb.e g h6).1
theorem l_itEnum {a : IR} (ha : Snd T G C a) : Snd T G C (.itEnum a) where
  e := no_e fun _ _ => rfl
  a := fun _ _ h => a_no (fun _ _ => rfl) h
  k := fun _ _ h => k_no (fun _ _ => rfl) h
  j := fun _ _ h => j_no (fun _ _ => rfl) h
  i := fun {X Wx Q} g x tg h ht => by
    have ht := ht rfl
    unfold chkI at h
    split at h
    all_goals first | contradiction | skip
    rename_i e1
    cases e1
    simp only [Bool.and_eq_true, beq_iff_eq] at h
    cases tg
    case Tuple elts kk tpos => exact snd_itEnum g h.1.1.1 (blB_ok h.1.1.2).1 (blB_ok h.1.1.2).2 h.1.2 (ha.e g h.2).1
    all_goals cases ht
theorem snd : ∀ ir : IR, Snd T G C ir := fun ir => by
  induction ir with
  | k v => exact only (s_k v) (fun _ _ => rfl) (fun _ _ => rfl) (fun _ _ => rfl) fun _ _ => rfl
  | var i => exact only (s_var i) (fun _ _ => rfl) (fun _ _ => rfl) (fun _ _ => rfl) fun _ _ => rfl
  | xattr i f => exact only (s_xattr i f) (fun _ _ => rfl) (fun _ _ => rfl) (fun _ _ => rfl) fun _ _ => rfl
  | xis i d => exact only (no_e fun _ _ => rfl) (fun _ _ => rfl) (fun _ _ => rfl) (fun _ _ => rfl) fun _ _ => rfl
  | nil => exact l_nil
  | cons a b ha hb => exact l_cons ha hb
  | star a b ha hb => exact l_star ha hb
  | tup l hl => exact only (s_tup hl) (fun _ _ => rfl) (fun _ _ => rfl) (fun _ _ => rfl) fun _ _ => rfl
  | lst l hl => exact only (s_lst hl) (fun _ _ => rfl) (fun _ _ => rfl) (fun _ _ => rfl) fun _ _ => rfl
  | lstR l hl => exact only (s_lstR hl) (fun _ _ => rfl) (fun _ _ => rfl) (fun _ _ => rfl) fun _ _ => rfl
  | bin o a b ha hb => exact only (s_bin ha hb) (fun _ _ => rfl) (fun _ _ => rfl) (fun _ _ => rfl) fun _ _ => rfl
  | cmp o a b ha hb => exact only (s_cmp ha hb) (fun _ _ => rfl) (fun _ _ => rfl) (fun _ _ => rfl) fun _ _ => rfl
  | chain o1 o2 a b c ha hb hc => exact only (s_chain ha hb hc) (fun _ _ => rfl) (fun _ _ => rfl) (fun _ _ => rfl) fun _ _ => rfl
  | neg a ha => exact only (s_neg ha) (fun _ _ => rfl) (fun _ _ => rfl) (fun _ _ => rfl) fun _ _ => rfl
  | not a ha => exact only (s_not ha) (fun _ _ => rfl) (fun _ _ => rfl) (fun _ _ => rfl) fun _ _ => rfl
  | and a b ha hb => exact only (s_and ha hb) (fun _ _ => rfl) (fun _ _ => rfl) (fun _ _ => rfl) fun _ _ => rfl
  | or a b ha hb => exact only (s_or ha hb) (fun _ _ => rfl) (fun _ _ => rfl) (fun _ _ => rfl) fun _ _ => rfl
  | ite c a b hc ha hb => exact only (s_ite hc ha hb) (fun _ _ => rfl) (fun _ _ => rfl) (fun _ _ => rfl) fun _ _ => rfl
  | call f l kw perm hl hk => exact only (s_call hl hk) (fun _ _ => rfl) (fun _ _ => rfl) (fun _ _ => rfl) fun _ _ => rfl
  | new c l kw perm hl hk => exact only (s_new hl hk) (fun _ _ => rfl) (fun _ _ => rfl) (fun _ _ => rfl) fun _ _ => rfl
  | meth m o l kw perm ho hl hk => exact only (s_meth ho hl hk) (fun _ _ => rfl) (fun _ _ => rfl) (fun _ _ => rfl) fun _ _ => rfl
  | bfn b l hl => exact only (s_bfn hl) (fun _ _ => rfl) (fun _ _ => rfl) (fun _ _ => rfl) fun _ _ => rfl
  | listR a ha => exact only (s_listR ha) (fun _ _ => rfl) (fun _ _ => rfl) (fun _ _ => rfl) fun _ _ => rfl
  | bmt b o l ho hl => exact only (s_bmt ho hl) (fun _ _ => rfl) (fun _ _ => rfl) (fun _ _ => rfl) fun _ _ => rfl
  | mmt b o l ho hl => exact only (s_mmt ho hl) (fun _ _ => rfl) (fun _ _ => rfl) (fun _ _ => rfl) fun _ _ => rfl
  | isI a t ha => exact only (s_isI ha) (fun _ _ => rfl) (fun _ _ => rfl) (fun _ _ => rfl) fun _ _ => rfl
  | attr o f ho => exact only (s_attr ho) (fun _ _ => rfl) (fun _ _ => rfl) (fun _ _ => rfl) fun _ _ => rfl
  | idx o i ho hi => exact only (s_idx ho hi) (fun _ _ => rfl) (fun _ _ => rfl) (fun _ _ => rfl) fun _ _ => rfl
  | slc o lo hi ho hl hh => exact only (s_slc ho hl hh) (fun _ _ => rfl) (fun _ _ => rfl) (fun _ _ => rfl) fun _ _ => rfl
  | rev o ho => exact only (s_rev ho) (fun _ _ => rfl) (fun _ _ => rfl) (fun _ _ => rfl) fun _ _ => rfl
  | itV e he => exact l_itV he
  | itR1 a ha => exact l_itR1 ha
  | itR2 a b ha hb => exact l_itR2 ha hb
  | itEnum e he => exact l_itEnum he
  | itZip a b ha hb => exact only (no_e fun _ _ => rfl) (fun _ _ => rfl) (fun _ _ => rfl) (fun _ _ => rfl) fun _ _ => rfl
  | comp own p it elt cond hi he hc => exact only (s_comp hi he hc) (fun _ _ => rfl) (fun _ _ => rfl) (fun _ _ => rfl) fun _ _ => rfl
  | compR own p it elt cond hi he hc => exact only (s_compR hi he hc) (fun _ _ => rfl) (fun _ _ => rfl) (fun _ _ => rfl) fun _ _ => rfl
  | fmt a ha => exact only (s_fmt ha) (fun _ _ => rfl) (fun _ _ => rfl) (fun _ _ => rfl) fun _ _ => rfl
  | fstr l hl => exact only (s_fstr hl) (fun _ _ => rfl) (fun _ _ => rfl) (fun _ _ => rfl) fun _ _ => rfl
  | ocmp ne m a b ha hb => exact only (s_ocmp ha hb) (fun _ _ => rfl) (fun _ _ => rfl) (fun _ _ => rfl) fun _ _ => rfl
  | ostr m a ha => exact only (s_ostr ha) (fun _ _ => rfl) (fun _ _ => rfl) (fun _ _ => rfl) fun _ _ => rfl
  | one a ha => exact only (s_one ha) (fun _ _ => rfl) (fun _ _ => rfl) (fun _ _ => rfl) fun _ _ => rfl
end
end RF
/-! Fz: the checker of statements. -/
namespace RF
open PySem L2
def isCompE : Expr → Bool
  | .ListComp _ [⟨_, _, _, 0⟩] _ _ => true
  | _ => false
def chkT (Q : Sc) (G : Gl) : Tg → List Expr → Bool
  | .nil, [] => true
  | .v i r, .Name x _ :: es => nameOk Q i x && chkT Q G r es
  | .ix o i r, .Subscript eo ei _ :: es => notSlice ei && chkE Q G o eo && chkE Q G i ei && chkT Q G r es
  | _, _ => false
/-- one target -/
def setB (Q : Sc) (G : Gl) (p : Pat) (e : IR) (tg x : Expr) : Bool :=
  chkE Q G e x && (if notComp x = true then (plainT [tg] x || noSwapB Q.sc [tg] x) && notStar tg && (match p, tg with
      | .v i, .Name y _ => nameOk Q i y
      | _, _ => Q.calm && chkP Q p tg)
    else isCompE x && (match p, tg with
      | .v i, .Name y _ => nameOk Q i y
      | _, _ => false))
def raiseB (Q : Sc) (G : Gl) (c : Nat) (l : IR) (x : Str) (es : List Expr) : Bool :=
  Q.calm && okName x && glB Q.sc x && decide (Q.ge[c]? = some x) && (match G.exs[c]? with
    | some xi => decide (xi.flds ≠ []) && decide (es.length = xi.flds.length)
    | none => false) && noStars es && !isNilE es && decide (consLen l = some es.length) && chkA Q G l es
mutual
def chkS (Q : Sc) (G : Gl) : IS → Stmt → Bool
  | .skip, .Pass _ => true
  | .skip, .Expr (.Constant (.str _) _ _) _ => true
  | .ret e, .Return (some x) _ => chkE Q G e x
  | .ret (.k .non), .Return none _ => true
  | .expr e, .Expr x _ => notComp x && chkE Q G e x
  | .ite c a b, .If ec ea eb _ => chkE Q G c ec && chkSs Q G a ea && chkSs Q G b eb
  | .set p e, .Assign [tg] x _ => setB Q G p e tg x
  | .par [i, j] l, .Assign [.Tuple [.Name x px, .Name y py] _ _] (.Tuple [a, b] _ _) _ => Q.calm && par2Ok Q i j x y px py a b && chkA Q G l [a, b]
  | .par [i, j, k] l, .Assign [.Tuple [.Name x px, .Name y py, .Name z pz] _ _] (.Tuple [a, b, c] _ _) _ => Q.calm && par3Ok Q i j k x y z px py pz a b c && chkA Q G l [a, b, c]
  | .setT ts e, .Assign [.Tuple es k p] x _ => Q.calm && chkT Q G ts es && notComp x && (plainT [.Tuple es k p] x || noSwapB Q.sc [.Tuple es k p] x) && chkE Q G e x
  | .setAttr o f e, .Assign [.Attribute eo name _] x _ => decide (Q.nm[f]? = some name) && chkE Q G o eo && chkE Q G e x
  | .setIdx o i e, .Assign [.Subscript eo ei _] x _ => notSlice ei && chkE Q G o eo && chkE Q G i ei && chkE Q G e x
  | .aug i o e, .AugAssign (.Name x _) op ee _ => (decide (o = .add) || decide (o = .sub)) && bopEq o op && nameOk Q i x && chkE Q G e ee
  | .for p it b, .For tg iter body [] _ => Q.calm && chkI Q G it iter && (!tpOf it || (patTup p && isTupE tg)) && chkP Q p tg && notSet iter && chkSs Q G b body
  | .while c b, .While ec body [] _ => Q.calm && chkE Q G c ec && chkSs Q G b body
  | .raise c l, .Raise (some (.Call (.Name x _) es [] _)) none _ => raiseB Q G c l x es
  | .try_ b [c] (some i) h, .Try body [.ExceptHandler (some (.Name x _)) (some n) (b₀ :: suite) _] [] [] _ => Q.calm && glB Q.sc x && okName x && decide (Q.ge[c]? = some x) && decide (Q.N[i]? = some n) && isLocal Q.sc n && chkSs Q G b body && chkSs Q.hot G h (b₀ :: suite)
  | .brk, .Break _ => true
  | _, _ => false
termination_by structural x => x
def chkSs (Q : Sc) (G : Gl) : IS → List Stmt → Bool
  | .skip, [] => true
  | .seq a b, st :: rest => chkS Q G a st && chkSs Q G b rest
  | _, _ => false
termination_by structural x => x
end
/-- what is known where a statement is run -/
structure GoodT (X : Cx) (T : Cs) (G : Gl) (C : CallF) (Wx : WXi) (Q : Sc) : Prop where
  g : Good X T G C Wx Q
  s : Q.calm = true → GoodS X T G C Wx Q
structure SndS (T : Cs) (G : Gl) (C : CallF) (i : IS) : Prop where
  o : ∀ {X : Cx} {Wx : WXi} {Q : Sc}, GoodT X T G C Wx Q → ∀ {x : Stmt}, chkS Q G i x = true → PS X x (tS T G C Wx i)
  m : ∀ {X : Cx} {Wx : WXi} {Q : Sc}, GoodT X T G C Wx Q → ∀ {x : List Stmt}, chkSs Q G i x = true → PSs X x (tS T G C Wx i)
section
variable {T : Cs} {G : Gl} {C : CallF}
theorem no_m {i : IS} (h : ∀ Q x, chkSs Q G i x = false) {X : Cx} {Wx : WXi} {Q : Sc} {x : List Stmt} (e : chkSs Q G i x = true) : PSs X x (tS T G C Wx i) := by rw [h] at e; cases e
theorem no_o {i : IS} (h : ∀ Q x, chkS Q G i x = false) {X : Cx} {Wx : WXi} {Q : Sc} {x : Stmt} (e : chkS Q G i x = true) : PS X x (tS T G C Wx i) := by rw [h] at e; cases e
theorem stores_ok {X : Cx} {Wx : WXi} {Q : Sc} (g : Good X T G C Wx Q) {ts : List Expr} {x : Expr} (h : (plainT ts x || noSwapB Q.sc ts x) = true) : swappedStores ts x X.env = pure none := by
  rcases Bool.or_eq_true _ _ |>.mp h with h | h
  · exact stores_no h
  · exact noSwap_ok g.sc h
theorem t_skip : SndS T G C .skip where
  o := fun {X Wx Q} g {x} h => by
    unfold chkS at h
    split at h
    all_goals first | contradiction | skip
    · exact snd_pass
    · exact snd_doc
  m := fun {X Wx Q} g {x} h => by
    cases x
    · exact snd_skip
    · cases h
theorem t_seq {a b : IS} (ha : SndS T G C a) (hb : SndS T G C b) : SndS T G C (.seq a b) where
  o := fun {X Wx Q} g {x} h => no_o (fun _ _ => rfl) h
  m := fun {X Wx Q} g {x} h => by
    cases x with
    | nil => cases h
    | cons st rest =>
      have h : (chkS Q G a st && chkSs Q G b rest) = true := h
      rw [Bool.and_eq_true] at h
      exact snd_seq (ha.o g h.1) (hb.m g h.2)
theorem t_ret {e : IR} : SndS T G C (.ret e) where
  o := fun {X Wx Q} g {x} h => by
    unfold chkS at h
    split at h
    all_goals first | contradiction | skip
    · rename_i e1; cases e1; exact snd_ret ((snd _).e g.g h).1
    · rename_i e1; cases e1; exact snd_retN
  m := fun {X Wx Q} g {x} h => no_m (fun _ _ => rfl) h
theorem t_expr {e : IR} : SndS T G C (.expr e) where
  o := fun {X Wx Q} g {x} h => by
    unfold chkS at h
    split at h
    all_goals first | contradiction | skip
    rename_i e1; cases e1
    rw [Bool.and_eq_true] at h
    exact snd_expr h.1 ((snd _).e g.g h.2).1
  m := fun {X Wx Q} g {x} h => no_m (fun _ _ => rfl) h
theorem t_ite {c : IR} {a b : IS} (ha : SndS T G C a) (hb : SndS T G C b) : SndS T G C (.ite c a b) where
  o := fun {X Wx Q} g {x} h => by
    unfold chkS at h
    split at h
    all_goals first | contradiction | skip
    rename_i e1; cases e1
    simp only [Bool.and_eq_true] at h
    exact snd_if ((snd _).e g.g h.1.1).2 (ha.m g h.1.2) (hb.m g h.2)
  m := fun {X Wx Q} g {x} h => no_m (fun _ _ => rfl) h
theorem chkE_comp {X : Cx} {Wx : WXi} {Q : Sc} (g : Good X T G C Wx Q) {e : IR} {eelt tg iter : Expr} {ifs : List Expr} {scope : Scope} {pos : Pos} (h : chkE Q G e (.ListComp eelt [⟨tg, iter, ifs, 0⟩] scope pos) = true) :
    ∃ own p it elt cond, (e = .comp own p it elt cond ∨ e = .compR own p it elt cond) ∧ CompOk X T G C Wx Q own p it elt cond (tpOf it) eelt tg iter ifs scope := by
  cases e with
  | comp own p it elt cond => exact ⟨own, p, it, elt, cond, .inl rfl, comp_ok g (snd it) (snd elt) (snd cond) h⟩
  | compR own p it elt cond => exact ⟨own, p, it, elt, cond, .inr rfl, comp_ok g (snd it) (snd elt) (snd cond) h⟩
  | _ => cases h
theorem name_p {X : Cx} {Wx : WXi} {Q : Sc} (g : GoodT X T G C Wx Q) {p : Pat} {tg : Expr} (h : (match p, tg with
      | .v i, .Name y _ => nameOk Q i y
      | _, _ => Q.calm && chkP Q p tg) = true) : PG X tg (tP T Wx.ξ p) := by
  split at h
  · exact snd_name g.g h
  · rw [Bool.and_eq_true] at h
    exact snd_pat g.g h.1 h.2
theorem t_set {p : Pat} {e : IR} : SndS T G C (.set p e) where
  o := fun {X Wx Q} g {x} h => by
    unfold chkS at h
    split at h
    all_goals first | contradiction | skip
    rename_i e1; cases e1
    unfold setB at h
    rw [Bool.and_eq_true] at h
    obtain ⟨h0, h⟩ := h
    split at h
    · rename_i hn
      simp only [Bool.and_eq_true] at h
      exact snd_set g.g hn (stores_ok g.g h.1.1) h.1.2 (name_p g h.2) ((snd _).e g.g h0).1
    · rw [Bool.and_eq_true] at h
      obtain ⟨h1, h2⟩ := h
      unfold isCompE at h1
      split at h1
      · split at h2
        · obtain ⟨own, p', it, elt, cond, he, co⟩ := chkE_comp g.g h0
          rcases he with rfl | rfl
          · exact snd_setC g.g h2 co (comp_of co.htp co.hv)
          · exact snd_setC g.g h2 co (compR_of co.htp co.hv)
        · cases h2
      · cases h1
  m := fun {X Wx Q} g {x} h => no_m (fun _ _ => rfl) h
theorem t_par {is : List Nat} {l : IR} : SndS T G C (.par is l) where
  o := fun {X Wx Q} g {x} h => by
    unfold chkS at h
    split at h
    all_goals first | contradiction | skip
    · rename_i e1; cases e1
      simp only [Bool.and_eq_true] at h
      exact snd_par2 g.g h.1.1 h.1.2 ((snd _).a g.g h.2)
    · rename_i e1; cases e1
      simp only [Bool.and_eq_true] at h
      exact snd_par3 g.g h.1.1 h.1.2 ((snd _).a g.g h.2)
  m := fun {X Wx Q} g {x} h => no_m (fun _ _ => rfl) h
theorem tgOk_of {X : Cx} {Wx : WXi} {Q : Sc} (g : GoodT X T G C Wx Q) : ∀ {ts : Tg} {es : List Expr}, chkT Q G ts es = true → TgOk X T G C Wx Q ts es
  | .nil, [], _ => trivial
  | .nil, _ :: _, h => by cases h
  | .v i r, [], h => by cases h
  | .v i r, e :: es, h => by
    cases e
    case Name x p =>
      have h : (nameOk Q i x && chkT Q G r es) = true := h
      rw [Bool.and_eq_true] at h
      exact ⟨h.1, tgOk_of g h.2⟩
    all_goals cases h
  | .ix o i r, [], h => by cases h
  | .ix o i r, e :: es, h => by
    cases e
    case Subscript eo ei p =>
      have h : (notSlice ei && chkE Q G o eo && chkE Q G i ei && chkT Q G r es) = true := h
      simp only [Bool.and_eq_true] at h
      exact ⟨h.1.1.1, ((snd _).e g.g h.1.1.2).1, ((snd _).e g.g h.1.2).1, tgOk_of g h.2⟩
    all_goals cases h
theorem t_setT {ts : Tg} {e : IR} : SndS T G C (.setT ts e) where
  o := fun {X Wx Q} g {x} h => by
    unfold chkS at h
    split at h
    all_goals first | contradiction | skip
    rename_i e1; cases e1
    simp only [Bool.and_eq_true] at h
    exact snd_setT g.g h.1.1.1.1 (tgOk_of g h.1.1.1.2) h.1.1.2 (stores_ok g.g h.1.2) ((snd _).e g.g h.2).1
  m := fun {X Wx Q} g {x} h => no_m (fun _ _ => rfl) h
theorem t_setAttr {o e : IR} {f : Nat} : SndS T G C (.setAttr o f e) where
  o := fun {X Wx Q} g {x} h => by
    unfold chkS at h
    split at h
    all_goals first | contradiction | skip
    rename_i e1; cases e1
    simp only [Bool.and_eq_true, decide_eq_true_eq] at h
    exact snd_setAttr g.g h.1.1 ((snd _).e g.g h.1.2).1 ((snd _).e g.g h.2).1
  m := fun {X Wx Q} g {x} h => no_m (fun _ _ => rfl) h
theorem t_setIdx {o i e : IR} : SndS T G C (.setIdx o i e) where
  o := fun {X Wx Q} g {x} h => by
    unfold chkS at h
    split at h
    all_goals first | contradiction | skip
    rename_i e1; cases e1
    simp only [Bool.and_eq_true] at h
    exact snd_setIdx g.g h.1.1.1 ((snd _).e g.g h.1.1.2).1 ((snd _).e g.g h.1.2).1 ((snd _).e g.g h.2).1
  m := fun {X Wx Q} g {x} h => no_m (fun _ _ => rfl) h
theorem t_aug {i : Nat} {o : BOp} {e : IR} : SndS T G C (.aug i o e) where
  o := fun {X Wx Q} g {x} h => by
    unfold chkS at h
    split at h
    all_goals first | contradiction | skip
    rename_i e1; cases e1
    simp only [Bool.and_eq_true, Bool.or_eq_true, decide_eq_true_eq] at h
    cases bopEq_ok h.1.1.2
    exact snd_aug g.g h.1.1.1 h.1.2 ((snd _).e g.g h.2).1
  m := fun {X Wx Q} g {x} h => no_m (fun _ _ => rfl) h
theorem t_for {p : Pat} {it : IR} {b : IS} (hb : SndS T G C b) : SndS T G C (.for p it b) where
  o := fun {X Wx Q} g {x} h => by
    unfold chkS at h
    split at h
    all_goals first | contradiction | skip
    rename_i tg iter body pos e1; cases e1
    simp only [Bool.and_eq_true] at h
    obtain ⟨⟨⟨⟨⟨h1, h2⟩, h3⟩, h4⟩, h5⟩, h6⟩ := h
    have h3' : tpOf it = true → patTup p = true ∧ isTupE tg = true := fun e => by rw [e] at h3; simpa using h3
    exact snd_for (g.s h1) h1 ((snd _).i g.g h2 fun e => (h3' e).2) (fun e => (h3' e).1) (snd_pat g.g h1 h4) (hb.m g h6) h5
  m := fun {X Wx Q} g {x} h => no_m (fun _ _ => rfl) h
theorem t_while {c : IR} {b : IS} (hb : SndS T G C b) : SndS T G C (.while c b) where
  o := fun {X Wx Q} g {x} h => by
    unfold chkS at h
    split at h
    all_goals first | contradiction | skip
    rename_i e1; cases e1
    simp only [Bool.and_eq_true] at h
    exact snd_while (g.s h.1.1) ((snd _).e g.g h.1.2).2 (hb.m g h.2)
  m := fun {X Wx Q} g {x} h => no_m (fun _ _ => rfl) h
theorem t_raise {c : Nat} {l : IR} : SndS T G C (.raise c l) where
  o := fun {X Wx Q} g {x} h => by
    unfold chkS at h
    split at h
    all_goals first | contradiction | skip
    rename_i e1; cases e1
    unfold raiseB at h
    simp only [Bool.and_eq_true, decide_eq_true_eq] at h
    obtain ⟨⟨⟨⟨⟨⟨⟨⟨h1, h2⟩, h3⟩, h4⟩, h5⟩, h6⟩, h7⟩, h8⟩, h9⟩ := h
    cases hc : G.exs[c]? with
    | none => rw [hc] at h5; cases h5
    | some xi =>
      rw [hc] at h5
      simp only [Bool.and_eq_true, decide_eq_true_eq] at h5
      exact snd_raise g.g h1 h2 h3 h4 hc h5.1 h6 (fun e => by subst e; cases h7) h8 h5.2 ((snd _).a g.g h9)
  m := fun {X Wx Q} g {x} h => no_m (fun _ _ => rfl) h
theorem t_try {b h : IS} {hs : List Nat} {n : Option Nat} (hb : SndS T G C b) (hh : SndS T G C h) : SndS T G C (.try_ b hs n h) where
  o := fun {X Wx Q} g {x} h => by
    unfold chkS at h
    split at h
    all_goals first | contradiction | skip
    rename_i e1; cases e1
    simp only [Bool.and_eq_true, decide_eq_true_eq] at h
    obtain ⟨⟨⟨⟨⟨⟨⟨h1, h2⟩, h3⟩, h4⟩, h5⟩, h6⟩, h7⟩, h8⟩ := h
    exact snd_tryAs (xi := default) (g.s h1) h1 h2 h3 h4 h5 h6 (fun X' Wx' g' => hb.m ⟨g'.toGood, fun _ => g'⟩ h7) fun X' Wx' g' => hh.m ⟨g', fun e => by cases e⟩ h8
  m := fun {X Wx Q} g {x} h => no_m (fun _ _ => rfl) h
theorem t_brk : SndS T G C .brk where
  o := fun {X Wx Q} g {x} h => by
    unfold chkS at h
    split at h
    all_goals first | contradiction | skip
    exact snd_brk
  m := fun {X Wx Q} g {x} h => no_m (fun _ _ => rfl) h
theorem sndS : ∀ i : IS, SndS T G C i := fun i => by
  induction i with
  | skip => exact t_skip
  | seq a b ha hb => exact t_seq ha hb
  | set p e => exact t_set
  | par is l => exact t_par
  | setT ts e => exact t_setT
  | setAttr o f e => exact t_setAttr
  | setIdx o i e => exact t_setIdx
  | aug i o e => exact t_aug
  | expr e => exact t_expr
  | ite c a b ha hb => exact t_ite ha hb
  | «for» p it b hb => exact t_for hb
  | «while» c b hb => exact t_while hb
  | ret e => exact t_ret
  | raise c l => exact t_raise
  | try_ b hs n h hb hh => exact t_try hb hh
  | brk => exact t_brk
end
/-- a body that is checked -/
theorem body_ok {T : Cs} {G : Gl} {M : Names} {fts : List FT} {t : FT} (h : chkSs (Sc.of M fts t) G t.fi.body t.body = true) : ∀ X C Wx, GoodS X T G C Wx (Sc.of M fts t) → PSs X t.body (tS T G C Wx t.fi.body) :=
  fun X C Wx g => (sndS _).m ⟨g.toGood, fun _ => g⟩ h
end RF
/-! Ga: what stands behind the top, by one Boolean. -/
namespace RF
open PySem L2 PyProof.Rows He
/-- a def: where it stands, its text, its defaults -/
structure Df where
  at_ : Str × Option Str
  t : FT
  dfl : List He.Dv
def Df.d (x : Df) : He.DefD := ⟨x.at_, x.t.name, x.t.qual, x.t.params, x.t.body, x.t.scope, x.dfl, []⟩
structure HD where
  nm : List Str
  cs : List (Str × ClsI)
  xs : List (Str × XI × List (Str × Str))
  ds : List Df
  gv : List (Str × PV)
  bt : List Str
namespace HD
variable (D : HD)
def cname (c : Nat) : Str := (D.cs.map (·.1)).getD c ""
def xname (c : Nat) : Str := (D.xs.map (·.1)).getD c ""
def dat (f : Nat) : Str × Option Str := (D.ds.map (·.at_)).getD f ("", none)
def nms (l : List Nat) : List Str := l.map fun f => D.nm.getD f ""
def T (K : PySem.W.Frag) : Cs where
  K := K
  at_ := fun c => ga K (D.cname c)
  flds := fun c => D.nms ((D.cs.map (·.2.flds)).getD c [])
  xat := fun c => ga K (D.xname c)
  xfl := fun c => D.nms ((D.xs.map (·.2.1.flds)).getD c [])
  fa := fun f => fAd K (D.dat f)
def G : Gl := ⟨D.cs.map (·.2), D.xs.map (·.2.1)⟩
def M : Names where
  gk := D.gv
  gf := D.ds.map fun d => match d.at_ with
    | (x, none) => some x
    | _ => none
  gc := D.cs.map (·.1)
  ge := D.xs.map (·.1)
  bt := D.bt
  nm := D.nm
def fts : List FT := D.ds.map (·.t)
end HD
/-! ### values of the written part -/
def toV : Value → Option V
  | .none => some .non
  | .bool b => some (.bl b)
  | .int i _ => some (.int i)
  | .str x _ => some (.str x)
  | .ref a => some (.ref a)
  | _ => none
theorem toV_ok {u : Value} {v : V} (h : toV u = some v) : RelV v u := by
  cases u <;> cases h
  all_goals first | exact ⟨_, rfl⟩ | rfl
mutual
def relW (K : PySem.W.Frag) : PV → V → Bool
  | .non, .non => true
  | .bl a, .bl b => a == b
  | .int a, .int b => decide (a = b)
  | .str a, .str b => decide (a = b)
  | .tup xs, .ref a => (match K.lookup a with
    | some ⟨.type c, none, .seq its _, _⟩ => decide (c = "tuple") && decide (its.size ≤ sizeLine) && relWs K xs its.toList
    | _ => false)
  | .scr xs, .ref a => (match K.lookup a with
    | some ⟨.type c, none, .seq its _, _⟩ => decide (c = "list") && decide (its.size ≤ sizeLine) && relWs K xs its.toList
    | _ => false)
  | _, _ => false
termination_by structural x => x
def relWs (K : PySem.W.Frag) : List PV → List Value → Bool
  | [], [] => true
  | x :: xs, u :: us => (match toV u with
    | some v => relW K x v
    | none => false) && relWs K xs us
  | _, _ => false
termination_by structural x => x
end
mutual
theorem relW_ok {T : Cs} {K : PySem.W.Frag} (hK : T.K = K) : ∀ (x : PV) (v : V), relW K x v = true → ∀ W, Rel T W x v
  | .non, v, h, W => by cases v <;> first | exact .non | cases h
  | .bl a, v, h, W => by
    cases v
    case bl b =>
      have h : (a == b) = true := h
      cases beq_iff_eq.mp h; exact .bl _
    all_goals cases h
  | .int a, v, h, W => by
    cases v
    case int b =>
      have h : decide (a = b) = true := h
      cases of_decide_eq_true h; exact .int _
    all_goals cases h
  | .str a, v, h, W => by
    cases v
    case str b =>
      have h : decide (a = b) = true := h
      cases of_decide_eq_true h; exact .str _
    all_goals cases h
  | .tup xs, v, h, W => by
    cases v
    case ref a =>
      have h : (match K.lookup a with
        | some ⟨.type c, none, .seq its _, _⟩ => decide (c = "tuple") && decide (its.size ≤ sizeLine) && relWs K xs its.toList
        | _ => false) = true := h
      split at h
      · rename_i c its n sl hl
        simp only [Bool.and_eq_true, decide_eq_true_eq] at h
        obtain ⟨⟨rfl, h2⟩, h3⟩ := h
        obtain ⟨vs, hv, hr⟩ := relWs_ok hK xs its.toList h3
        exact .tup (.inr ⟨_, its, n, by rw [hK]; exact hl, rfl, rfl, h2, hv, rfl⟩) (hr W)
      · cases h
    all_goals cases h
  | .scr xs, v, h, W => by
    cases v
    case ref a =>
      have h : (match K.lookup a with
        | some ⟨.type c, none, .seq its _, _⟩ => decide (c = "list") && decide (its.size ≤ sizeLine) && relWs K xs its.toList
        | _ => false) = true := h
      split at h
      · rename_i c its n sl hl
        simp only [Bool.and_eq_true, decide_eq_true_eq] at h
        obtain ⟨⟨rfl, h2⟩, h3⟩ := h
        obtain ⟨vs, hv, hr⟩ := relWs_ok hK xs its.toList h3
        exact .scr (.inr ⟨_, its, n, by rw [hK]; exact hl, rfl, rfl, rfl, h2, hv⟩) (hr W)
      · cases h
    all_goals cases h
  | .lst _, v, h, W => by cases v <;> cases h
  | .dct _ _, v, h, W => by cases v <;> cases h
  | .obj _ _, v, h, W => by cases v <;> cases h
  | .exc _ _, v, h, W => by cases v <;> cases h
  | .ref _, v, h, W => by cases v <;> cases h
theorem relWs_ok {T : Cs} {K : PySem.W.Frag} (hK : T.K = K) : ∀ (xs : List PV) (us : List Value), relWs K xs us = true → ∃ vs, Vals vs us ∧ ∀ W, Rels T W xs vs
  | [], [], _ => ⟨[], .nil, fun _ => .nil⟩
  | [], _ :: _, h => by cases h
  | _ :: _, [], h => by cases h
  | x :: xs, u :: us, h => by
    have h : ((match toV u with
      | some v => relW K x v
      | none => false) && relWs K xs us) = true := h
    rw [Bool.and_eq_true] at h
    obtain ⟨h1, h2⟩ := h
    obtain ⟨vs, hv, hr⟩ := relWs_ok hK xs us h2
    cases hu : toV u with
    | none => rw [hu] at h1; cases h1
    | some v =>
      rw [hu] at h1
      exact ⟨v :: vs, .cons (toV_ok hu) hv, fun W => .cons (relW_ok hK x v h1 W) (hr W)⟩
end
def relDs (K : PySem.W.Frag) : List PV → List V → Bool
  | [], [] => true
  | x :: xs, v :: vs => relW K x v && relDs K xs vs
  | _, _ => false
theorem relDs_ok {T : Cs} {K : PySem.W.Frag} (hK : T.K = K) : ∀ {xs : List PV} {vs : List V}, relDs K xs vs = true → ∀ W, Rels T W xs vs
  | [], [], _, _ => .nil
  | [], _ :: _, h, _ => by cases h
  | _ :: _, [], h, _ => by cases h
  | x :: xs, v :: vs, h, W => by
    have h : (relW K x v && relDs K xs vs) = true := h
    rw [Bool.and_eq_true] at h
    exact .cons (relW_ok hK x v h.1 W) (relDs_ok hK h.2 W)
def plainB (p : Arguments) (ps : List Str) : Bool := p.posonlyargs.isEmpty && decide (p.args.map (·.arg) = ps) && p.kwonlyargs.isEmpty && p.vararg.isNone && p.kwarg.isNone
theorem plainB_ok {fd : FuncData} {ps : List Str} (h : plainB fd.params ps = true) : Plain fd ps := by
  unfold plainB at h
  simp only [Bool.and_eq_true, decide_eq_true_eq, List.isEmpty_iff, Option.isNone_iff_eq_none] at h
  obtain ⟨⟨⟨⟨h1, h2⟩, h3⟩, h4⟩, h5⟩ := h
  exact ⟨h1, h2, h3, h4, h5⟩
def eqF {α : Type} [DecidableEq α] (a b : α) : Bool := decide (a = b)
/-! ### classes -/
def clsB (D : HD) (K : PySem.W.Frag) (c : Nat) : Bool := match D.cs[c]? with
  | none => true
  | some (x, ci) => (Fa.cls x).ok K && ci.flds.all (fun f => decide (f < D.nm.length)) && decide (D.nms ci.flds).Nodup && decide (ci.flds.length < 1000) && decide ci.flds.Nodup
      && (D.nms ci.flds).all (fun f => (Fa.noat x f).ok K)
      && eqO (PySem.W.findIn K (.ref (ga K x)) "__class__") (some (some (.builtin "object.__class__")))
      && decide (PySem.W.mroIn K (ga K x) (.type "object") = some true)
      && [ITy.str, .int, .bool, .tuple, .list, .dict].all (fun t => decide (PySem.W.kitOne K (.ref (ga K x)) (.type (tyNm t)) = some false))
      && ["NoneType", "bool", "int", "str", "list", "tuple"].all (fun t => decide (PySem.W.kitOne K (.type t) (.ref (ga K x)) = some false))
      && (Fa.mkr x).ok K && decide (fAd K (D.dat ci.init) = ma K (ga K x) "__init__")
      && ci.meths.all (fun q => match D.nm[q.1]? with
        | some name => (Fa.meth x name).ok K && decide (fAd K (D.dat q.2) = ma K (ga K x) name) && !(D.nms ci.flds).contains name
        | none => true)
      && (List.range D.cs.length).all (fun d => decide (PySem.W.kitOne K (.ref (ga K x)) (.ref (ga K (D.cname d))) = some (c == d)))
      && eqO (PySem.W.findIn K (.ref (ga K x)) "__ne__") (some (some (.builtin "object.__ne__")))
theorem getD_of {α : Type} {l : List α} {c : Nat} {x d : α} (h : l[c]? = some x) : l.getD c d = x := by
  rw [List.getD_eq_getElem?_getD, h]; rfl
theorem nms_at {D : HD} {l : List Nat} (h : l.all (fun f => decide (f < D.nm.length)) = true) (j f : Nat) (hj : l[j]? = some f) : (D.nms l)[j]? = D.nm[f]? := by
  have hf := of_decide_eq_true (List.all_eq_true.mp h f (List.mem_of_getElem? hj))
  unfold HD.nms
  rw [List.getElem?_map, hj]
  show some (D.nm.getD f "") = D.nm[f]?
  rw [List.getD_eq_getElem?_getD, List.getElem?_eq_getElem hf]; rfl
theorem lookup_in {α β : Type} [BEq α] [LawfulBEq α] : ∀ {l : List (α × β)} {a : α} {b : β}, l.lookup a = some b → (a, b) ∈ l
  | [], _, _, h => by cases h
  | (k, v) :: l, a, b, h => by
    rw [List.lookup_cons] at h
    cases q : (a == k) with
    | true => rw [q] at h; cases h; cases beq_iff_eq.mp q; exact List.mem_cons_self ..
    | false => rw [q] at h; exact List.mem_cons_of_mem _ (lookup_in h)
theorem clsB_ok {D : HD} {K : PySem.W.Frag} {c : Nat} {ci : ClsI} (hc : D.G.cls[c]? = some ci) (h : clsB D K c = true) : ClsOk (D.T K) D.nm D.G.cls.length c ci := by
  have hc' : (D.cs.map (·.2))[c]? = some ci := hc
  rw [List.getElem?_map] at hc'
  cases hx : D.cs[c]? with
  | none => rw [hx] at hc'; cases hc'
  | some p =>
    obtain ⟨x, ci2⟩ := p
    rw [hx] at hc'
    obtain rfl : ci2 = ci := Option.some.inj hc'
    unfold clsB at h
    rw [hx] at h
    simp only [Bool.and_eq_true] at h
    obtain ⟨⟨⟨⟨⟨⟨⟨⟨⟨⟨⟨⟨⟨⟨h1, h2⟩, h3⟩, h4⟩, h5⟩, h6⟩, h7⟩, h8⟩, h9⟩, h10⟩, h11⟩, h12⟩, h13⟩, h14⟩, h15⟩ := h
    have e1 : D.cname c = x := getD_of (by rw [List.getElem?_map, hx]; rfl)
    have e2 : (D.T K).flds c = D.nms ci2.flds := congrArg D.nms (getD_of (by rw [List.getElem?_map, hx]; rfl))
    have e3 : (D.T K).at_ c = ga K x := congrArg (ga K) e1
    have hn : D.G.cls.length = D.cs.length := List.length_map ..
    refine ⟨?_, fun j f hj => ?_, ?_, ?_, ?_, ?_, ?_, ?_, ?_, ?_, ?_, ?_, ?_, ?_, by rw [e3]; exact eqO_ok h15⟩
    · rw [e3]; exact cls_ok h1
    · rw [e2]; exact nms_at h2 j f hj
    · rw [e2]; exact (List.length_map ..).symm
    · rw [e2]; exact of_decide_eq_true h3
    · rw [e2]; unfold HD.nms; rw [List.length_map]; exact of_decide_eq_true h4
    · exact of_decide_eq_true h5
    · intro f hf
      rw [e2] at hf
      rw [e3]
      exact noat_ok (List.all_eq_true.mp h6 f hf)
    · rw [e3]; exact eqO_ok h7
    · rw [e3]; exact of_decide_eq_true h8
    · intro t ht
      rw [e3]
      refine of_decide_eq_true (List.all_eq_true.mp h9 t ?_)
      cases t <;> first | decide | cases ht
    · intro t ht
      rw [e3]
      exact of_decide_eq_true (List.all_eq_true.mp h10 t ht)
    · have := mkr_ok h11
      rw [e3]
      show Mk K (ga K x) (fAd K (D.dat ci2.init))
      rw [of_decide_eq_true h12]; exact this
    · intro m f name hl hm
      have h13 := List.all_eq_true.mp h13 (m, f) (lookup_in hl)
      simp only at h13
      rw [hm] at h13
      simp only [Bool.and_eq_true] at h13
      rw [e3, e2]
      refine ⟨?_, fun hmem => ?_⟩
      · show Meth K (ga K x) name (fAd K (D.dat f))
        rw [of_decide_eq_true h13.1.2]; exact meth_ok h13.1.1
      · have := h13.2
        rw [Bool.not_eq_true'] at this
        rw [List.contains_iff_mem.mpr hmem] at this
        cases this
    · intro d hd
      rw [hn] at hd
      rw [e3]
      exact of_decide_eq_true (List.all_eq_true.mp h14 d (List.mem_range.mpr hd))
end RF
/-! Gb: classes of errors; what stands. -/
namespace RF
open PySem L2 PyProof.Rows He
def oexB (K : PySem.W.Frag) (C : Addr) : Bool := (match K.lookup C with
  | some ⟨.type "type", _, .cls cd, sl⟩ => (match cd.mro, sl.toList with
    | .ref C' :: bm, [_, _, _, _, some (.builtin n), _] => C' == C && n == "ValueError.__new__" && !cd.hasDel && cd.hasDict && PySem.HandSPX.refsVE bm
    | _, _ => false)
  | _ => false) && eqO (PySem.W.findIn K (.ref C) "__setattr__") (some (some (.builtin "object.__setattr__"))) && decide (PySem.W.subIn K (.ref C) (.type "BaseException") = some true)
    && decide (PySem.W.typeIn K (.ref C) = some (.type "type")) && PySem.W.keepIn K (.ref C)
theorem oexB_ok {K : PySem.W.Frag} {C : Addr} (q : oexB K C = true) : OexC K C := by
  unfold oexB at q
  simp only [Bool.and_eq_true, decide_eq_true_eq] at q
  obtain ⟨⟨⟨⟨q, h2⟩, h3⟩, h4⟩, h5⟩ := q
  refine ⟨?_, eqO_ok h2, h3, h4, h5⟩
  split at q
  · rename_i dd cd sl ho
    split at q
    · rename_i C' bm k0 k1 k2 k3 n k5 hm hs
      simp only [Bool.and_eq_true, beq_iff_eq, Bool.not_eq_true'] at q
      obtain ⟨⟨⟨⟨rfl, rfl⟩, hdel⟩, hdc⟩, hve⟩ := q
      obtain ⟨nm, bs, mro, ns, qn, hd, sn, sub, ab, col, del⟩ := cd
      dsimp only at hm hdel hdc
      subst hm hdel hdc
      have hsl : sl = #[k0, k1, k2, k3, some (.builtin "ValueError.__new__"), k5] := by
        obtain ⟨l⟩ := sl
        exact congrArg Array.mk hs
      subst hsl
      exact ⟨_, _, _, _, _, _, _, _, _, _, _, _, _, _, _, ho, hve⟩
    · cases q
  · cases q
def isLoc (sc : Scope) (p : Str) : Bool := decide (sc.names.lookup p = some .local)
def xinitB (prog : Program) (K : PySem.W.Frag) (C : Addr) (asg : List (Str × Str)) : Bool := match K.lookup (ma K C "__init__") with
  | some ⟨_, _, .func fd, _⟩ => (match fd.closure, fd.code with
    | [(n, cc)], .ref ca => decide (n = ("__class__" : Str)) && oexB K C && eqO (PySem.W.findIn K (.ref C) "__init__") (some (some (.ref (ma K C "__init__")))) && decide (PySem.W.typeIn K (.ref (ma K C "__init__")) = some (.type "function"))
      && plainB fd.params ("self" :: asg.map (·.2)) && decide (fd.defaults = .none) && decide (("self" : Str) :: asg.map (·.2)).Nodup
      && (match fd.body with
        | .stmts b => XBody "self" asg b
        | _ => false)
      && decide (asg ≠ []) && decide (asg.length ≤ 100) && decide (asg.map (·.1)).Nodup && decide (fd.scope.kind = .function) && decide (fd.scope.isCoroutine = false) && decide (fd.scope.isGenerator = false)
      && fd.scope.names.all (fun x => decide (x.2 ≠ .cell)) && (("self" : Str) :: asg.map (·.2)).all (isLoc fd.scope) && decide (fd.scope.names.lookup ("super" : Str) = some .globalImplicit) && decide (fd.scope.names.lookup ("__class__" : Str) = some .free)
      && (("self" : Str) :: asg.map (·.2)).all (fun p => !(p == ("__debug__" : Str)))
      && (match K.lookup cc with
        | some ⟨_, _, .cell (some (.ref C')), _⟩ => decide (C' = C)
        | _ => false)
      && PySem.W.codeIn K fd.code fd.qualname
      && (match K.lookup ca with
        | some ⟨_, _, .fields vs, _⟩ => (match (vs[2]? : Option Value) with
          | some (.str z _) => decide (z = prog.main.file)
          | _ => false)
        | _ => false)
      && !(prog.main.scope.names.lookup ("super" : Str)).isSome && decide (fd.globals = mainGlobals) && decide (fd.builtins = builtinsNs)
      && eqO (PySem.W.ks_superIn K C C "__init__") (some (some (.builtin "ValueError.__init__")))
      && decide (PySem.W.subIn K (.ref C) (.type "ValueError") = some true) && decide (PySem.W.mroIn K C (.ref C) = some true)
      && eqO (PySem.W.nsIn K cStatics "thirdparty.any") (some none)
      && asg.all (fun q => eqO (PySem.W.findIn K (.ref C) q.1) (some none))
    | _, _ => false)
  | _ => false
theorem xinitB_ok {prog : Program} {K : PySem.W.Frag} {C : Addr} {asg : List (Str × Str)} (h : xinitB prog K C asg = true) : ∃ fI cc ca fd ps me, XInit K prog C fI cc ca fd ps me asg := by
  unfold xinitB at h
  split at h
  · rename_i oc od fd osl hl
    split at h
    · rename_i n cc ca hcl hco
      simp only [Bool.and_eq_true, decide_eq_true_eq] at h
      obtain ⟨⟨⟨⟨⟨⟨⟨⟨⟨⟨⟨⟨⟨⟨⟨⟨⟨⟨⟨⟨⟨⟨⟨⟨⟨⟨⟨⟨⟨rfl, h1⟩, h2⟩, h3⟩, h4⟩, h5⟩, h6⟩, h7⟩, h8⟩, h9⟩, h10⟩, h11⟩, h12⟩, h13⟩, h14⟩, h15⟩, h16⟩, h17⟩, h18⟩, h19⟩, h20⟩, h21⟩, h22⟩, h23⟩, h24⟩, h25⟩, h26⟩, h27⟩, h28⟩, h29⟩ := h
      refine ⟨ma K C "__init__", cc, ca, fd, "self" :: asg.map (·.2), "self", {
        cl := oexB_ok h1, ini := eqO_ok h2, tI := h3, fn := ⟨oc, od, osl, hl⟩, pl := plainB_ok h4, dv := h5, hd := rfl, nd := h6, bd := ?_, ne := h8, fw := h9, sn := h10, pt := rfl, kd := h11, co := h12, ge := h13,
        nc := fun x hx => of_decide_eq_true (List.all_eq_true.mp h14 x hx), lc := fun p hp => of_decide_eq_true (List.all_eq_true.mp h15 p hp), ks := h16, kc := h17, dbg := fun p hp => bnot_of (List.all_eq_true.mp h18 p hp), cls := hcl, cel := ?_, cod := hco, cin := h20, fil := ?_,
        top := bnot_of h22, glb := h23, blt := h24, sup := eqO_ok h25, sve := h26, mro := h27, opq := eqO_ok h28, nof := fun q hq => eqO_ok (List.all_eq_true.mp h29 q hq) }⟩
      · split at h7
        · exact ⟨_, by assumption, h7⟩
        · cases h7
      · split at h19
        · rename_i hc
          exact ⟨_, _, _, by rw [← of_decide_eq_true h19]; exact hc⟩
        · cases h19
      · split at h21
        · rename_i hc
          split at h21
          · rename_i hv
            exact ⟨_, _, _, _, _, hc, by rw [← of_decide_eq_true h21]; exact hv⟩
          · cases h21
        · cases h21
    · cases h
  · cases h
def xB (D : HD) (prog : Program) (K : PySem.W.Frag) (c : Nat) : Bool := match D.xs[c]? with
  | none => true
  | some (x, xi, asg) => xi.flds.all (fun f => decide (f < D.nm.length)) && decide (D.nms xi.flds).Nodup && (List.range D.xs.length).all (fun d => decide (PySem.W.exmOne K (.ref (ga K x)) (.ref (ga K (D.xname d))) = some (decide (d ∈ xi.sup))))
      && xfB K (ga K x) && (D.nms xi.flds).all (fun f => eqO (PySem.W.findIn K (.ref (ga K x)) f) (some none)) && (xi.flds.isEmpty || (xinitB prog K (ga K x) asg && decide (D.nms xi.flds = asg.map (·.1))))
theorem xB_ok {D : HD} {prog : Program} {K : PySem.W.Frag} {c : Nat} {xi : XI} (hc : D.G.exs[c]? = some xi) (h : xB D prog K c = true) : XOk K prog (D.T K) D.nm D.G.exs.length c xi := by
  have hc' : (D.xs.map (·.2.1))[c]? = some xi := hc
  rw [List.getElem?_map] at hc'
  cases hx : D.xs[c]? with
  | none => rw [hx] at hc'; cases hc'
  | some p =>
    obtain ⟨x, xi2, asg⟩ := p
    rw [hx] at hc'
    obtain rfl : xi2 = xi := Option.some.inj hc'
    unfold xB at h
    rw [hx] at h
    simp only [Bool.and_eq_true, Bool.or_eq_true] at h
    obtain ⟨⟨⟨⟨⟨h1, h2⟩, h3⟩, h4⟩, h5⟩, h6⟩ := h
    have e1 : D.xname c = x := getD_of (by rw [List.getElem?_map, hx]; rfl)
    have e2 : (D.T K).xfl c = D.nms xi2.flds := congrArg D.nms (getD_of (by rw [List.getElem?_map, hx]; rfl))
    have e3 : (D.T K).xat c = ga K x := congrArg (ga K) e1
    have hn : D.G.exs.length = D.xs.length := List.length_map ..
    refine ⟨fun j f hj => ?_, ?_, ?_, ?_, ?_, ?_, ?_⟩
    · rw [e2]; exact nms_at h1 j f hj
    · rw [e2]; exact (List.length_map ..).symm
    · rw [e2]; exact of_decide_eq_true h2
    · intro d hd
      rw [hn] at hd
      rw [e3]
      exact of_decide_eq_true (List.all_eq_true.mp h3 d (List.mem_range.mpr hd))
    · rw [e3]; exact xfB_ok h4
    · intro f hf
      rw [e2] at hf
      rw [e3]
      exact eqO_ok (List.all_eq_true.mp h5 f hf)
    · intro hne
      rcases h6 with h6 | h6
      · exact absurd (List.isEmpty_iff.mp h6) hne
      · obtain ⟨fI, cc, ca, fd, ps, me, XI⟩ := xinitB_ok h6.1
        rw [e3, e2]
        exact ⟨fI, cc, ca, fd, ps, me, asg, XI, of_decide_eq_true h6.2⟩
/-- all that is asked of the written part, but for the defs' texts -/
def headB (D : HD) (prog : Program) (K : PySem.W.Frag) : Bool :=
  (List.range D.cs.length).all (clsB D K) && (List.range D.xs.length).all (xB D prog K)
    && eqO (PySem.W.specialIn K (.builtin "object.__class__") "__get__") (some (some (.builtin "getset_descriptor.__get__"))) && decide (PySem.W.takesIn K (.builtin "object.__class__") = some true)
    && D.gv.all (fun q => match PySem.W.nsIn K mainGlobals q.1 with
      | some (some u) => (match toV u with
        | some v => relW K q.2 v
        | none => false)
      | _ => false)
    && D.ds.all (fun d => (match d.at_ with
      | (x, none) => (Fa.glo x).ok K
      | _ => true) && plainB d.t.params d.t.ps && relDs K d.t.dvs (d.d.dvs K))
    && D.cs.all (fun q => (Fa.glo q.1).ok K) && D.xs.all (fun q => (Fa.glo q.1).ok K) && D.bt.all (fun x => (Fa.free x).ok K) && (Fa.free "super").ok K
theorem stands_of {D : HD} {P : Program} {w : World} {K : PySem.W.Frag} {h : Heap} {mg : Str → Option Value} (X : K.In h) (N : h.Ns mainGlobals mg) (c : headB D P K = true)
    (fns : ∀ (f : Nat) (d : Df), D.ds[f]? = some d → ∃ fd, FunD K d.d.name d.d.qual d.d.params d.d.body d.d.scope (d.d.dvs K) (d.d.kws K) (fAd K d.at_) fd) : Stands P w K mg (D.T K) D.G D.M D.fts := by
  unfold headB at c
  simp only [Bool.and_eq_true, decide_eq_true_eq] at c
  obtain ⟨⟨⟨⟨⟨⟨⟨⟨⟨h1, h2⟩, h3⟩, h4⟩, h5⟩, h6⟩, h7⟩, h8⟩, h9⟩, h10⟩ := c
  have clt : ∀ {α : Type} {l : List α} {i : Nat} {x : α}, l[i]? = some x → i < l.length := fun e => (List.getElem?_eq_some_iff.mp e).1
  refine {
    hK := rfl
    kok := ⟨fun c ci hc => clsB_ok hc (List.all_eq_true.mp h1 c (List.mem_range.mpr (by have := clt hc; rwa [show D.G.cls.length = D.cs.length from List.length_map ..] at this))), eqO_ok h3, h4⟩
    xs := fun c xi hc => xB_ok hc (List.all_eq_true.mp h2 c (List.mem_range.mpr (by have := clt hc; rwa [show D.G.exs.length = D.xs.length from List.length_map ..] at this)))
    gk := fun x v hx => ?_
    gf := fun x f hf => ?_
    gc := fun x c hc => ?_
    ge := fun x c hc => ?_
    bt := fun x hx => free_ok X N (List.all_eq_true.mp h9 x hx)
    sup := free_ok X N h10
    fns := fun f t ht => ?_ }
  · have := List.all_eq_true.mp h5 (x, v) (lookup_in hx)
    simp only at this
    split at this
    · rename_i u hu
      cases hv : toV u with
      | none => rw [hv] at this; cases this
      | some w => rw [hv] at this; exact ⟨u, w, PySem.W.mg_of X N hu, toV_ok hv, relW_ok rfl v w this⟩
    · cases this
  · have hf : (D.ds.map fun d => match d.at_ with
      | (x, none) => some x
      | _ => none)[f]? = some (some x) := hf
    rw [List.getElem?_map] at hf
    cases hd : D.ds[f]? with
    | none => rw [hd] at hf; cases hf
    | some d =>
      rw [hd] at hf
      have h6 := List.all_eq_true.mp h6 d (List.mem_of_getElem? hd)
      simp only [Bool.and_eq_true] at h6
      have e : D.dat f = d.at_ := getD_of (by rw [List.getElem?_map, hd]; rfl)
      have hg := h6.1.1
      obtain ⟨⟨y, m⟩, t, dl⟩ := d
      cases m with
      | some m => cases hf
      | none =>
        obtain rfl : y = x := Option.some.inj (Option.some.inj hf)
        show mg y = some (.ref (fAd K (D.dat f)))
        rw [e]
        exact glo_ok X N hg
  · have hc : (D.cs.map (·.1))[c]? = some x := hc
    have hl := clt hc
    rw [List.length_map] at hl
    refine ⟨?_, by rw [show D.G.cls.length = D.cs.length from List.length_map ..]; exact hl⟩
    have e : D.cname c = x := getD_of hc
    obtain ⟨q, hq, rfl⟩ := List.mem_map.mp (List.mem_of_getElem? hc)
    show mg q.1 = some (.ref (ga K (D.cname c)))
    rw [e]
    exact glo_ok X N (List.all_eq_true.mp h7 q hq)
  · have hc : (D.xs.map (·.1))[c]? = some x := hc
    have hl := clt hc
    rw [List.length_map] at hl
    refine ⟨?_, by rw [show D.G.exs.length = D.xs.length from List.length_map ..]; exact hl⟩
    have e : D.xname c = x := getD_of hc
    obtain ⟨q, hq, rfl⟩ := List.mem_map.mp (List.mem_of_getElem? hc)
    show mg q.1 = some (.ref (ga K (D.xname c)))
    rw [e]
    exact glo_ok X N (List.all_eq_true.mp h8 q hq)
  · have ht : (D.ds.map (·.t))[f]? = some t := ht
    rw [List.getElem?_map] at ht
    cases hd : D.ds[f]? with
    | none => rw [hd] at ht; cases ht
    | some d =>
      rw [hd] at ht
      obtain rfl : d.t = t := Option.some.inj ht
      have h6 := List.all_eq_true.mp h6 d (List.mem_of_getElem? hd)
      simp only [Bool.and_eq_true] at h6
      have e : D.dat f = d.at_ := getD_of (by rw [List.getElem?_map, hd]; rfl)
      obtain ⟨fd, F⟩ := fns f d hd
      obtain ⟨oc, od, dV, kV, doc, pm, an, cdv, ct, osl, e1, lk, hcd, dd, kd⟩ := F.ex
      refine ⟨fd, d.d.dvs K, ?_, plainB_ok (by rw [e1]; exact h6.1.2), by rw [e1]; exact dd, relDs_ok rfl h6.2⟩
      show FunD K d.t.name d.t.qual d.t.params d.t.body d.t.scope (d.d.dvs K) [] (fAd K (D.dat f)) fd
      rw [e]
      exact F
end RF
/-! Gc: the law's end. -/
namespace RF
open PySem L2 PyProof.Rows He
/-! ### the head's Hook -/
def frR (g : Addr → Option Obj) (n : Nat) : PySem.W.Frag := frG g (cStatics :: asD g n)
def obsR (chk : PySem.W.Frag → Bool) (fn : List DefD) (K : PySem.W.Frag) : AlD := (chk K && fn.all fun d => d.ok K, fn.map fun d => fnW K d.at_)
def SaysR (chk : PySem.W.Frag → Bool) (fn : List DefD) (K : PySem.W.Frag) : Prop := obsR chk fn K = valD fn
def hookR (n : Nat) (chk : PySem.W.Frag → Bool) (fn : List DefD) : PySem.W.Hook where
  α := AlD
  obs := fun s => obsR chk fn (frR s.heap.get? n)
  val := fun _ => valD fn
  says := fun _ h => ∃ K : PySem.W.Frag, K.In h ∧ SaysR chk fn K
  of := fun _ _ e => ⟨_, frG_in, e⟩
  keeps := fun _ _ _ ⟨K, hK, c⟩ k => ⟨K, PySem.W.Frag.In.keeps hK k, c⟩
/-- what is seen of a heap that is a tree -/
def obR (n : Nat) (chk : PySem.W.Frag → Bool) (fn : List DefD) (s : PySem.W.SharedT) : AlD := obsR chk fn (frR (HandSHeadRun.getT s) n)
theorem obR_eq (n : Nat) (chk : PySem.W.Frag → Bool) (fn : List DefD) (s : PySem.W.SharedT) : obR n chk fn s = (hookR n chk fn).obs s.abs := by
  have e : HandSHeadRun.getT s = s.abs.heap.get? := funext (HandSHeadRun.getT_eq s)
  show obsR chk fn (frR (HandSHeadRun.getT s) n) = obsR chk fn (frR s.abs.heap.get? n)
  rw [e]
section
variable {chk : PySem.W.Frag → Bool} {fn : List DefD} {K : PySem.W.Frag}
theorem SaysR.chk_ (c : SaysR chk fn K) : chk K = true := (ba (congrArg (fun z : AlD => z.1) c)).1
theorem SaysR.def_ (c : SaysR chk fn K) {i : Nat} {d : DefD} (h : fn[i]? = some d) : ∃ fd, FunD K d.name d.qual d.params d.body d.scope (d.dvs K) (d.kws K) (fAd K d.at_) fd := by
  have q := (ba (congrArg (fun z : AlD => z.1) c)).2
  have z : (fn.map fun d => fnW K d.at_)[i]? = (fn.map DefD.val)[i]? := congrArg (fun l : List FnW => l[i]?) (congrArg (fun z : AlD => z.2) c)
  rw [List.getElem?_map, List.getElem?_map, h] at z
  exact DefD.funD (Option.some.inj z) (List.all_eq_true.mp q d (List.mem_of_getElem? h))
end
/-! ### the call -/
theorem vals_of {vs : List Value} {ns : List Int} (h : IntsAre vs ns) : Vals (ns.map V.int) vs := by
  induction h with
  | nil => exact .nil
  | cons n t _ ih => exact .cons ⟨t, rfl⟩ ih
theorem rels_ints {T : Cs} {W : Wd} : ∀ ns : List Int, Rels T W (ns.map PV.int) (ns.map V.int)
  | [] => .nil
  | n :: ns => .cons (.int n) (rels_ints ns)
/-- the heap that is known: the script alone, if it is not of the written part -/
def hScr (K : PySem.W.Frag) (a : Addr) (vs : List Value) (ns : List Int) : Hp := fun b => if b = a ∧ K.lookup a = none then some (.frz { cls := .type "list", data := .seq vs.toArray } (.lst (ns.map V.int))) else none
theorem hScr_some {K : PySem.W.Frag} {a b : Addr} {vs : List Value} {ns : List Int} {u : HO} (h : hScr K a vs ns b = some u) : b = a ∧ K.lookup a = none ∧ u = .frz { cls := .type "list", data := .seq vs.toArray } (.lst (ns.map V.int)) := by
  unfold hScr at h
  split at h
  · rename_i q; exact ⟨q.1, q.2, (Option.some.inj h).symm⟩
  · cases h
theorem law_run {P : Program} {w : World} {K : PySem.W.Frag} {mg mb : Str → Option Value} {k : Nat} {fa a : Addr} {fd : FuncData} {x : Str} {sp : Sp} {s : Shared} {vs : List Value} {ns : List Int}
    (X : K.In s.heap) (N : s.heap.Ns mainGlobals mg) (B : s.heap.Ns builtinsNs mb) (hB : ∀ y : Str, y ≠ "__name__" → mb y = bootBuiltins y) (L : s.heap.NoLimit) (hg : s.gens = #[])
    (ha : s.heap.get? a = some { cls := .type "list", data := .seq vs.toArray }) (hi : IntsAre vs ns) (hl : ns.length ≤ sizeLine) (hr : Room k callerA)
    (F : ∀ base : Heap, FnG P w K mg base k fa fd [x] sp) (hbd : BindsTo s fd ⟨[.ref a], []⟩ [(x, .ref a)])
    (hsp : ∀ H : Hp, SqL K H a (ns.map V.int) → sp [.ref a] H (fun v _ => v = .bl true) fun _ _ _ => False) :
    codeAny (model P w) callerA (.call (.ref fa) ⟨[.ref a], []⟩) (fun r s' => r = .ok (.ret (.bool true)) ∧ OldK s.heap s'.heap ∧ s'.os = s.os ∧ AllBare s'.gens) s := by
  have rv := vals_of hi
  have sq : SqL K (hScr K a vs ns) a (ns.map V.int) := by
    cases hk : K.lookup a with
    | none => exact .inl (.inr ⟨_, if_pos ⟨rfl, hk⟩⟩)
    | some o =>
      have e := X a o hk
      rw [ha] at e
      cases e
      exact .inr ⟨_, vs.toArray, _, hk, rfl, rfl, rfl, by rw [List.size_toArray, hi.length]; exact hl, by simpa using rv⟩
  have ok : HOk P w (hScr K a vs ns) s.heap := fun b u q => by
    obtain ⟨rfl, _, rfl⟩ := hScr_some q
    exact ⟨ha, by rw [List.length_map]; exact hl, vs, _, rv, ha⟩
  have free : ∀ {b : Addr} {o : Obj}, s.heap.get? b = some o → (b = a → K.lookup a = none → False) → (hidT s.heap (hScr K a vs ns)).get? b = some o := fun {b o} e n => hidT_get e (by
    cases q : hScr K a vs ns b with
    | none => rfl
    | some u => obtain ⟨r1, r2, _⟩ := hScr_some q; exact (n r1 r2).elim)
  have nsI : ∀ {b : Addr} {m : Str → Option Value}, s.heap.Ns b m → (hidT s.heap (hScr K a vs ns)).Ns b m := fun {b m} ⟨o, es, ep, e, d, r⟩ => ⟨o, es, ep, free e (fun eb _ => by
    subst eb
    rw [ha] at e
    cases e
    cases d), d, r⟩
  have inI : K.In (hidT s.heap (hScr K a vs ns)) := fun b o e => free (X b o e) fun eb hn => by
    subst eb
    rw [hn] at e; cases e
  have lim : (hidT s.heap (hScr K a vs ns)).NoLimit := let ⟨mc, h1, h2⟩ := L; ⟨mc, nsI h1, h2⟩
  have e0 : Env0 P w K mg (hidT s.heap (hScr K a vs ns)) callerA [] s (hScr K a vs ns) := ⟨rfl, ⟨inI, nsI N, ⟨mb, nsI B, hB⟩, lim⟩, fun b o e => of_hidT e, Nat.le_of_eq (hidT_size _ _), trivial, fun b hb => (by cases hb), ok, .of_eq hg⟩
  refine codeAny_mono (F _ callerA [] s _ ⟨[.ref a], []⟩ [.ref a] [.ref a] _ _ hr rfl e0 hbd (.cons rfl .nil) rfl (hsp _ sq)) fun r s' h => ?_
  cases r with
  | error e =>
    obtain ⟨_, _, _, _, _, _, _, _, _, _, _, _, f⟩ := h
    exact f.elim
  | ok fl =>
    cases fl with
    | ret u =>
      obtain ⟨v, H', os, bare, un, ok', r', q⟩ := h
      cases (show v = .bl true from q)
      cases (show u = Value.bool true from r')
      refine ⟨rfl, OldK.of_keep fun b o e => ?_, os, bare⟩
      cases q : hScr K a vs ns b with
      | none => exact un.keep b o e q (fun z => by cases z) (by simp)
      | some u =>
        obtain ⟨_, _, rfl⟩ := hScr_some q
        obtain ⟨g1, _⟩ := ok b _ q
        obtain ⟨g2, _⟩ := ok' b _ (un.frzs b _ _ q)
        rw [e] at g1
        cases g1
        exact g2
    | _ => exact False.elim h
/-! ### a law -/
theorem shown_of {D : HD} {t : FT} (sc : FnScope t.N t.ps t.scope) (h1 : t.fi.np = t.ps.length) (h2 : t.fi.ns = t.N.length) (h3 : t.ps.length ≤ t.N.length) (h : chkSs (Sc.of D.M D.fts t) D.G t.fi.body t.body = true) (K : PySem.W.Frag) : Shown (D.T K) D.G D.M D.fts t :=
  ⟨sc, h1, h2, h3, body_ok h⟩
theorem walk_R {l : PySem.W.OpenLaw} {n m k fl : Nat} {q : Program} {loose : List Str} {XP : (Str → Option Value) → Heap → Prop} {d : DefRec} {D : HD} {df : Df} {x : Str}
    (hn : l.most = some n) (hn2 : n ≤ sizeLine) (hdf : d.params.defaults = []) (hr : Room (2 * k) callerA) (hfl : D.ds[fl]? = some df) (hat : df.at_ = (d.name, none)) (hps : df.t.ps = [x]) (hdv : df.dfl = [])
    (Sh : ∀ K, ∀ t, t ∈ D.fts → Shown (D.T K) D.G D.M D.fts t)
    (res : ∀ ns : List Int, ns.length ≤ n → ∃ S, call D.G (D.fts.map (·.fi)) k fl [.scr (ns.map .int)] [] = .ok (.bl true) S) :
    PySem.W.WalkO q loose XP (hookR m (headB D l.prog) (D.ds.map (·.d))).says l.row.toRowW d [] (fun f vs => PySem.call f vs) := by
  refine Att.attach_call hn hdf fun w s₀ s₁ mg mb fa o pm cd doc a vs ns Gr Y ho hd hcd hmg hobj hints hlen hg => ?_
  obtain ⟨K, X, c⟩ := Y
  have hdef : ∀ (f : Nat) (e : Df), D.ds[f]? = some e → ∃ fd, FunD K e.d.name e.d.qual e.d.params e.d.body e.d.scope (e.d.dvs K) (e.d.kws K) (fAd K e.at_) fd := fun f e he => c.def_ (i := f) (by rw [List.getElem?_map, he]; rfl)
  have St : Stands l.prog w K mg (D.T K) D.G D.M D.fts := stands_of X Gr.T.g c.chk_ hdef
  obtain ⟨fd, F⟩ := hdef fl df hfl
  have ht : D.fts[fl]? = some df.t := by show (D.ds.map (·.t))[fl]? = _; rw [List.getElem?_map, hfl]; rfl
  have e1 : (D.T K).fa fl = fAd K df.at_ := congrArg (fAd K) (getD_of (by rw [List.getElem?_map, hfl]; rfl))
  have e2 : fa = (D.T K).fa fl := by
    have := St.gf d.name fl (by show (D.ds.map _)[fl]? = _; rw [List.getElem?_map, hfl]; simp only [Option.map_some, hat])
    rw [hmg] at this
    cases this; rfl
  have ed : df.d.dvs K = [] := by show df.dfl.map _ = []; rw [hdv]; rfl
  obtain ⟨fd2, dV, F2, pl, dd, rr⟩ := St.fns fl df.t ht
  have hdn : fd2.defaults = .none := by
    obtain ⟨oc, od, dv, kV, doc, pm, an, cdv, ct, osl, q1, lk, _, q2, _⟩ := F2.ex
    obtain ⟨oc', od', dv', kV', doc', pm', an', cdv', ct', osl', q1', lk', _, q2', _⟩ := F.ex
    rw [e1] at lk
    rw [lk] at lk'
    cases lk'
    rw [ed] at q2'
    rcases q2' with ⟨_, q⟩ | ⟨q, _⟩
    · rw [q1']; exact q
    · exact absurd rfl q
  have fam := fun base => family (base := base) St (Sh K) k fl df.t fd2 dV ht F2
  rw [e2]
  rw [hps] at fam
  refine law_run X Gr.T.g Gr.T.b Gr.T.builtins Gr.T.nolimit hg hobj hints (Nat.le_trans hlen hn2) hr fam (BindsTo.of_eq (bind_full (ps := [x]) (us := [.ref a]) (hps ▸ pl) hdn (by simp) rfl)) fun H sq => ?_
  obtain ⟨S, hS⟩ := res ns hlen
  refine ⟨⟨H, [], fun _ => none⟩, [], [.scr (ns.map .int)], ⟨fun _ _ h => h, fun _ _ h => (by cases h), fun _ _ h => (by cases h), fun _ h => (by cases h), List.nodup_nil, rfl, fun n so a h _ => (by cases h)⟩, .cons (.scr sq (rels_ints ns)) .nil, ?_⟩
  rw [hS]
  intro W' H' w' l' b' r'
  cases r'
  rfl
end RF
/-! Gd: plain laws: stores, calls, loops. -/
namespace RF
open PySem
/-! ### a purse: a list of three numbers in the store -/
def put (S : Store) (p : Nat) (a b c : Int) : Store := S.set p (.lst [.int a, .int b, .int c])
section
variable {S : Store} {p : Nat} {a b c a' b' c' : Int}
theorem put_len : (put S p a b c).length = S.length := List.length_set
theorem put_at (h : p < S.length) : (put S p a b c)[p]? = some (.lst [.int a, .int b, .int c]) := by
  unfold put
  rw [List.getElem?_set_self h]
theorem put_ne {q : Nat} (h : q ≠ p) : (put S p a b c)[q]? = S[q]? := by
  unfold put
  rw [List.getElem?_set_ne (Ne.symm h)]
theorem put_put : put (put S p a b c) p a' b' c' = put S p a' b' c' := List.set_set ..
theorem set_put : (put S p a b c).set p (.lst [.int a', .int b', .int c']) = put S p a' b' c' := List.set_set ..
theorem set_ne {q : Nat} {o : SO} (h : q ≠ p) : (put S p a b c).set q o = put (S.set q o) p a b c := by
  unfold put
  rw [List.set_comm _ _ (Ne.symm h)]
theorem put_app (h : p < S.length) {R : Store} : put S p a b c ++ R = put (S ++ R) p a b c := by
  unfold put
  rw [List.set_append_left _ _ h]
theorem put_take {n : Nat} (h : p < n) : (put S p a b c).take n = put (S.take n) p a b c := by
  unfold put
  rw [List.take_set]
theorem put_same (h : S[p]? = some (.lst [.int a, .int b, .int c])) : put S p a b c = S := by
  unfold put
  obtain ⟨hp, e⟩ := List.getElem?_eq_some_iff.mp h
  rw [← e, List.set_getElem_self]
theorem vw_put (h : p < S.length) : vw (put S p a b c) (.ref p) = .lst [.int a, .int b, .int c] := by
  unfold vw
  simp only [put_at h]
theorem idx_put (h : p < S.length) (j : Int) : idxV (put S p a b c) (.ref p) (.int j) = L2.atI [PV.int a, PV.int b, PV.int c] j := by
  unfold idxV
  simp only [vw_put h]
theorem sidx_put (h : p < S.length) {j : Int} {k : Nat} {x : Int} (hj : L2.ixN 3 j = some k) : setIdxV (put S p a b c) (.ref p) (.int j) (.int x) = some ((put S p a b c).set p (.lst ([PV.int a, PV.int b, PV.int c].set k (.int x)))) := by
  unfold setIdxV
  simp only [put_at h, List.length_cons, List.length_nil, hj, PV.pure, if_true]
end
/-! ### calls -/
theorem call_at {G : Gl} {fns : List FnI} {k f : Nat} {fi : FnI} {args : List PV} {S : Store} (h : fns[f]? = some fi) (hn : args.length = fi.np) :
    call G fns (k + 1) f args S = endF fi.gc S.length (ex G (call G fns k) fi.body (args.map some ++ List.replicate (fi.ns - fi.np) none) S) := by
  simp only [call, h, hn, if_true, runF]
/-! ### loops -/
theorem beq_rfl : ∀ x : PV, x.beq x = true := fun x => by
  refine PV.rec (motive_1 := fun x => x.beq x = true) (motive_2 := fun l => PV.beqs l l = true) ?_ ?_ ?_ ?_ ?_ ?_ ?_ ?_ ?_ ?_ ?_ ?_ ?_ x
  · rfl
  · intro b; simp [PV.beq]
  · intro b; simp [PV.beq]
  · intro b; simp [PV.beq]
  · intro xs h; simpa [PV.beq] using h
  · intro xs h; simpa [PV.beq] using h
  · intro xs ys h1 h2; simp [PV.beq, h1, h2]
  · intro c xs h; simpa [PV.beq] using h
  · intro c xs h; simpa [PV.beq] using h
  · intro n; simp [PV.beq]
  · intro xs h; simpa [PV.beq] using h
  · rfl
  · intro x xs h1 h2; simp [PV.beqs, h1, h2]
theorem stands_of' {S : Store} {gv g0 : PV} (h : vw S gv = g0) : stands S gv g0 = true := by
  unfold stands; rw [h]; exact beq_rfl _
/-- a value that the store does not touch -/
def fixedV : PV → Bool
  | .ref _ => false
  | .scr _ => true
  | _ => true
theorem vw_fixed {S S' : Store} {v : PV} (h : fixedV v = true) : vw S v = vw S' v := by
  cases v <;> first | rfl | cases h
/-- a loop that may leave by a return -/
theorem for_rule {p : Pat} {body : PEnv → Store → Fl} {gv g0 : PV} {I : Nat → PEnv → Store → Prop} {R : PV → Store → Prop} {X : PV → PEnv → Store → Prop} :
    ∀ {xs : List PV} {i : Nat} {env : PEnv} {S : Store}, I i env S → (∀ j env S, I j env S → vw S gv = g0) →
      (∀ j x env S, xs[j]? = some x → I (i + j) env S → ∃ env', bindP p x env = some env' ∧ ((∃ env2 S2, body env' S = .nx env2 S2 ∧ I (i + j + 1) env2 S2) ∨ (∃ v S2, body env' S = .rt v S2 ∧ R v S2) ∨ ∃ e env2 S2, body env' S = .xc e env2 S2 ∧ X e env2 S2)) →
      (∃ env2 S2, forL p body gv g0 xs env S = .nx env2 S2 ∧ I (i + xs.length) env2 S2) ∨ (∃ v S2, forL p body gv g0 xs env S = .rt v S2 ∧ R v S2) ∨ ∃ e env2 S2, forL p body gv g0 xs env S = .xc e env2 S2 ∧ X e env2 S2
  | [], i, env, S, h, hv, _ => .inl ⟨env, S, by simp only [forL, stands_of' (hv _ _ _ h), if_true], h⟩
  | x :: xs, i, env, S, h, hv, hs => by
    obtain ⟨env', hb, hc⟩ := hs 0 x env S rfl h
    have e : forL p body gv g0 (x :: xs) env S = match body env' S with
        | .nx env2 S2 => forL p body gv g0 xs env2 S2
        | .bk env2 S2 => .nx env2 S2
        | f => f := by
      simp only [forL, stands_of' (hv _ _ _ h), if_true, hb] <;> (cases body env' S <;> rfl)
    rcases hc with ⟨env2, S2, e2, h2⟩ | ⟨v, S2, e2, h2⟩ | ⟨v, env2, S2, e2, h2⟩
    · rw [e, e2]
      have := for_rule (xs := xs) (R := R) (X := X) h2 hv fun j y env S hy hI => by
        have := hs (j + 1) y env S hy (by rw [show i + (j + 1) = i + 0 + 1 + j by omega]; exact hI)
        rwa [show i + (j + 1) + 1 = i + 0 + 1 + j + 1 by omega] at this
      rwa [show i + 0 + 1 + xs.length = i + (x :: xs).length by rw [List.length_cons]; omega] at this
    · rw [e, e2]; exact .inr (.inl ⟨v, S2, rfl, h2⟩)
    · rw [e, e2]; exact .inr (.inr ⟨v, env2, S2, rfl, h2⟩)
/-- a loop that ends -/
theorem for_all {p : Pat} {body : PEnv → Store → Fl} {gv g0 : PV} {I : Nat → PEnv → Store → Prop} {xs : List PV} {env : PEnv} {S : Store} (h : I 0 env S) (hv : ∀ j env S, I j env S → vw S gv = g0)
    (hs : ∀ j x env S, xs[j]? = some x → I j env S → ∃ env', bindP p x env = some env' ∧ ∃ env2 S2, body env' S = .nx env2 S2 ∧ I (j + 1) env2 S2) :
    ∃ env2 S2, forL p body gv g0 xs env S = .nx env2 S2 ∧ I xs.length env2 S2 := by
  rcases for_rule (I := I) (R := fun _ _ => False) (X := fun _ _ _ => False) (i := 0) h hv fun j x env S hx hI => by
    rw [Nat.zero_add] at hI
    obtain ⟨env', e, env2, S2, e2, h2⟩ := hs j x env S hx hI
    exact ⟨env', e, .inl ⟨env2, S2, e2, by rwa [Nat.zero_add]⟩⟩ with q | ⟨_, _, _, q⟩ | ⟨_, _, _, _, q⟩
  · rwa [Nat.zero_add] at q
  · exact q.elim
  · exact q.elim
/-- the turns of a comprehension: J relates what is put in to the turn -/
theorem comp_rule {p : Pat} {elt cond : PEnv → Store → Out PV} {gv g0 : PV} {env : PEnv} {I : Nat → List PV → Store → Prop} :
    ∀ {xs acc : List PV} {i : Nat} {S : Store}, I i acc S → acc.length + xs.length ≤ sizeLine → (∀ j acc S, I j acc S → vw S gv = g0) →
      (∀ j x acc S, xs[j]? = some x → I (i + j) acc S → ∃ env', bindP p x env = some env' ∧ ∃ t S1, cond env' S = .ok t S1 ∧ ((truthV S1 t = some false ∧ I (i + j + 1) acc S1) ∨ (truthV S1 t = some true ∧ ∃ y S2, elt env' S1 = .ok y S2 ∧ I (i + j + 1) (acc ++ [y]) S2))) →
      ∃ ys S2, compL p elt cond gv g0 env xs acc S = .ok ys S2 ∧ I (i + xs.length) ys S2
  | [], acc, i, S, h, _, hv, _ => ⟨acc, S, by simp only [compL, stands_of' (hv _ _ _ h), if_true], h⟩
  | x :: xs, acc, i, S, h, hl, hv, hs => by
    obtain ⟨env', hb, t, S1, hc, hd⟩ := hs 0 x acc S rfl h
    have hsz : acc.length < sizeLine := by rw [List.length_cons] at hl; omega
    have nxt : ∀ {acc' : List PV} {S' : Store}, acc'.length ≤ acc.length + 1 → I (i + 0 + 1) acc' S' → ∃ ys S2, compL p elt cond gv g0 env xs acc' S' = .ok ys S2 ∧ I (i + (x :: xs).length) ys S2 := fun {acc' S'} hle h2 => by
      obtain ⟨ys, S2, e, q⟩ := comp_rule (xs := xs) h2 (by rw [List.length_cons] at hl; omega) hv fun j y acc S hy hI => by
        have := hs (j + 1) y acc S hy (by rw [show i + (j + 1) = i + 0 + 1 + j by omega]; exact hI)
        rwa [show i + (j + 1) + 1 = i + 0 + 1 + j + 1 by omega] at this
      exact ⟨ys, S2, e, by rwa [show i + 0 + 1 + xs.length = i + (x :: xs).length by rw [List.length_cons]; omega] at q⟩
    rcases hd with ⟨ht, h2⟩ | ⟨ht, y, S2, he, h2⟩
    · obtain ⟨ys, S3, e, q⟩ := nxt (Nat.le_succ _) h2
      refine ⟨ys, S3, ?_, q⟩
      rw [← e]
      simp only [compL, stands_of' (hv _ _ _ h), if_true, hb, hc, Out.bind_ok, ht]
    · obtain ⟨ys, S3, e, q⟩ := nxt (by rw [List.length_append]; simp) h2
      refine ⟨ys, S3, ?_, q⟩
      rw [← e]
      simp only [compL, stands_of' (hv _ _ _ h), if_true, hb, hc, Out.bind_ok, ht, he, hsz]
end RF
/-! Ge: plain laws: how expressions come out. -/
namespace RF
open PySem
theorem ev_var {G : Gl} {C : CallF} {i : Nat} {env : PEnv} {S : Store} {v : PV} (h : env[i]? = some (some v)) (hx : v.isExc = false) : ev G C (.var i) env S = .ok v S := by
  simp only [ev, h, hx, Bool.false_eq_true, if_false]
/-- no error -/
theorem xR : (∀ b, (PV.bl b).isExc = false) ∧ (∀ i, (PV.int i).isExc = false) ∧ (∀ i, (PV.str i).isExc = false) ∧ (∀ l, (PV.tup l).isExc = false) ∧ (∀ l, (PV.lst l).isExc = false) ∧ (∀ l, (PV.scr l).isExc = false) ∧ (∀ n, (PV.ref n).isExc = false) ∧ (PV.non.isExc = false) ∧ (∀ c l, (PV.obj c l).isExc = false) :=
  ⟨fun _ => rfl, fun _ => rfl, fun _ => rfl, fun _ => rfl, fun _ => rfl, fun _ => rfl, fun _ => rfl, rfl, fun _ _ => rfl⟩
/-- operators on numbers and texts -/
theorem binR (S : Store) : (∀ i j, binV S .add (.int i) (.int j) = some (.int (i + j))) ∧ (∀ i j, binV S .sub (.int i) (.int j) = some (.int (i - j))) ∧ (∀ i j, binV S .mul (.int i) (.int j) = if inI64 i || inI64 j then some (.int (i * j)) else none) ∧
    (∀ i j, binV S .fdiv (.int i) (.int j) = if 0 < j ∧ j < 1073741824 then some (.int (i / j)) else none) ∧ (∀ i j, binV S .mod (.int i) (.int j) = if 0 < j then some (.int (i % j)) else none) ∧
    (∀ i j, binV S .pow (.int i) (.int j) = if 0 ≤ j ∧ j ≤ 1000000 ∧ i.natAbs < 2 ^ 64 then some (.int (i ^ j.toNat)) else none) ∧ (∀ i j, binV S .band (.int i) (.int j) = some (.int (Builtin.bitAnd i j))) ∧
    (∀ a b, binV S .add (.str a) (.str b) = if a.length + b.length ≤ sizeLine then some (.str (a ++ b)) else none) ∧ (∀ a b, binV S .add (.tup a) (.tup b) = if a.length + b.length ≤ sizeLine then some (.tup (a ++ b)) else none) ∧
    (∀ a b, binV S .add (.lst a) (.lst b) = if a.length + b.length ≤ sizeLine then some (.lst (a ++ b)) else none) :=
  ⟨fun _ _ => rfl, fun _ _ => rfl, fun _ _ => rfl, fun _ _ => rfl, fun _ _ => rfl, fun _ _ => rfl, fun _ _ => rfl, fun _ _ => rfl, fun _ _ => rfl, fun _ _ => rfl⟩
theorem eq_ints (S : Store) (i j : Int) : eqD S (.int i) (.int j) = some (decide (i = j)) := by
  have h : (SeqAt.shaped (.int i) && SeqAt.shaped (.int j)) = true := rfl
  show (if (SeqAt.shaped (.int i) && SeqAt.shaped (.int j)) = true then some (i == j) else none) = _
  rw [if_pos h]
  exact congrArg some (by by_cases e : i = j <;> simp [e])
theorem cmpR' (S : Store) : (∀ i j, cmpV S .lt (.int i) (.int j) = some (decide (i < j))) ∧ (∀ i j, cmpV S .le (.int i) (.int j) = some (decide (i ≤ j))) ∧ (∀ i j, cmpV S .gt (.int i) (.int j) = some (decide (j < i))) ∧ (∀ i j, cmpV S .ge (.int i) (.int j) = some (decide (j ≤ i))) ∧
    (∀ i j, cmpV S .eq (.int i) (.int j) = some (decide (i = j))) ∧ (∀ i j, cmpV S .ne (.int i) (.int j) = some (!decide (i = j))) ∧ (cmpV S .is .non .non = some true) ∧ (∀ i, cmpV S .is (.int i) .non = some false) ∧ (cmpV S .isn .non .non = some false) ∧ (∀ i, cmpV S .isn (.int i) .non = some true) :=
  ⟨fun _ _ => rfl, fun _ _ => rfl, fun _ _ => rfl, fun _ _ => rfl, fun i j => by show eqD S (.int i) (.int j) = _; exact eq_ints S i j, fun i j => by show (eqD S (.int i) (.int j)).map (!·) = _; rw [eq_ints S i j]; rfl, rfl, fun _ => rfl, rfl, fun _ => rfl⟩
theorem truthR (S : Store) : (∀ b, truthV S (.bl b) = some b) ∧ (∀ i, truthV S (.int i) = some (i != 0)) ∧ (truthV S .non = some false) := ⟨fun _ => rfl, fun _ => rfl, rfl⟩
theorem bfnR (S : Store) : (∀ i, bfnV S .int [.int i] = some (.int i)) ∧ (∀ i, bfnV S .abs [.int i] = some (.int (if i < 0 then -i else i))) ∧ (∀ i j, bfnV S .min [.int i, .int j] = some (.int (if j < i then j else i))) ∧ (∀ i j, bfnV S .max [.int i, .int j] = some (.int (if j > i then j else i))) ∧
    (∀ i j, bfnV S .divmod [.int i, .int j] = if 0 < j ∧ j < 1073741824 then some (.tup [.int (i / j), .int (i % j)]) else none) ∧ (∀ l, bfnV S .len [.tup l] = some (.int l.length)) ∧ (∀ l, bfnV S .len [.lst l] = some (.int l.length)) ∧ (∀ l, bfnV S .len [.scr l] = some (.int l.length)) ∧
    (∀ l, bfnV S .tuple [.tup l] = some (.tup l)) ∧ (∀ l, bfnV S .tuple [.lst l] = some (.tup l)) ∧ (∀ l, bfnV S .list [.tup l] = some (.lst l)) ∧ (∀ l, bfnV S .list [.lst l] = some (.lst l)) ∧
    (∀ l, bfnV S .all [.lst l] = (boolsP l).map fun bs => .bl (bs.all id)) ∧ (∀ l, bfnV S .any [.lst l] = (boolsP l).map fun bs => .bl (bs.any id)) :=
  ⟨fun _ => rfl, fun _ => rfl, fun _ _ => rfl, fun _ _ => rfl, fun _ _ => rfl, fun _ => rfl, fun _ => rfl, fun _ => rfl, fun _ => rfl, fun _ => rfl, fun _ => rfl, fun _ => rfl, fun _ => rfl, fun _ => rfl⟩
theorem idxR (S : Store) : (∀ l j, idxV S (.tup l) (.int j) = L2.atI l j) ∧ (∀ l j, idxV S (.lst l) (.int j) = L2.atI l j) ∧ (∀ l j, idxV S (.scr l) (.int j) = L2.atI l j) := ⟨fun _ _ => rfl, fun _ _ => rfl, fun _ _ => rfl⟩
theorem atI_nat {α : Type} (l : List α) (k : Nat) : L2.atI l (k : Int) = l[k]? := by
  unfold L2.atI L2.ixN
  rw [if_pos (by omega)]
  by_cases h : k < l.length
  · rw [if_pos (by omega)]
    show l[(k : Int).toNat]? = _
    rw [Int.toNat_natCast]
  · rw [if_neg (by omega)]
    exact (List.getElem?_eq_none (by omega)).symm
/-- places in a purse -/
theorem atI3 {α : Type} (a b c : α) : L2.atI [a, b, c] 0 = some a ∧ L2.atI [a, b, c] 1 = some b ∧ L2.atI [a, b, c] 2 = some c := ⟨rfl, rfl, rfl⟩
theorem sidx3 {S : Store} {p : Nat} {a b c x : Int} (h : p < S.length) : setIdxV (put S p a b c) (.ref p) (.int 0) (.int x) = some (put S p x b c) ∧ setIdxV (put S p a b c) (.ref p) (.int 1) (.int x) = some (put S p a x c) ∧ setIdxV (put S p a b c) (.ref p) (.int 2) (.int x) = some (put S p a b x) := by
  refine ⟨?_, ?_, ?_⟩
  · rw [sidx_put h (k := 0) rfl]; exact congrArg some set_put
  · rw [sidx_put h (k := 1) rfl]; exact congrArg some set_put
  · rw [sidx_put h (k := 2) rfl]; exact congrArg some set_put
theorem get0 {α : Type} (a : α) (l : List α) : (a :: l)[0]? = some a := rfl
theorem getS {α : Type} (a : α) (l : List α) (n : Nat) : (a :: l)[n + 1]? = l[n]? := rfl
end RF
/-! Gf: plain laws: ends of calls, texts. -/
namespace RF
open PySem
/-- no condition -/
def IR.yes : IR := .k (.bl true)
theorem ev_yes {G : Gl} {C : CallF} {env : PEnv} {S : Store} : ev G C IR.yes env S = .ok (.bl true) S := rfl
/-! ### ends -/
theorem gcV_pure {n : Nat} {v : PV} {S : Store} (h : v.pure = true) : gcV n v S = .ok v (S.take n) := by
  unfold gcV
  split
  · cases h
  · rw [if_pos h]
theorem end_rt {n : Nat} {v : PV} {S : Store} (h : v.pure = true) : endF true n (.rt v S) = .ok v (S.take n) := by
  show (if true = true then gcV n v S else .ok v S) = _
  rw [if_pos rfl, gcV_pure h]
theorem end_nx {n : Nat} {env : PEnv} {S : Store} : endF true n (.nx env S) = .ok .non (S.take n) := by
  show (if true = true then gcV n .non S else .ok .non S) = _
  rw [if_pos rfl, gcV_pure rfl]
theorem end_xc {n : Nat} {e : PV} {env : PEnv} {S : Store} : endF true n (.xc e env S) = .exc e (S.take n) := rfl
/-- a list made here leaves -/
theorem end_lst {n m : Nat} {xs : List PV} {S : Store} (h : S[m]? = some (.lst xs)) (hm : n ≤ m) : endF true n (.rt (.ref m) S) = .ok (.lst xs) (S.take n) := by
  show (if true = true then gcV n (.ref m) S else .ok (.ref m) S) = _
  rw [if_pos rfl]
  unfold gcV
  simp only [h]
  rw [if_neg (by omega)]
theorem take_all {S : Store} : S.take S.length = S := List.take_length
theorem take_put {S R : Store} {p : Nat} {a b c : Int} (h : p < S.length) : (put (S ++ R) p a b c).take S.length = put S p a b c := by
  rw [← put_app h, List.take_append_of_le_length (by rw [put_len]; exact Nat.le_refl _), ← put_len (S := S) (p := p) (a := a) (b := b) (c := c), List.take_length]
/-! ### texts -/
theorem shaped_str {x : Str} (h : PyData.strOk x = true) : SeqAt.shaped (.str x) = true := by
  show (PyData.strOk x && decide (PyData.depth (.str x) ≤ 64)) = true
  rw [h]; rfl
theorem toDs_strs : ∀ ws : List Str, toDs (ws.map PV.str) = some (ws.map PyData.str)
  | [] => rfl
  | w :: ws => by
    show (match toD (.str w), toDs (ws.map PV.str) with
      | some d, some ds => some (d :: ds)
      | _, _ => none) = _
    rw [toDs_strs ws]; rfl
theorem depthAll_strs : ∀ ws : List Str, PyData.depthAll (ws.map PyData.str) = 0
  | [] => rfl
  | w :: ws => by
    show max (PyData.depth (.str w)) (PyData.depthAll (ws.map PyData.str)) = 0
    rw [depthAll_strs ws]; rfl
theorem canLay_strs : ∀ {ws : List Str}, (∀ x, x ∈ ws → PyData.strOk x = true) → PyData.canLayAll0 (ws.map PyData.str) = true
  | [], _ => rfl
  | w :: ws, h => by
    show (PyData.strOk w && PyData.canLayAll0 (ws.map PyData.str)) = true
    rw [h w (List.mem_cons_self ..), canLay_strs fun x hx => h x (List.mem_cons_of_mem _ hx)]; rfl
theorem shaped_strs {ws : List Str} (h : ∀ x, x ∈ ws → PyData.strOk x = true) : SeqAt.shaped (.list (ws.map PyData.str)) = true ∧ SeqAt.shaped (.tuple (ws.map PyData.str)) = true := by
  constructor
  · show (PyData.canLayAll0 (ws.map PyData.str) && decide (PyData.depthAll (ws.map PyData.str) + 1 ≤ 64)) = true
    rw [canLay_strs h, depthAll_strs]; rfl
  · show (PyData.canLayAll0 (ws.map PyData.str) && decide (PyData.depthAll (ws.map PyData.str) + 1 ≤ 64)) = true
    rw [canLay_strs h, depthAll_strs]; rfl
theorem any_strs (w : Str) : ∀ ws : List Str, ((ws.map PyData.str).any fun z => PyData.eqv z (.str w)) = decide (w ∈ ws)
  | [] => by simp
  | y :: ws => by
    rw [List.map_cons, List.any_cons, any_strs w ws]
    show ((y == w) || decide (w ∈ ws)) = _
    by_cases h : y = w
    · subst h; simp
    · have h2 : ¬ w = y := fun e => h e.symm
      simp [h, h2]
theorem in_strs {S : Store} {v : PV} {w : Str} {ws : List Str} (hv : vw S v = .lst (ws.map .str) ∨ vw S v = .tup (ws.map .str)) (hw : PyData.strOk w = true) (h : ∀ x, x ∈ ws → PyData.strOk x = true) : inD S (.str w) v = some (decide (w ∈ ws)) := by
  have e : vw S (.str w) = .str w := rfl
  unfold inD
  rw [e]
  rcases hv with hv | hv
  · rw [hv]
    show (match toD (.str w), toDs (ws.map PV.str) with
      | some d, some ds => if (SeqAt.shaped d && SeqAt.shaped (.list ds)) = true then some (ds.any fun z => PyData.eqv z d) else none
      | _, _ => none) = _
    rw [toDs_strs]
    show (if (SeqAt.shaped (.str w) && SeqAt.shaped (.list (ws.map PyData.str))) = true then some ((ws.map PyData.str).any fun z => PyData.eqv z (.str w)) else none) = _
    rw [shaped_str hw, (shaped_strs h).1, Bool.and_true, if_pos rfl, any_strs]
  · rw [hv]
    show (match toD (.str w), toDs (ws.map PV.str) with
      | some d, some ds => if (SeqAt.shaped d && SeqAt.shaped (.tuple ds)) = true then some (ds.any fun z => PyData.eqv z d) else none
      | _, _ => none) = _
    rw [toDs_strs]
    show (if (SeqAt.shaped (.str w) && SeqAt.shaped (.tuple (ws.map PyData.str))) = true then some ((ws.map PyData.str).any fun z => PyData.eqv z (.str w)) else none) = _
    rw [shaped_str hw, (shaped_strs h).2, Bool.and_true, if_pos rfl, any_strs]
/-! ### names -/
def LET : Str := "abcdefghijklmnopqrstuvwxyz"
def SGN : Str := "abcdefghijklmnopqrstuvwxyz0123456789"
/-- a valid name -/
def isNm (w : Str) : Bool := match w.cps.toList with
  | [] => false
  | c :: cs => LET.cps.toList.contains c && cs.all (SGN.cps.toList.contains ·) && decide (cs.length ≤ 7)
theorem sgn_small : ∀ c, c ∈ SGN.cps.toList → c < 0x110000 := by
  have h : (SGN.cps.toList.all fun c => decide (c < 0x110000)) = true := by decide +kernel
  exact fun c hc => of_decide_eq_true (List.all_eq_true.mp h c hc)
theorem let_sgn : ∀ c, c ∈ LET.cps.toList → c ∈ SGN.cps.toList := by
  have h : (LET.cps.toList.all fun c => SGN.cps.toList.contains c) = true := by decide +kernel
  exact fun c hc => List.contains_iff_mem.mp (List.all_eq_true.mp h c hc)
theorem isNm_ok {w : Str} (h : isNm w = true) : ∃ c cs, w.cps.toList = c :: cs ∧ c ∈ LET.cps.toList ∧ (∀ x, x ∈ c :: cs → x ∈ SGN.cps.toList) ∧ cs.length ≤ 7 := by
  unfold isNm at h
  split at h
  · cases h
  · rename_i c cs e
    simp only [Bool.and_eq_true, decide_eq_true_eq] at h
    refine ⟨c, cs, e, List.contains_iff_mem.mp h.1.1, fun x hx => ?_, h.2⟩
    rcases List.mem_cons.mp hx with rfl | hx
    · exact let_sgn _ (List.contains_iff_mem.mp h.1.1)
    · exact List.contains_iff_mem.mp (List.all_eq_true.mp h.1.2 x hx)
theorem isNm_str {w : Str} (h : isNm w = true) : PyData.strOk w = true := by
  obtain ⟨c, cs, e, _, h2, _⟩ := isNm_ok h
  show w.cps.all (· < 0x110000) = true
  rw [Array.all_eq_true_iff_forall_mem]
  intro x hx
  have : x ∈ w.cps.toList := Array.mem_toList_iff.mpr hx
  rw [e] at this
  exact decide_eq_true (sgn_small x (h2 x this))
end RF
/-! Gg: plain laws: loops of common kinds. -/
namespace RF
open PySem
/-! ### comprehensions -/
/-- each turn gives a value, nothing is drawn -/
theorem comp_map {p : Pat} {elt cond : PEnv → Store → Out PV} {gv g0 : PV} {env : PEnv} {S : Store} {α : Type} (enc : α → PV) (f : α → PV) (l : List α)
    (hv : vw S gv = g0) (hl : l.length ≤ sizeLine) (h : ∀ (j : Nat) a, l[j]? = some a → ∃ env', bindP p (enc a) env = some env' ∧ cond env' S = .ok (.bl true) S ∧ elt env' S = .ok (f a) S) :
    compL p elt cond gv g0 env (l.map enc) [] S = .ok (l.map f) S := by
  obtain ⟨ys, S2, e, rfl, rfl⟩ := comp_rule (p := p) (elt := elt) (cond := cond) (gv := gv) (g0 := g0) (env := env) (xs := l.map enc) (acc := []) (i := 0) (S := S)
    (I := fun j acc S' => acc = (l.take j).map f ∧ S' = S) ⟨rfl, rfl⟩ (by simpa using hl) (fun _ _ _ h => by rw [h.2]; exact hv) (fun j x acc S' hx ⟨e1, e2⟩ => by
      subst e1 e2
      rw [Nat.zero_add] at *
      rw [List.getElem?_map] at hx
      cases hs : l[j]? with
      | none => rw [hs] at hx; cases hx
      | some a =>
        rw [hs] at hx
        obtain rfl : enc a = x := Option.some.inj hx
        obtain ⟨env', h1, h2, h3⟩ := h j a hs
        refine ⟨env', h1, .bl true, S', h2, .inr ⟨rfl, f a, S', h3, ?_, rfl⟩⟩
        rw [List.take_succ, hs]; simp)
  rw [e]
  simp
/-- some turns give a value -/
theorem comp_filter {p : Pat} {elt cond : PEnv → Store → Out PV} {gv g0 : PV} {env : PEnv} {S : Store} {α : Type} (enc : α → PV) (f : α → PV) (t : α → Bool) (l : List α)
    (hv : vw S gv = g0) (hl : l.length ≤ sizeLine) (h : ∀ (j : Nat) a, l[j]? = some a → ∃ env', bindP p (enc a) env = some env' ∧ cond env' S = .ok (.bl (t a)) S ∧ (t a = true → elt env' S = .ok (f a) S)) :
    compL p elt cond gv g0 env (l.map enc) [] S = .ok ((l.filter t).map f) S := by
  obtain ⟨ys, S2, e, rfl, rfl⟩ := comp_rule (p := p) (elt := elt) (cond := cond) (gv := gv) (g0 := g0) (env := env) (xs := l.map enc) (acc := []) (i := 0) (S := S)
    (I := fun j acc S' => acc = ((l.take j).filter t).map f ∧ S' = S) ⟨rfl, rfl⟩ (by simpa using hl) (fun _ _ _ h => by rw [h.2]; exact hv) (fun j x acc S' hx ⟨e1, e2⟩ => by
      subst e1 e2
      rw [Nat.zero_add] at *
      rw [List.getElem?_map] at hx
      cases hs : l[j]? with
      | none => rw [hs] at hx; cases hx
      | some a =>
        rw [hs] at hx
        obtain rfl : enc a = x := Option.some.inj hx
        obtain ⟨env', h1, h2, h3⟩ := h j a hs
        refine ⟨env', h1, .bl (t a), S', h2, ?_⟩
        cases ht : t a with
        | false => exact .inl ⟨rfl, by rw [List.take_succ, hs]; simp [ht], rfl⟩
        | true => exact .inr ⟨rfl, f a, S', h3 ht, by rw [List.take_succ, hs]; simp [ht], rfl⟩)
  rw [e]
  simp
/-- all turns draw from a purse -/
theorem comp_draw {p : Pat} {elt cond : PEnv → Store → Out PV} {gv g0 : PV} {env : PEnv} {S : Store} {q : Nat} {a b c : Int} {xs : List PV} (P : PV → Prop)
    (hv : ∀ a b c, vw (put S q a b c) gv = g0) (hl : xs.length ≤ sizeLine) (h : ∀ (j : Nat) x a b c, xs[j]? = some x → ∃ env', bindP p x env = some env' ∧ cond env' (put S q a b c) = .ok (.bl true) (put S q a b c) ∧ ∃ y a' b' c', elt env' (put S q a b c) = .ok y (put S q a' b' c') ∧ P y) :
    ∃ ys a' b' c', compL p elt cond gv g0 env xs [] (put S q a b c) = .ok ys (put S q a' b' c') ∧ ys.length = xs.length ∧ ∀ y, y ∈ ys → P y := by
  obtain ⟨ys, S2, e, hn, hp, a', b', c', rfl⟩ := comp_rule (p := p) (elt := elt) (cond := cond) (gv := gv) (g0 := g0) (env := env) (xs := xs) (acc := []) (i := 0) (S := put S q a b c)
    (I := fun j acc S' => acc.length = j ∧ (∀ y, y ∈ acc → P y) ∧ ∃ a b c, S' = put S q a b c) ⟨rfl, fun _ h => (by cases h), a, b, c, rfl⟩ (by simpa using hl) (fun _ _ _ ⟨_, _, a, b, c, h⟩ => by rw [h]; exact hv a b c) (fun j x acc S' hx ⟨e1, hP, a, b, c, e2⟩ => by
      subst e2
      obtain ⟨env', h1, h2, y, a', b', c', h3, h4⟩ := h j x a b c hx
      refine ⟨env', h1, .bl true, _, h2, .inr ⟨rfl, y, _, h3, ?_, ?_, a', b', c', rfl⟩⟩
      · rw [List.length_append, e1]; rfl
      · intro z hz
        rcases List.mem_append.mp hz with hz | hz
        · exact hP z hz
        · rw [List.mem_singleton.mp hz]; exact h4)
  exact ⟨ys, a', b', c', e, by rw [hn, Nat.zero_add], hp⟩
/-! ### a loop that ends at the first turn that is bad -/
/-- how a turn ends the loop: a value is returned, an error raised -/
inductive End where
  | rt (v : PV)
  | xc (e : PV)
def firstEnd (bad : Nat → Option End) (n : Nat) : Option End := (List.range n).findSome? bad
theorem firstEnd_zero (bad : Nat → Option End) : firstEnd bad 0 = none := rfl
theorem firstEnd_succ (bad : Nat → Option End) (n : Nat) : firstEnd bad (n + 1) = (match firstEnd bad n with | some e => some e | none => bad n) := by
  unfold firstEnd
  rw [List.range_succ, List.findSome?_append]
  cases (List.range n).findSome? bad with
  | none => simp
  | some e => rfl
theorem firstEnd_none {bad : Nat → Option End} {n : Nat} (h : firstEnd bad n = none) : ∀ i, i < n → bad i = none := by
  intro i hi
  unfold firstEnd at h
  rw [List.findSome?_eq_none_iff] at h
  exact h i (List.mem_range.mpr hi)
theorem firstEnd_none' {bad : Nat → Option End} {n : Nat} (h : ∀ i, i < n → bad i = none) : firstEnd bad n = none := by
  unfold firstEnd
  rw [List.findSome?_eq_none_iff]
  exact fun i hi => h i (List.mem_range.mp hi)
theorem firstEnd_some {bad : Nat → Option End} {n k : Nat} {e : End} (hk : k < n) (h : bad k = some e) (hl : ∀ i, i < k → bad i = none) : firstEnd bad n = some e := by
  unfold firstEnd
  have e1 : n = k + (1 + (n - k - 1)) := by omega
  rw [e1, List.range_add, List.findSome?_append]
  have : (List.range k).findSome? bad = none := firstEnd_none' hl
  rw [this, Option.none_or, List.range_add, List.map_append, List.findSome?_append]
  have : (List.map (fun x => k + x) (List.range 1)).findSome? bad = some e := by
    show ([k + 0] : List Nat).findSome? bad = _
    rw [Nat.add_zero]
    simp [h]
  rw [this]; rfl
theorem firstEnd_ex {bad : Nat → Option End} : ∀ {n : Nat} {e : End}, firstEnd bad n = some e → ∃ k, k < n ∧ bad k = some e ∧ ∀ i, i < k → bad i = none
  | 0, _, h => by cases h
  | n + 1, e, h => by
    rw [firstEnd_succ] at h
    cases hn : firstEnd bad n with
    | none => rw [hn] at h; exact ⟨n, Nat.lt_succ_self n, h, firstEnd_none hn⟩
    | some e2 =>
      rw [hn] at h
      cases h
      obtain ⟨k, h1, h2, h3⟩ := firstEnd_ex hn
      exact ⟨k, Nat.lt_succ_of_lt h1, h2, h3⟩
def loopEnd (F : PEnv → Prop) (S : Store) (f : Fl) : Option End → Prop
  | none => ∃ env2, f = .nx env2 S ∧ F env2
  | some (.rt v) => f = .rt v S
  | some (.xc e) => ∃ env2, f = .xc e env2 S
theorem for_first {p : Pat} {body : PEnv → Store → Fl} {gv g0 : PV} {xs : List PV} {env : PEnv} {S : Store} (F : PEnv → Prop) (bad : Nat → Option End) (hF : F env) (hv : vw S gv = g0)
    (h : ∀ (j : Nat) x env, xs[j]? = some x → F env → (∀ i, i < j → bad i = none) → ∃ env', bindP p x env = some env' ∧ loopEnd F S (body env' S) (bad j)) :
    loopEnd F S (forL p body gv g0 xs env S) (firstEnd bad xs.length) := by
  rcases for_rule (p := p) (body := body) (gv := gv) (g0 := g0) (xs := xs) (i := 0) (env := env) (S := S)
    (I := fun j env S' => S' = S ∧ F env ∧ ∀ i, i < j → bad i = none)
    (R := fun v S' => S' = S ∧ firstEnd bad xs.length = some (.rt v)) (X := fun e _ S' => S' = S ∧ firstEnd bad xs.length = some (.xc e))
    ⟨rfl, hF, fun i hi => absurd hi (Nat.not_lt_zero i)⟩ (fun _ _ _ h => by rw [h.1]; exact hv) (fun j x env S' hx ⟨e1, hF, hb⟩ => by
      subst e1
      rw [Nat.zero_add] at *
      obtain ⟨env', hp, hq⟩ := h j x env hx hF hb
      refine ⟨env', hp, ?_⟩
      have hj : j < xs.length := (List.getElem?_eq_some_iff.mp hx).1
      cases he : bad j with
      | none =>
        rw [he] at hq
        obtain ⟨env2, e, hF2⟩ := hq
        refine .inl ⟨env2, S', e, rfl, hF2, fun i hi => ?_⟩
        by_cases hij : i = j
        · rw [hij, he]
        · exact hb i (by omega)
      | some en =>
        rw [he] at hq
        have hfe := firstEnd_some hj he hb
        cases en with
        | rt v => exact .inr (.inl ⟨v, S', hq, rfl, hfe⟩)
        | xc e => obtain ⟨env2, hq⟩ := hq; exact .inr (.inr ⟨e, env2, S', hq, rfl, hfe⟩)) with ⟨env2, S2, e, rfl, hF2, hb⟩ | ⟨v, S2, e, rfl, hb⟩ | ⟨x, env2, S2, e, rfl, hb⟩
  · rw [firstEnd_none' (fun i hi => hb i (by omega))]
    exact ⟨env2, e, hF2⟩
  · rw [hb]; exact e
  · rw [hb]; exact ⟨env2, e⟩
/-! ### signs -/
theorem in_sign (S : Store) (c : Nat) (x : Str) : inD S (.str ⟨#[c]⟩) (.str x) = some (decide (c ∈ x.cps.toList)) := by
  show some (!(Builtin.Str.occurrences x ⟨#[c]⟩ 0 x.length 1).isEmpty) = _
  rw [StrLaws.found_one]
theorem enumV_at {xs : List PV} {j : Nat} {y : PV} (h : (enumV xs)[j]? = some y) : ∃ x, xs[j]? = some x ∧ y = .tup [.int (j : Nat), x] := by
  unfold enumV at h
  rw [List.getElem?_map] at h
  cases hz : xs.zipIdx[j]? with
  | none => rw [hz] at h; cases h
  | some q =>
    rw [hz] at h
    have h2 := (List.getElem?_zipIdx (l := xs) (i := 0) (j := j)).symm.trans hz
    cases hx : xs[j]? with
    | none => rw [hx] at h2; cases h2
    | some x =>
      rw [hx] at h2
      simp only [Option.map_some, Option.some.injEq, Nat.zero_add] at h2
      subst h2
      exact ⟨x, rfl, (Option.some.inj h).symm⟩
theorem enumV_len (xs : List PV) : (enumV xs).length = xs.length := by
  unfold enumV
  rw [List.length_map, List.length_zipIdx]
theorem boolsP_map : ∀ bs : List Bool, boolsP (bs.map .bl) = some bs
  | [] => rfl
  | b :: bs => by
    show (boolsP (bs.map .bl)).map (b :: ·) = _
    rw [boolsP_map bs]; rfl
theorem boolsP_mapf {α : Type} (f : α → Bool) (l : List α) : boolsP (l.map fun a => .bl (f a)) = some (l.map f) := by
  rw [show (l.map fun a => PV.bl (f a)) = (l.map f).map .bl by rw [List.map_map]; rfl]
  exact boolsP_map _
theorem allR {α : Type} (S : Store) (f : α → Bool) (l : List α) : bfnV S .all [.lst (l.map fun a => .bl (f a))] = some (.bl (l.all f)) := by
  show (boolsP (l.map fun a => .bl (f a))).map (fun bs => PV.bl (bs.all id)) = _
  rw [boolsP_mapf, Option.map_some, List.all_map]
  rfl
theorem anyR {α : Type} (S : Store) (f : α → Bool) (l : List α) : bfnV S .any [.lst (l.map fun a => .bl (f a))] = some (.bl (l.any f)) := by
  show (boolsP (l.map fun a => .bl (f a))).map (fun bs => PV.bl (bs.any id)) = _
  rw [boolsP_mapf, Option.map_some, List.any_map]
  rfl
theorem cut_take (xs : List PV) (k : Nat) : cutP xs none (some (k : Int)) = xs.take k := by
  unfold cutP
  rw [HT.sIx_none, HT.sIx_nat, List.drop_zero, Nat.sub_zero]
  by_cases h : k ≤ xs.length
  · rw [Nat.min_eq_left h]
  · rw [Nat.min_eq_right (by omega), List.take_of_length_le (Nat.le_refl _), List.take_of_length_le (by omega)]
theorem cut_drop (xs : List PV) (k : Nat) : cutP xs (some (k : Int)) none = xs.drop k := by
  unfold cutP
  rw [HT.sIx_none, HT.sIx_nat]
  by_cases h : k ≤ xs.length
  · rw [Nat.min_eq_left h, List.take_of_length_le (by rw [List.length_drop]; omega)]
  · rw [Nat.min_eq_right (by omega), Nat.sub_self, List.take_zero, List.drop_eq_nil_of_le (by omega)]
end RF
/-! Gh: plain laws: equations whose branches hang on a truth. -/
namespace RF
open PySem
/-! what comes behind is left as it stands: the type says so -/
abbrev KT {α β : Type} (f : α → Store → Out β) : Type := Out β
def bK {α β : Type} (o : Out α) (f : α → Store → Out β) : KT f := o.bind f
abbrev KF {α : Type} (env : PEnv) (f : α → Store → Fl) : Type := Fl
def tK {α : Type} (o : Out α) (env : PEnv) (f : α → Store → Fl) : KF env f := o.thn env f
abbrev KS (f : PEnv → Store → Fl) : Type := Fl
def sK (o : Fl) (f : PEnv → Store → Fl) : KS f := o.bind f
def ifT {β : Type} (o : Option Bool) (t f n : β) : β := match o with
  | some true => t
  | some false => f
  | none => n
theorem ifT_some {β : Type} (b : Bool) (t f n : β) : ifT (some b) t f n = bif b then t else f := by cases b <;> rfl
theorem cond_t {β : Type} (a b : β) : (bif true then a else b) = a := rfl
theorem cond_f {β : Type} (a b : β) : (bif false then a else b) = b := rfl
section
variable {G : Gl} {C : CallF} {env : PEnv} {S : Store}
theorem ev_k (v : PV) : ev G C (.k v) env S = .ok v S := by simp only [ev]
theorem ev_v (i : Nat) : ev G C (.var i) env S = match env[i]? with
    | some (some v) => if v.isExc = true then .bad else .ok v S
    | _ => .bad := by rw [ev] <;> rfl
theorem ev_xattr (i f : Nat) : ev G C (.xattr i f) env S = match env[i]? with
    | some (some (.exc c xs)) => match G.xfix c f with
      | some j => ofOpt S xs[j]?
      | none => .bad
    | _ => .bad := by rw [ev] <;> rfl
theorem ev_tup (l : IR) : ev G C (.tup l) env S = bK (evs G C l env S) fun xs S1 => if xs.length ≤ sizeLine then .ok (.tup xs) S1 else .bad := by rw [ev] <;> rfl
theorem ev_lst (l : IR) : ev G C (.lst l) env S = bK (evs G C l env S) fun xs S1 => if xs.length ≤ sizeLine then .ok (.lst xs) S1 else .bad := by rw [ev] <;> rfl
theorem ev_lstR (l : IR) : ev G C (.lstR l) env S = bK (evs G C l env S) fun xs S1 => if xs.length ≤ sizeLine ∧ PV.pures xs = true then .ok (.ref S1.length) (S1 ++ [.lst xs]) else .bad := by rw [ev] <;> rfl
theorem ev_bin (o : BOp) (a b : IR) : ev G C (.bin o a b) env S = bK (ev G C a env S) fun x S1 => bK (ev G C b env S1) fun y S2 => ofOpt S2 (binV S2 o x y) := by rw [ev] <;> rfl
theorem ev_cmp (o : COp) (a b : IR) : ev G C (.cmp o a b) env S = bK (ev G C a env S) fun x S1 => bK (ev G C b env S1) fun y S2 => ofOpt S2 ((cmpV S2 o x y).map .bl) := by rw [ev] <;> rfl
theorem ev_chain (o1 o2 : COp) (a b c : IR) : ev G C (.chain o1 o2 a b c) env S = bK (ev G C a env S) fun x S1 => bK (ev G C b env S1) fun y S2 => ifT (cmpV S2 o1 x y) (bK (ev G C c env S2) fun z S3 => ofOpt S3 ((cmpV S3 o2 y z).map .bl)) (.ok (.bl false) S2) .bad := by
  simp only [ev]; congr 1; funext x S1; congr 1; funext y S2; unfold ifT; cases cmpV S2 o1 x y with
  | none => rfl
  | some b => cases b <;> rfl
theorem ev_neg (a : IR) : ev G C (.neg a) env S = bK (ev G C a env S) fun x S1 => match x with
    | .int i => .ok (.int (-i)) S1
    | _ => .bad := by rw [ev] <;> rfl
theorem ev_not (a : IR) : ev G C (.not a) env S = bK (ev G C a env S) fun x S1 => ofOpt S1 ((truthV S1 x).map fun b => .bl (!b)) := by
  simp only [ev]; congr 1; funext x S1; cases truthV S1 x <;> rfl
theorem ev_and (a b : IR) : ev G C (.and a b) env S = bK (ev G C a env S) fun x S1 => ifT (truthV S1 x) (ev G C b env S1) (.ok x S1) .bad := by
  rw [ev]; congr 1
theorem ev_or (a b : IR) : ev G C (.or a b) env S = bK (ev G C a env S) fun x S1 => ifT (truthV S1 x) (.ok x S1) (ev G C b env S1) .bad := by
  simp only [ev]; congr 1; funext x S1; unfold ifT; cases truthV S1 x with
  | none => rfl
  | some b => cases b <;> rfl
theorem ev_ite (c a b : IR) : ev G C (.ite c a b) env S = bK (ev G C c env S) fun x S1 => ifT (truthV S1 x) (ev G C a env S1) (ev G C b env S1) .bad := by
  rw [ev]; congr 1
theorem ev_call (f : Nat) (l kw : IR) (perm : List (Sum Nat PV)) : ev G C (.call f l kw perm) env S = bK (evs G C l env S) fun xs S1 => bK (evs G C kw env S1) fun zs S2 => match arrange (xs ++ zs) perm with
    | some ys => C f ys S2
    | none => .bad := by rw [ev] <;> rfl
theorem ev_new (c : Nat) (l kw : IR) (perm : List (Sum Nat PV)) : ev G C (.new c l kw perm) env S = bK (evs G C l env S) fun xs S1 => bK (evs G C kw env S1) fun zs S2 => match G.cls[c]? with
    | none => .bad
    | some ci => match arrange (.ref S2.length :: (xs ++ zs)) perm with
      | none => .bad
      | some ys => bK (C ci.init ys (S2 ++ [.inst c []])) fun r S3 => match r with
        | .non => if ci.frozen = true then gcV S2.length (.ref S2.length) S3 else .ok (.ref S2.length) S3
        | _ => .bad := by rw [ev] <;> rfl
theorem ev_meth (m : Nat) (o l kw : IR) (perm : List (Sum Nat PV)) : ev G C (.meth m o l kw perm) env S = bK (ev G C o env S) fun x S1 => match methOf G S1 x m with
    | none => .bad
    | some f => bK (evs G C l env S1) fun xs S2 => bK (evs G C kw env S2) fun zs S3 => match arrange (x :: (xs ++ zs)) perm with
      | some ys => C f ys S3
      | none => .bad := by rw [ev] <;> rfl
theorem ev_bfn (b : BFn) (l : IR) : ev G C (.bfn b l) env S = bK (evs G C l env S) fun xs S1 => ofOpt S1 (bfnV S1 b xs) := by rw [ev] <;> rfl
theorem ev_listR (a : IR) : ev G C (.listR a) env S = bK (ev G C a env S) fun x S1 => match bfnV S1 .list [x] with
    | some (.lst xs) => if PV.pures xs then .ok (.ref S1.length) (S1 ++ [.lst xs]) else .bad
    | _ => .bad := by rw [ev] <;> rfl
theorem ev_bmt (b : BMt) (o l : IR) : ev G C (.bmt b o l) env S = bK (ev G C o env S) fun x S1 => if bmtK b (kindB S1 x) = true then bK (evs G C l env S1) fun xs S2 => ofOpt S2 (bmtV S2 b x xs) else .bad := by rw [ev] <;> rfl
theorem ev_mmt (b : MMt) (o l : IR) : ev G C (.mmt b o l) env S = bK (ev G C o env S) fun x S1 => match kindB S1 x with
    | some 1 => bK (evs G C l env S1) fun xs S2 => match mmtV S2 b x xs with
      | some (v, S3) => .ok v S3
      | none => .bad
    | _ => .bad := by rw [ev] <;> rfl
theorem ev_isI (a : IR) (t : ITy) : ev G C (.isI a t) env S = bK (ev G C a env S) fun x S1 => ofOpt S1 ((isIV G S1 x t).map .bl) := by rw [ev] <;> rfl
theorem ev_attr (o : IR) (f : Nat) : ev G C (.attr o f) env S = bK (ev G C o env S) fun x S1 => ofOpt S1 (attrV G S1 x f) := by rw [ev] <;> rfl
theorem ev_idx (o i : IR) : ev G C (.idx o i) env S = bK (ev G C o env S) fun x S1 => bK (ev G C i env S1) fun y S2 => ofOpt S2 (idxV S2 x y) := by rw [ev] <;> rfl
theorem ev_slc (o lo hi : IR) : ev G C (.slc o lo hi) env S = bK (ev G C o env S) fun x S1 =>
      bK (if lo.isNil = true then Out.ok none S1 else bK (ev G C lo env S1) fun l S2 => partI S2 l) fun l S2 =>
      bK (if hi.isNil = true then Out.ok none S2 else bK (ev G C hi env S2) fun h S3 => partI S3 h) fun h S3 => ofOpt S3 (slcV S3 x l h) := by rw [ev] <;> rfl
theorem ev_rev (o : IR) : ev G C (.rev o) env S = bK (ev G C o env S) fun x S1 => ofOpt S1 (revV S1 x) := by rw [ev] <;> rfl
theorem ev_comp (own : List Nat) (p : Pat) (it elt cond : IR) : ev G C (.comp own p it elt cond) env S = bK (evs G C it env S) fun items S1 => match items with
    | [] => .bad
    | gv :: xs => match compL p (ev G C elt) (ev G C cond) gv (vw S1 gv) (wipeP env own) xs [] S1 with
      | .ok ys S2 => .ok (.lst ys) S2
      | _ => .bad := by rw [ev] <;> rfl
theorem ev_compR (own : List Nat) (p : Pat) (it elt cond : IR) : ev G C (.compR own p it elt cond) env S = bK (evs G C it env S) fun items S1 => match items with
    | [] => .bad
    | gv :: xs => match compL p (ev G C elt) (ev G C cond) gv (vw S1 gv) (wipeP env own) xs [] S1 with
      | .ok ys S2 => if PV.pures ys = true then .ok (.ref S2.length) (S2 ++ [.lst ys]) else .bad
      | _ => .bad := by rw [ev] <;> rfl
theorem ev_fmt (a : IR) : ev G C (.fmt a) env S = bK (ev G C a env S) fun x S1 => ofOpt S1 ((strPart x).map .str) := by rw [ev] <;> rfl
theorem ev_one (a : IR) : ev G C (.one a) env S = ev G C a env S := by rw [ev] <;> rfl
theorem ev_fstr (l : IR) : ev G C (.fstr l) env S = match evs G C l env S with
    | .ok xs S1 => match strsP xs with
      | some ts => if (ts.foldl (· ++ ·) Str.empty).length ≤ sizeLine then .ok (.str (ts.foldl (· ++ ·) Str.empty)) S1 else .bad
      | none => .bad
    | _ => .bad := by rw [ev] <;> rfl
theorem ev_ocmp (ne : Bool) (m : Nat) (a b : IR) : ev G C (.ocmp ne m a b) env S = bK (ev G C a env S) fun x S1 => bK (ev G C b env S1) fun y S2 => ocmpO G C ne m x y S2 := by rw [ev] <;> rfl
theorem ev_ostr (m : Nat) (a : IR) : ev G C (.ostr m a) env S = bK (ev G C a env S) fun x S1 => ostrO G C m x S1 := by rw [ev] <;> rfl
theorem evs_nil : evs G C .nil env S = .ok [] S := by rw [evs]
theorem evs_cons (a b : IR) : evs G C (.cons a b) env S = bK (ev G C a env S) fun x S1 => bK (evs G C b env S1) fun xs S2 => .ok (x :: xs) S2 := by rw [evs] <;> rfl
theorem evs_star (a b : IR) : evs G C (.star a b) env S = bK (ev G C a env S) fun x S1 => match starV S1 x with
    | some ys => bK (evs G C b env S1) fun xs S2 => .ok (ys ++ xs) S2
    | none => .bad := by rw [evs] <;> rfl
theorem evs_itV (e : IR) : evs G C (.itV e) env S = bK (ev G C e env S) fun x S1 => ofOpt S1 ((itemsV S1 x).map fun l => x :: l) := by rw [evs] <;> rfl
theorem evs_itR1 (a : IR) : evs G C (.itR1 a) env S = bK (ev G C a env S) fun x S1 => ofOpt S1 ((rangeV [x]).map fun l => .non :: l) := by rw [evs] <;> rfl
theorem evs_itR2 (a b : IR) : evs G C (.itR2 a b) env S = bK (ev G C a env S) fun x S1 => bK (ev G C b env S1) fun y S2 => ofOpt S2 ((rangeV [x, y]).map fun l => .non :: l) := by rw [evs] <;> rfl
theorem evs_itEnum (e : IR) : evs G C (.itEnum e) env S = bK (ev G C e env S) fun x S1 => ofOpt S1 ((starV S1 x).map fun l => x :: enumV l) := by rw [evs] <;> rfl
theorem setTs_nil : setTs G C .nil [] env S = .nx env S := by rw [setTs]
theorem setTs_v (i : Nat) (r : Tg) (x : PV) (xs : List PV) : setTs G C (.v i r) (x :: xs) env S = setTs G C r xs (env.set i (some x)) S := by rw [setTs]
theorem setTs_ix (o i : IR) (r : Tg) (x : PV) (xs : List PV) : setTs G C (.ix o i r) (x :: xs) env S = tK (ev G C o env S) env fun ov S1 => tK (ev G C i env S1) env fun iv S2 => match setIdxV S2 ov iv x with
    | some S3 => setTs G C r xs env S3
    | none => .bad := by rw [setTs] <;> rfl
theorem ex_ite (c : IR) (a b : IS) : ex G C (.ite c a b) env S = tK (ev G C c env S) env fun v S1 => ifT (truthV S1 v) (ex G C a env S1) (ex G C b env S1) .bad := by
  rw [ex]; congr 1
theorem ex_skip : ex G C .skip env S = .nx env S := by rw [ex] <;> rfl
theorem ex_seq (a b : IS) : ex G C (.seq a b) env S = sK (ex G C a env S) fun env1 S1 => ex G C b env1 S1 := by rw [ex] <;> rfl
theorem ex_seq_skip (a : IS) : ex G C (.seq a .skip) env S = ex G C a env S := by
  rw [ex_seq]
  show (ex G C a env S).bind (fun env1 S1 => ex G C .skip env1 S1) = _
  cases ex G C a env S <;> simp only [Fl.bind, ex_skip]
theorem ex_set (p : Pat) (e : IR) : ex G C (.set p e) env S = tK (ev G C e env S) env fun v S1 => match bindP p v env with
    | some env' => .nx env' S1
    | none => .bad := by rw [ex] <;> rfl
theorem ex_par (is : List Nat) (l : IR) : ex G C (.par is l) env S = tK (evs G C l env S) env fun vs S1 => match setMany is vs env with
    | some env' => .nx env' S1
    | none => .bad := by rw [ex] <;> rfl
theorem ex_setT (ts : Tg) (e : IR) : ex G C (.setT ts e) env S = tK (ev G C e env S) env fun v S1 => match v with
    | .tup xs => if xs.length = ts.len then setTs G C ts xs env S1 else .bad
    | _ => .bad := by rw [ex] <;> rfl
theorem ex_setAttr (o : IR) (f : Nat) (e : IR) : ex G C (.setAttr o f e) env S = tK (ev G C e env S) env fun v S1 => tK (ev G C o env S1) env fun x S2 => match setAttrV G S2 x f v with
    | some S3 => .nx env S3
    | none => .bad := by rw [ex] <;> rfl
theorem ex_setIdx (o i e : IR) : ex G C (.setIdx o i e) env S = tK (ev G C e env S) env fun v S1 => tK (ev G C o env S1) env fun x S2 => tK (ev G C i env S2) env fun y S3 => match setIdxV S3 x y v with
    | some S4 => .nx env S4
    | none => .bad := by rw [ex] <;> rfl
theorem ex_expr (e : IR) : ex G C (.expr e) env S = tK (ev G C e env S) env fun _ S1 => .nx env S1 := by rw [ex] <;> rfl
theorem ex_for (p : Pat) (it : IR) (b : IS) : ex G C (.for p it b) env S = tK (evs G C it env S) env fun items S1 => match items with
    | [] => .bad
    | gv :: xs => forL p (ex G C b) gv (vw S1 gv) xs env S1 := by rw [ex] <;> rfl
theorem ex_ret (e : IR) : ex G C (.ret e) env S = tK (ev G C e env S) env fun v S1 => .rt v S1 := by rw [ex] <;> rfl
theorem ex_raise (c : Nat) (l : IR) : ex G C (.raise c l) env S = tK (evs G C l env S) env fun xs S1 => if PV.pures xs = true then .xc (.exc c xs) env S1 else .bad := by rw [ex] <;> rfl
end
/-- small sizes -/
theorem szR : 0 ≤ sizeLine ∧ 0 + 1 ≤ sizeLine ∧ 0 + 1 + 1 ≤ sizeLine ∧ 0 + 1 + 1 + 1 ≤ sizeLine ∧ 0 + 1 + 1 + 1 + 1 ≤ sizeLine ∧ 0 + 1 + 1 + 1 + 1 + 1 ≤ sizeLine ∧ 0 + 1 + 1 + 1 + 1 + 1 + 1 ≤ sizeLine ∧ 0 + 1 + 1 + 1 + 1 + 1 + 1 + 1 ≤ sizeLine ∧ 0 + 1 + 1 + 1 + 1 + 1 + 1 + 1 + 1 ≤ sizeLine ∧ 0 + 1 + 1 + 1 + 1 + 1 + 1 + 1 + 1 + 1 ≤ sizeLine ∧ 0 + 1 + 1 + 1 + 1 + 1 + 1 + 1 + 1 + 1 + 1 ≤ sizeLine ∧ 0 + 1 + 1 + 1 + 1 + 1 + 1 + 1 + 1 + 1 + 1 + 1 ≤ sizeLine ∧ 0 + 1 + 1 + 1 + 1 + 1 + 1 + 1 + 1 + 1 + 1 + 1 + 1 ≤ sizeLine ∧ 0 + 1 + 1 + 1 + 1 + 1 + 1 + 1 + 1 + 1 + 1 + 1 + 1 + 1 ≤ sizeLine ∧ 0 + 1 + 1 + 1 + 1 + 1 + 1 + 1 + 1 + 1 + 1 + 1 + 1 + 1 + 1 ≤ sizeLine ∧ 0 + 1 + 1 + 1 + 1 + 1 + 1 + 1 + 1 + 1 + 1 + 1 + 1 + 1 + 1 + 1 ≤ sizeLine ∧ 0 + 1 + 1 + 1 + 1 + 1 + 1 + 1 + 1 + 1 + 1 + 1 + 1 + 1 + 1 + 1 + 1 ≤ sizeLine ∧ 0 + 1 + 1 + 1 + 1 + 1 + 1 + 1 + 1 + 1 + 1 + 1 + 1 + 1 + 1 + 1 + 1 + 1 ≤ sizeLine ∧ 0 + 1 + 1 + 1 + 1 + 1 + 1 + 1 + 1 + 1 + 1 + 1 + 1 + 1 + 1 + 1 + 1 + 1 + 1 ≤ sizeLine ∧ 0 + 1 + 1 + 1 + 1 + 1 + 1 + 1 + 1 + 1 + 1 + 1 + 1 + 1 + 1 + 1 + 1 + 1 + 1 + 1 ≤ sizeLine ∧ 0 + 1 + 1 + 1 + 1 + 1 + 1 + 1 + 1 + 1 + 1 + 1 + 1 + 1 + 1 + 1 + 1 + 1 + 1 + 1 + 1 ≤ sizeLine ∧ 0 + 1 + 1 + 1 + 1 + 1 + 1 + 1 + 1 + 1 + 1 + 1 + 1 + 1 + 1 + 1 + 1 + 1 + 1 + 1 + 1 + 1 ≤ sizeLine ∧ 0 + 1 + 1 + 1 + 1 + 1 + 1 + 1 + 1 + 1 + 1 + 1 + 1 + 1 + 1 + 1 + 1 + 1 + 1 + 1 + 1 + 1 + 1 ≤ sizeLine ∧ 0 + 1 + 1 + 1 + 1 + 1 + 1 + 1 + 1 + 1 + 1 + 1 + 1 + 1 + 1 + 1 + 1 + 1 + 1 + 1 + 1 + 1 + 1 + 1 ≤ sizeLine ∧ 0 + 1 + 1 + 1 + 1 + 1 + 1 + 1 + 1 + 1 + 1 + 1 + 1 + 1 + 1 + 1 + 1 + 1 + 1 + 1 + 1 + 1 + 1 + 1 + 1 ≤ sizeLine := by decide +kernel
/-! ### try -/
theorem ex_try_nx {G : Gl} {C : CallF} {b h : IS} {hs : List Nat} {nm : Option Nat} {env env' : PEnv} {S S' : Store} (e : ex G C b env S = .nx env' S') : ex G C (.try_ b hs nm h) env S = .nx env' S' := by rw [ex, e]
theorem ex_try_rt {G : Gl} {C : CallF} {b h : IS} {hs : List Nat} {nm : Option Nat} {env : PEnv} {S S' : Store} {v : PV} (e : ex G C b env S = .rt v S') : ex G C (.try_ b hs nm h) env S = .rt v S' := by rw [ex, e]
theorem ex_try_xc {G : Gl} {C : CallF} {b h : IS} {hs : List Nat} {i c : Nat} {x : XI} {xs : List PV} {env env1 : PEnv} {S S1 S2 : Store} {v : PV} (e : ex G C b env S = .xc (.exc c xs) env1 S1) (hx : G.exs[c]? = some x) (hh : hs.any (fun d => decide (d ∈ x.sup)) = true)
    (hb : ex G C h (env1.set i (some (.exc c xs))) S1 = .rt v S2) : ex G C (.try_ b hs (some i) h) env S = .rt v S2 := by
  rw [ex, e]
  simp only [hx, hh, if_true, hb]
/-! ### steps that Lean's kernel is not to look into -/
theorem nBok {α β : Type} (a : α) (S : Store) (f : α → Store → Out β) : bK (Out.ok a S) f = f a S := Eq.trans rfl rfl
theorem nBex {α β : Type} (a : PV) (S : Store) (f : α → Store → Out β) : bK (Out.exc a S) f = .exc a S := Eq.trans rfl rfl
theorem nOpt {α : Type} (S : Store) (a : α) : ofOpt S (some a) = .ok a S := Eq.trans rfl rfl
theorem nTok {α : Type} (a : α) (S : Store) (env : PEnv) (k : α → Store → Fl) : tK (Out.ok a S) env k = k a S := Eq.trans rfl rfl
theorem nTex {α : Type} (e : PV) (S : Store) (env : PEnv) (k : α → Store → Fl) : tK (Out.exc e S) env k = .xc e env S := Eq.trans rfl rfl
theorem nFnx (env : PEnv) (S : Store) (k : PEnv → Store → Fl) : sK (Fl.nx env S) k = k env S := Eq.trans rfl rfl
theorem nFrt (v : PV) (S : Store) (k : PEnv → Store → Fl) : sK (Fl.rt v S) k = .rt v S := Eq.trans rfl rfl
theorem nFxc (e : PV) (env : PEnv) (S : Store) (k : PEnv → Store → Fl) : sK (Fl.xc e env S) k = .xc e env S := Eq.trans rfl rfl
theorem nMap {α β : Type} (f : α → β) (a : α) : Option.map f (some a) = some (f a) := Eq.trans rfl rfl
/-! ### truths pushed about -/
theorem orB (x y : Bool) (S : Store) : (bif x then Out.ok (PV.bl x) S else Out.ok (PV.bl y) S) = Out.ok (PV.bl (x || y)) S := by cases x <;> rfl
theorem andB (x y : Bool) (S : Store) : (bif x then Out.ok (PV.bl y) S else Out.ok (PV.bl x) S) = Out.ok (PV.bl (x && y)) S := by cases x <;> rfl
theorem thnB {α : Type} (x : Bool) (a b : Out α) (env : PEnv) (k : α → Store → Fl) : tK (bif x then a else b) env k = bif x then tK a env k else tK b env k := by cases x <;> rfl
theorem bindB {α β : Type} (x : Bool) (a b : Out α) (k : α → Store → Out β) : bK (bif x then a else b) k = bif x then bK a k else bK b k := by cases x <;> rfl
theorem flB (x : Bool) (a b : Fl) (k : PEnv → Store → Fl) : sK (bif x then a else b) k = bif x then sK a k else sK b k := by cases x <;> rfl
theorem flNx (f : Fl) : (sK f fun e S => .nx e S) = f := by cases f <;> rfl
theorem xD (k v : List PV) : (PV.dct k v).isExc = false := rfl
theorem isR (G : Gl) (S : Store) : (∀ w, isIV G S (.str w) .str = some true) ∧ (∀ w, isIV G S (.tup w) .tuple = some true) ∧ (∀ w, isIV G S (.int w) .int = some true) ∧ (∀ w, isIV G S (.int w) .bool = some false) ∧ (∀ w, isIV G S (.bl w) .bool = some true) ∧ (∀ w, isIV G S (.lst w) .list = some true) ∧ (isIV G S .non .str = some false) :=
  ⟨fun _ => rfl, fun _ => rfl, fun _ => rfl, fun _ => rfl, fun _ => rfl, fun _ => rfl, rfl⟩
theorem itR (S : Store) : (∀ w, itemsV S (.tup w) = some w) ∧ (∀ w, itemsV S (.lst w) = some w) ∧ (∀ z : Str, itemsV S (.str z) = some (z.cps.toList.map fun c => .str ⟨#[c]⟩)) := ⟨fun _ => rfl, fun _ => rfl, fun _ => rfl⟩
theorem stR (S : Store) : (∀ w, starV S (.tup w) = some w) ∧ (∀ w, starV S (.lst w) = some w) := ⟨fun _ => rfl, fun _ => rfl⟩
theorem nilR : IR.isNil .nil = true ∧ (∀ v, IR.isNil (.k v) = false) ∧ (∀ i, IR.isNil (.var i) = false) ∧ (∀ o a b, IR.isNil (.bin o a b) = false) ∧ (∀ o a, IR.isNil (.bfn o a) = false) := ⟨rfl, fun _ => rfl, fun _ => rfl, fun _ _ _ => rfl, fun _ _ => rfl⟩
theorem partR (S : Store) (i : Int) : partI S (.int i) = .ok (some i) S := rfl
theorem slcR (S : Store) : (∀ l a b, slcV S (.tup l) a b = some (.tup (cutP l a b))) ∧ (∀ l a b, slcV S (.lst l) a b = some (.lst (cutP l a b))) := ⟨fun _ _ _ => rfl, fun _ _ _ => rfl⟩
theorem revR (S : Store) : (∀ l, revV S (.tup l) = some (.tup l.reverse)) ∧ (∀ l, revV S (.lst l) = some (.lst l.reverse)) := ⟨fun _ => rfl, fun _ => rfl⟩
theorem inR (S : Store) (a b : PV) : cmpV S .inn a b = inD S a b ∧ cmpV S .nin a b = (inD S a b).map (!·) := ⟨rfl, rfl⟩
theorem eqS (S : Store) (a b : Str) : cmpV S .eq (.str a) (.str b) = some (decide (a = b)) ∧ cmpV S .ne (.str a) (.str b) = some (!decide (a = b)) := ⟨rfl, rfl⟩
/-! ### loops over what is typed -/
section
variable {S : Store} {body : PEnv → Store → Fl} {gv g0 : PV} {α : Type}
theorem for_enum (enc : α → PV) (l : List α) {a b : Nat} {env : PEnv} (F : PEnv → Prop) (bad : Nat → Option End) (hF : F env) (hv : vw S gv = g0)
    (h : ∀ (j : Nat) x env, l[j]? = some x → F env → (∀ i, i < j → bad i = none) → loopEnd F S (body ((env.set a (some (.int (j : Nat)))).set b (some (enc x))) S) (bad j)) :
    loopEnd F S (forL (.cons (.v a) (.cons (.v b) .nil)) body gv g0 (enumV (l.map enc)) env S) (firstEnd bad l.length) := by
  have := for_first (p := .cons (.v a) (.cons (.v b) .nil)) (body := body) (gv := gv) (g0 := g0) (xs := enumV (l.map enc)) (S := S) F bad hF hv fun j x env hx hF hb => by
    obtain ⟨y, hy, rfl⟩ := enumV_at hx
    rw [List.getElem?_map] at hy
    cases hz : l[j]? with
    | none => rw [hz] at hy; cases hy
    | some z =>
      rw [hz] at hy
      obtain rfl : enc z = y := Option.some.inj hy
      exact ⟨_, rfl, h j z env hz hF hb⟩
  rwa [enumV_len, List.length_map] at this
theorem for_each (enc : α → PV) (l : List α) {p : Pat} {env : PEnv} (F : PEnv → Prop) (bad : Nat → Option End) (hF : F env) (hv : vw S gv = g0)
    (h : ∀ (j : Nat) x env, l[j]? = some x → F env → (∀ i, i < j → bad i = none) → ∃ env', bindP p (enc x) env = some env' ∧ loopEnd F S (body env' S) (bad j)) :
    loopEnd F S (forL p body gv g0 (l.map enc) env S) (firstEnd bad l.length) := by
  have := for_first (p := p) (body := body) (gv := gv) (g0 := g0) (xs := l.map enc) (S := S) F bad hF hv fun j x env hx hF hb => by
    rw [List.getElem?_map] at hx
    cases hz : l[j]? with
    | none => rw [hz] at hx; cases hx
    | some z =>
      rw [hz] at hx
      obtain rfl : enc z = x := Option.some.inj hx
      exact h j z env hz hF hb
  rwa [List.length_map] at this
theorem for_range (n : Nat) {a : Nat} {env : PEnv} (F : PEnv → Prop) (bad : Nat → Option End) (hF : F env) (hv : vw S gv = g0)
    (h : ∀ (j : Nat) env, j < n → F env → (∀ i, i < j → bad i = none) → loopEnd F S (body (env.set a (some (.int (j : Nat)))) S) (bad j)) :
    loopEnd F S (forL (.v a) body gv g0 ((List.range n).map fun i => .int (i : Nat)) env S) (firstEnd bad n) := by
  have := for_each (fun i : Nat => PV.int i) (List.range n) (p := .v a) (body := body) (gv := gv) (g0 := g0) (S := S) F bad hF hv fun j x env hx hF hb => by
    have hj : j < n := by
      by_cases h : j < n
      · exact h
      · rw [List.getElem?_eq_none (by rw [List.length_range]; omega)] at hx; cases hx
    rw [List.getElem?_range hj] at hx
    cases hx
    exact ⟨_, rfl, h j env hj hF hb⟩
  rwa [List.length_range] at this
end
theorem loopEnd_if {F : PEnv → Prop} {S : Store} {c : Bool} {A B : Fl} {r : End} (h1 : c = true → loopEnd F S A (some r)) (h2 : c = false → loopEnd F S B none) : loopEnd F S (bif c then A else B) (if c = true then some r else none) := by
  cases c with
  | true => exact h1 rfl
  | false => exact h2 rfl
theorem const_end (p : Nat → Bool) (e : End) : ∀ n, firstEnd (fun j => if p j = true then some e else none) n = if (List.range n).any p = true then some e else none
  | 0 => rfl
  | n + 1 => by
    rw [firstEnd_succ, const_end p e n, List.range_succ, List.any_append]
    cases (List.range n).any p <;> cases h : p n <;> simp [h]
/-! ### results of calls -/
def outE (S : Store) : Option End → Out PV
  | none => .ok .non S
  | some (.rt v) => .ok v S
  | some (.xc e) => .exc e S
theorem end_xcT {n : Nat} {e : PV} {env : PEnv} {S : Store} : endF true n (.xc e env S) = .exc e (S.take n) := rfl
section
variable {G : Gl} {fns : List FnI} {k f : Nat} {fi : FnI} {args : List PV} {S S' : Store} {v e : PV} {env env0 : PEnv} {b : IS}
theorem call_to (hf : fns[f]? = some fi) (ha : args.length = fi.np) (hb : fi.body = b) (hg : fi.gc = true) (he : args.map some ++ List.replicate (fi.ns - fi.np) none = env0) :
    call G fns (k + 1) f args S = endF true S.length (ex G (call G fns k) b env0 S) := by
  rw [call_at hf ha, hb, hg, he]
/-- a call that leaves the store as it was -/
theorem call_rt (hf : fns[f]? = some fi) (hb : fi.body = b) (h : ex G (call G fns k) b env0 S = .rt v S') (ha : args.length = fi.np) (hg : fi.gc = true) (hv : v.pure = true) (he : args.map some ++ List.replicate (fi.ns - fi.np) none = env0) :
    call G fns (k + 1) f args S = .ok v (S'.take S.length) := by
  rw [call_to hf ha hb hg he, h, end_rt hv]
theorem call_nx (hf : fns[f]? = some fi) (hb : fi.body = b) (h : ex G (call G fns k) b env0 S = .nx env S') (ha : args.length = fi.np) (hg : fi.gc = true) (he : args.map some ++ List.replicate (fi.ns - fi.np) none = env0) :
    call G fns (k + 1) f args S = .ok .non (S'.take S.length) := by
  rw [call_to hf ha hb hg he, h, end_nx]
theorem call_xc (hf : fns[f]? = some fi) (hb : fi.body = b) (h : ex G (call G fns k) b env0 S = .xc e env S') (ha : args.length = fi.np) (hg : fi.gc = true) (he : args.map some ++ List.replicate (fi.ns - fi.np) none = env0) :
    call G fns (k + 1) f args S = .exc e (S'.take S.length) := by
  rw [call_to hf ha hb hg he, h, end_xc]
/-- .. whose body ends as a loop does -/
theorem call_end (hf : fns[f]? = some fi) (hb : fi.body = b) {r : Option End} {F : PEnv → Prop} (h : loopEnd F S (ex G (call G fns k) b env0 S) r) (hr : ∀ v, r = some (.rt v) → v.pure = true) (ha : args.length = fi.np) (hg : fi.gc = true) (he : args.map some ++ List.replicate (fi.ns - fi.np) none = env0) :
    call G fns (k + 1) f args S = outE S r := by
  match r, hr, h with
  | none, _, h => obtain ⟨env, h, _⟩ := h; rw [call_nx hf hb h ha hg he, take_all]; rfl
  | some (.rt v), hr, h => rw [call_rt hf hb h ha hg (hr v rfl) he, take_all]; rfl
  | some (.xc e), _, h => obtain ⟨env, h⟩ := h; rw [call_xc hf hb h ha hg he, take_all]; rfl
end
theorem vwR (S : Store) : vw S .non = .non ∧ (∀ b, vw S (.bl b) = .bl b) ∧ (∀ i, vw S (.int i) = .int i) ∧ (∀ x, vw S (.str x) = .str x) ∧ (∀ l, vw S (.tup l) = .tup l) ∧ (∀ l, vw S (.lst l) = .lst l) ∧ (∀ l, vw S (.scr l) = .lst l) := ⟨rfl, fun _ => rfl, fun _ => rfl, fun _ => rfl, fun _ => rfl, fun _ => rfl, fun _ => rfl⟩
theorem atI_0 {α : Type} (x : α) (l : List α) : L2.atI (x :: l) 0 = some x := atI_nat (x :: l) 0
theorem size_of {n : Nat} (h : n ≤ 16777216) : n ≤ sizeLine := h
end RF
/-! Gi: plain laws: typed values. -/
namespace RF
open PySem
/-- how values of a type are written, so that equality is equality -/
structure Enc (α : Type) [DecidableEq α] where
  pv : α → PV
  pd : α → PyData
  good : α → Prop
  dp : Nat
  toD : ∀ a, toD (pv a) = some (pd a)
  eqv : ∀ a b, PyData.eqv (pd a) (pd b) = decide (a = b)
  lay : ∀ a, good a → PyData.canLay0 (pd a) = true
  dep : ∀ a, PyData.depth (pd a) ≤ dp
  vw : ∀ S a, vw S (pv a) = pv a
  pure : ∀ a, (pv a).pure = true
  sho : ∀ a, good a → PyData.showable (pd a) = true ∧ PyData.intsShort 13 (pd a) = true
namespace Enc
variable {α β γ δ : Type} [DecidableEq α] [DecidableEq β] [DecidableEq γ] [DecidableEq δ]
theorem toDs (E : Enc α) : ∀ l : List α, RF.toDs (l.map E.pv) = some (l.map E.pd)
  | [] => rfl
  | a :: l => by
    show (match RF.toD (E.pv a), RF.toDs (l.map E.pv) with
      | some d, some ds => some (d :: ds)
      | _, _ => none) = _
    rw [toDs E l, E.toD]; rfl
theorem eqvAll (E : Enc α) : ∀ a b : List α, PyData.eqvAll (a.map E.pd) (b.map E.pd) = decide (a = b)
  | [], [] => rfl
  | [], _ :: _ => rfl
  | _ :: _, [] => rfl
  | x :: a, y :: b => by
    show (PyData.eqv (E.pd x) (E.pd y) && PyData.eqvAll (a.map E.pd) (b.map E.pd)) = _
    rw [E.eqv, eqvAll E a b]
    by_cases h1 : x = y <;> by_cases h2 : a = b <;> simp [h1, h2]
theorem layAll (E : Enc α) : ∀ {l : List α}, (∀ a, a ∈ l → E.good a) → PyData.canLayAll0 (l.map E.pd) = true
  | [], _ => rfl
  | a :: l, h => by
    show (PyData.canLay0 (E.pd a) && PyData.canLayAll0 (l.map E.pd)) = true
    rw [E.lay a (h a (List.mem_cons_self ..)), layAll E fun x hx => h x (List.mem_cons_of_mem _ hx)]; rfl
theorem depAll (E : Enc α) : ∀ l : List α, PyData.depthAll (l.map E.pd) ≤ E.dp
  | [] => Nat.zero_le _
  | a :: l => Nat.max_le.mpr ⟨E.dep a, depAll E l⟩
theorem shoAll (E : Enc α) : ∀ {l : List α}, (∀ a, a ∈ l → E.good a) → PyData.showableAll (l.map E.pd) = true ∧ PyData.intsShortAll 13 (l.map E.pd) = true
  | [], _ => ⟨rfl, rfl⟩
  | a :: l, h => by
    have h1 := E.sho a (h a (List.mem_cons_self ..))
    have h2 := shoAll E fun x hx => h x (List.mem_cons_of_mem _ hx)
    constructor
    · show (PyData.showable (E.pd a) && PyData.showableAll (l.map E.pd)) = true
      rw [h1.1, h2.1]; rfl
    · show (PyData.intsShort 13 (E.pd a) && PyData.intsShortAll 13 (l.map E.pd)) = true
      rw [h1.2, h2.2]; rfl
theorem puresAll (E : Enc α) (l : List α) : PV.pures (l.map E.pv) = true := by
  rw [pures_map]
  exact List.all_eq_true.mpr fun a _ => E.pure a
def str : Enc Str where
  sho _ _ := ⟨rfl, rfl⟩
  pv := .str
  pd := .str
  good w := PyData.strOk w = true
  dp := 0
  toD _ := rfl
  eqv a b := by
    show (a == b) = _
    by_cases h : a = b <;> simp [h]
  lay _ h := h
  dep _ := Nat.le_refl _
  vw _ _ := rfl
  pure _ := rfl
/-- an integer that is short -/
def shortI (i : Int) : Prop := i.natAbs.log2 < 1920 ∧ (PyData.shown (.int i)).length ≤ 13
def int : Enc Int where
  pv := .int
  pd := .int
  good := shortI
  sho i h := ⟨decide_eq_true h.1, decide_eq_true h.2⟩
  dp := 0
  toD _ := rfl
  eqv a b := by
    show (a == b) = _
    by_cases h : a = b <;> simp [h]
  lay _ _ := rfl
  dep _ := Nat.le_refl _
  vw _ _ := rfl
  pure _ := rfl
def bool : Enc Bool where
  sho _ _ := ⟨rfl, rfl⟩
  pv := .bl
  pd := .bool
  good _ := True
  dp := 0
  toD _ := rfl
  eqv a b := by cases a <;> cases b <;> rfl
  lay _ _ := rfl
  dep _ := Nat.le_refl _
  vw _ _ := rfl
  pure _ := rfl
/-- an integer or None -/
def oint : Enc (Option Int) where
  pv := fun | none => .non | some i => .int i
  pd := fun | none => .none | some i => .int i
  good a := ∀ i, a = some i → shortI i
  sho a h := by
    cases a with
    | none => exact ⟨rfl, rfl⟩
    | some i => exact ⟨decide_eq_true (h i rfl).1, decide_eq_true (h i rfl).2⟩
  dp := 0
  toD a := by cases a <;> rfl
  eqv a b := by
    cases a <;> cases b
    · rfl
    · rfl
    · rfl
    · rename_i i j
      show (i == j) = _
      by_cases h : i = j <;> simp [h]
  lay a _ := by cases a <;> rfl
  dep a := by cases a <;> exact Nat.le_refl _
  vw _ a := by cases a <;> rfl
  pure a := by cases a <;> rfl
/-- a tuple of as many as one likes -/
def tup (E : Enc α) : Enc (List α) where
  sho _ h := E.shoAll h
  pv l := .tup (l.map E.pv)
  pd l := .tuple (l.map E.pd)
  good l := ∀ a, a ∈ l → E.good a
  dp := E.dp + 1
  toD l := by
    show (RF.toDs (l.map E.pv)).map PyData.tuple = _
    rw [E.toDs]; rfl
  eqv a b := E.eqvAll a b
  lay _ h := E.layAll h
  dep l := Nat.succ_le_succ (E.depAll l)
  vw _ _ := rfl
  pure l := E.puresAll l
/-- .. a list -/
def lst (E : Enc α) : Enc (List α) where
  sho _ h := E.shoAll h
  pv l := .lst (l.map E.pv)
  pd l := .list (l.map E.pd)
  good l := ∀ a, a ∈ l → E.good a
  dp := E.dp + 1
  toD l := by
    show (RF.toDs (l.map E.pv)).map PyData.list = _
    rw [E.toDs]; rfl
  eqv a b := E.eqvAll a b
  lay _ h := E.layAll h
  dep l := Nat.succ_le_succ (E.depAll l)
  vw _ _ := rfl
  pure l := E.puresAll l
/-- the items of a tuple of several kinds -/
structure Its (α : Type) [DecidableEq α] where
  pv : α → List PV
  pd : α → List PyData
  good : α → Prop
  dp : Nat
  toD : ∀ a, RF.toDs (pv a) = some (pd a)
  eqv : ∀ a b, PyData.eqvAll (pd a) (pd b) = decide (a = b)
  lay : ∀ a, good a → PyData.canLayAll0 (pd a) = true
  dep : ∀ a, PyData.depthAll (pd a) ≤ dp
  pure : ∀ a, PV.pures (pv a) = true
  sho : ∀ a, good a → PyData.showableAll (pd a) = true ∧ PyData.intsShortAll 13 (pd a) = true
def last (E : Enc α) : Its α where
  pv a := [E.pv a]
  pd a := [E.pd a]
  good := E.good
  dp := E.dp
  toD a := E.toDs [a]
  eqv a b := by
    show (PyData.eqv (E.pd a) (E.pd b) && true) = _
    rw [E.eqv, Bool.and_true]
  lay a h := E.layAll (l := [a]) fun x hx => by rw [List.mem_singleton.mp hx]; exact h
  dep a := E.depAll [a]
  pure a := E.puresAll [a]
  sho a h := E.shoAll (l := [a]) fun x hx => by rw [List.mem_singleton.mp hx]; exact h
def more (E : Enc α) (R : Its β) : Its (α × β) where
  pv a := E.pv a.1 :: R.pv a.2
  pd a := E.pd a.1 :: R.pd a.2
  good a := E.good a.1 ∧ R.good a.2
  dp := max E.dp R.dp
  toD a := by
    show (match RF.toD (E.pv a.1), RF.toDs (R.pv a.2) with
      | some d, some ds => some (d :: ds)
      | _, _ => none) = _
    rw [R.toD, E.toD]
  eqv a b := by
    show (PyData.eqv (E.pd a.1) (E.pd b.1) && PyData.eqvAll (R.pd a.2) (R.pd b.2)) = _
    rw [E.eqv, R.eqv]
    obtain ⟨a1, a2⟩ := a
    obtain ⟨b1, b2⟩ := b
    by_cases h1 : a1 = b1 <;> by_cases h2 : a2 = b2 <;> simp [h1, h2]
  lay a h := by
    show (PyData.canLay0 (E.pd a.1) && PyData.canLayAll0 (R.pd a.2)) = true
    rw [E.lay _ h.1, R.lay _ h.2]; rfl
  dep a := Nat.max_le.mpr ⟨Nat.le_trans (E.dep _) (Nat.le_max_left ..), Nat.le_trans (R.dep _) (Nat.le_max_right ..)⟩
  pure a := by
    show ((E.pv a.1).pure && PV.pures (R.pv a.2)) = true
    rw [E.pure, R.pure]; rfl
  sho a h := by
    have h1 := E.sho _ h.1
    have h2 := R.sho _ h.2
    constructor
    · show (PyData.showable (E.pd a.1) && PyData.showableAll (R.pd a.2)) = true
      rw [h1.1, h2.1]; rfl
    · show (PyData.intsShort 13 (E.pd a.1) && PyData.intsShortAll 13 (R.pd a.2)) = true
      rw [h1.2, h2.2]; rfl
/-- a tuple of several kinds -/
def mix (R : Its α) : Enc α where
  pv a := .tup (R.pv a)
  pd a := .tuple (R.pd a)
  good := R.good
  dp := R.dp + 1
  toD a := by
    show (RF.toDs (R.pv a)).map PyData.tuple = _
    rw [R.toD]; rfl
  eqv a b := R.eqv a b
  lay a h := R.lay a h
  dep a := Nat.succ_le_succ (R.dep a)
  vw _ _ := rfl
  pure a := R.pure a
  sho a h := R.sho a h
theorem shaped (E : Enc α) (hd : E.dp ≤ 64) {a : α} (h : E.good a) : SeqAt.shaped (E.pd a) = true := by
  show (PyData.canLay0 (E.pd a) && decide (PyData.depth (E.pd a) ≤ 64)) = true
  rw [E.lay a h, decide_eq_true (Nat.le_trans (E.dep a) hd)]; rfl
theorem eq_ (E : Enc α) (S : Store) {a b : α} (ha : E.good a) (hb : E.good b) (hd : E.dp ≤ 64) : eqD S (E.pv a) (E.pv b) = some (decide (a = b)) := by
  unfold eqD
  rw [E.vw, E.vw]
  simp only [E.toD, E.shaped hd ha, E.shaped hd hb, Bool.and_self, if_true, E.eqv]
theorem cmp_eq (E : Enc α) (S : Store) {a b : α} (ha : E.good a) (hb : E.good b) (hd : E.dp ≤ 64) : cmpV S .eq (E.pv a) (E.pv b) = some (decide (a = b)) := by
  show eqT S (E.pv a) (E.pv b) = _
  unfold eqT
  split
  · rename_i x y h1 h2
    have := E.eq_ S ha hb hd
    rw [h1, h2] at this
    have e : eqD S (.str x) (.str y) = (if (SeqAt.shaped (.str x) && SeqAt.shaped (.str y)) = true then some (x == y) else none) := rfl
    rw [e] at this
    split at this
    · rw [← this]
      by_cases h : x = y <;> simp [h]
    · cases this
  · exact E.eq_ S ha hb hd
theorem cmp_ne (E : Enc α) (S : Store) {a b : α} (ha : E.good a) (hb : E.good b) (hd : E.dp ≤ 64) : cmpV S .ne (E.pv a) (E.pv b) = some (!decide (a = b)) := by
  have := E.cmp_eq S ha hb hd
  show (eqT S (E.pv a) (E.pv b)).map (!·) = _
  have h2 : eqT S (E.pv a) (E.pv b) = some (decide (a = b)) := this
  rw [h2]; rfl
theorem any_ (E : Enc α) (a : α) : ∀ l : List α, ((l.map E.pd).any fun z => PyData.eqv z (E.pd a)) = decide (a ∈ l)
  | [] => by simp
  | b :: l => by
    rw [List.map_cons, List.any_cons, any_ E a l, E.eqv]
    by_cases h : b = a
    · subst h; simp
    · have h2 : ¬ a = b := fun e => h e.symm
      simp [h, h2]
theorem in_tup (E : Enc α) (S : Store) {a : α} {l : List α} (ha : E.good a) (hl : ∀ b, b ∈ l → E.good b) (hd : E.dp ≤ 63) : inD S (E.pv a) (.tup (l.map E.pv)) = some (decide (a ∈ l)) := by
  have e : inD S (E.pv a) (.tup (l.map E.pv)) = (match RF.toD (E.pv a), RF.toDs (l.map E.pv) with
      | some d, some ds => if (SeqAt.shaped d && SeqAt.shaped (.tuple ds)) = true then some (ds.any fun z => PyData.eqv z d) else none
      | _, _ => none) := by
    unfold inD
    rw [E.vw, show RF.vw S (.tup (l.map E.pv)) = .tup (l.map E.pv) from rfl]
    generalize E.pv a = x
    cases x <;> rfl
  have h2 : SeqAt.shaped (.tuple (l.map E.pd)) = true := (E.tup).shaped (a := l) (Nat.succ_le_succ hd) hl
  rw [e]
  simp only [E.toD, E.toDs, E.shaped (Nat.le_trans hd (by decide)) ha, E.any_, h2, Bool.and_self, if_true]
theorem in_lst (E : Enc α) (S : Store) {v : PV} {a : α} {l : List α} (hv : RF.vw S v = .lst (l.map E.pv)) (ha : E.good a) (hl : ∀ b, b ∈ l → E.good b) (hd : E.dp ≤ 63) : inD S (E.pv a) v = some (decide (a ∈ l)) := by
  have e : inD S (E.pv a) v = (match RF.toD (E.pv a), RF.toDs (l.map E.pv) with
      | some d, some ds => if (SeqAt.shaped d && SeqAt.shaped (.list ds)) = true then some (ds.any fun z => PyData.eqv z d) else none
      | _, _ => none) := by
    unfold inD
    rw [E.vw, hv]
    generalize E.pv a = x
    cases x <;> rfl
  have h2 : SeqAt.shaped (.list (l.map E.pd)) = true := (E.lst).shaped (a := l) (Nat.succ_le_succ hd) hl
  rw [e]
  simp only [E.toD, E.toDs, E.shaped (Nat.le_trans hd (by decide)) ha, E.any_, h2, Bool.and_self, if_true]
/-! ### what is shown -/
theorem repr_ok (E : Enc α) (S : Store) {a : α} (h : E.good a) (hd : E.dp ≤ 64) (hw : PyData.weight (E.pd a) ≤ 1000000) : reprV S (E.pv a) = some (E.pd a).shown := by
  have h1 := E.sho a h
  have h2 : PyData.layable0 (E.pd a) = true := by
    show (PyData.canLay0 (E.pd a) && decide (PyData.depth (E.pd a) ≤ 64) && decide (PyData.weight (E.pd a) ≤ 2 ^ 20)) = true
    rw [E.lay a h, decide_eq_true (Nat.le_trans (E.dep a) hd), decide_eq_true (Nat.le_trans hw (by decide))]; rfl
  have h3 : (E.pd a).shown.length ≤ sizeLine := Nat.le_trans (PyProof.Rows.shown_le13 h2 h1.2) (by decide)
  unfold reprV
  rw [E.vw]
  simp only [E.toD, h1.1, decide_eq_true (Nat.le_trans (E.dep a) hd), decide_eq_true h3, Bool.and_self, if_true]
theorem weights (E : Enc α) {m : Nat} : ∀ {l : List α}, (∀ a, a ∈ l → PyData.weight (E.pd a) ≤ m) → PyData.weightAll (l.map E.pd) ≤ l.length * (m + 1)
  | [], _ => Nat.zero_le _
  | a :: l, h => by
    have h1 := h a (List.mem_cons_self ..)
    have h2 := weights E (m := m) (l := l) fun x hx => h x (List.mem_cons_of_mem _ hx)
    show PyData.weight (E.pd a) + 1 + PyData.weightAll (l.map E.pd) ≤ (l.length + 1) * (m + 1)
    rw [Nat.succ_mul]
    omega
theorem wt_tup (E : Enc α) {m n : Nat} {l : List α} (h : ∀ a, a ∈ l → PyData.weight (E.pd a) ≤ m) (hl : l.length ≤ n) : PyData.weight ((E.tup).pd l) ≤ n * (m + 1) :=
  Nat.le_trans (E.weights h) (Nat.mul_le_mul_right _ hl)
theorem wt_str {w : Str} {n : Nat} (h : w.length ≤ n) : PyData.weight (str.pd w) ≤ n := h
end Enc
theorem reprS {S : Store} {v : PV} {s : Str} (h : reprV S v = some s) : bfnV S .repr [v] = some (.str s) := by
  show (reprV S v).map PV.str = _
  rw [h]; rfl
end RF
/-! Gj: plain laws: lists that grow while a purse is drawn from. -/
namespace RF
open PySem
/-- a list at the end of the store -/
theorem vw_last {S : Store} {p : Nat} {a b c : Int} {l : List PV} (hp : p < S.length) : vw (put (S ++ [.lst l]) p a b c) (.ref S.length) = .lst l := by
  unfold vw
  have : (put (S ++ [.lst l]) p a b c)[S.length]? = some (.lst l) := by
    rw [put_ne (by omega), List.getElem?_append_right (Nat.le_refl _), Nat.sub_self]; rfl
  simp only [this]
theorem kind_lst {S : Store} {v : PV} {l : List PV} (h : vw S v = .lst l) : kindB S v = some 1 := by
  unfold kindB; rw [h]
theorem app_last {S : Store} {p : Nat} {a b c : Int} {l : List PV} {y : PV} (hp : p < S.length) (hy : y.pure = true) (hl : l.length < sizeLine) : mmtV (put (S ++ [.lst l]) p a b c) .append (.ref S.length) [y] = some (.non, put (S ++ [.lst (l ++ [y])]) p a b c) := by
  have e : (put (S ++ [.lst l]) p a b c)[S.length]? = some (.lst l) := by
    rw [put_ne (by omega), List.getElem?_append_right (Nat.le_refl _), Nat.sub_self]; rfl
  unfold mmtV
  simp only [e, hy, hl, and_self, if_true]
  rw [set_ne (by omega), List.set_append_right _ _ (Nat.le_refl _), Nat.sub_self]; rfl
theorem tuple_last {S : Store} {p : Nat} {a b c : Int} {l : List PV} (hp : p < S.length) : bfnV (put (S ++ [.lst l]) p a b c) .tuple [.ref S.length] = some (.tup l) := by
  unfold bfnV
  simp only [vw_last hp]
theorem take_last {S : Store} {p : Nat} {a b c a' b' c' : Int} {R : Store} (hp : p < S.length) : (put (S ++ R) p a' b' c').take (put S p a b c).length = put S p a' b' c' := by
  rw [put_len, take_put hp]
theorem put_all {S : Store} {p : Nat} {a b c a' b' c' : Int} : (put S p a b c).take (put S p a' b' c').length = put S p a b c := by
  rw [put_len, ← put_len (S := S) (p := p) (a := a) (b := b) (c := c), List.take_length]
theorem range1 {n : Int} (h : in62 n = true) : rangeV [.int n] = some ((List.range n.toNat).map fun i => .int (i : Nat)) := by
  show (if in62 n then some ((List.range n.toNat).map fun i => PV.int (i : Nat)) else none) = _
  rw [if_pos h]
theorem in62_of {n : Int} (h0 : 0 ≤ n) (h1 : n < 4000000000000000000) : in62 n = true := by
  unfold in62
  rw [decide_eq_true_eq]
  omega
theorem rangeN {n : Nat} (h : n ≤ 1000000) : rangeV [.int (n : Nat)] = some ((List.range n).map fun i => .int (i : Nat)) := range1 (in62_of (by omega) (by omega))
/-- a loop over numbers, while a list at the store's end grows and a purse is drawn from -/
theorem for_grow {α : Type} {body : PEnv → Store → Fl} (enc : α → PV) (J : Nat → List α → Prop) (F : PEnv → Prop) {v n : Nat} {env : PEnv} {S : Store} {p : Nat} {a b c : Int} (h0 : J 0 []) (hF : F env)
    (hs : ∀ (j : Nat) l env a b c, j < n → J j l → F env → ∃ env2 l' a' b' c', body (env.set v (some (.int (j : Nat)))) (put (S ++ [.lst (l.map enc)]) p a b c) = .nx env2 (put (S ++ [.lst (l'.map enc)]) p a' b' c') ∧ F env2 ∧ J (j + 1) l') :
    ∃ env2 l' a' b' c', forL (.v v) body .non .non ((List.range n).map fun i => .int (i : Nat)) env (put (S ++ [.lst []]) p a b c) = .nx env2 (put (S ++ [.lst (l'.map enc)]) p a' b' c') ∧ F env2 ∧ J n l' := by
  obtain ⟨env2, S2, ef, l', a', b', c', hF2, rfl, hJ⟩ := for_all (p := .v v) (body := body) (gv := .non) (g0 := .non) (xs := (List.range n).map fun i => .int (i : Nat)) (env := env) (S := put (S ++ [.lst []]) p a b c)
    (I := fun j env S' => ∃ l a b c, F env ∧ S' = put (S ++ [.lst (l.map enc)]) p a b c ∧ J j l) ⟨[], a, b, c, hF, rfl, h0⟩ (fun _ _ _ _ => rfl) fun j x env S' hx ⟨l, a, b, c, hF, e, hJ⟩ => by
      subst e
      rw [List.getElem?_map] at hx
      have hj : j < n := by
        by_cases h : j < n
        · exact h
        · rw [List.getElem?_eq_none (by rw [List.length_range]; omega)] at hx; cases hx
      rw [List.getElem?_range hj] at hx
      obtain rfl : PV.int (j : Nat) = x := Option.some.inj hx
      obtain ⟨env2, l', a', b', c', e, hF2, hJ2⟩ := hs j l env a b c hj hJ hF
      exact ⟨_, rfl, env2, _, e, l', a', b', c', hF2, rfl, hJ2⟩
  rw [List.length_map, List.length_range] at hJ
  exact ⟨env2, l', a', b', c', ef, hF2, hJ⟩
theorem pick {α : Type} {f : α → PV} {P : α → Prop} : ∀ {ys : List PV}, (∀ y, y ∈ ys → ∃ a, y = f a ∧ P a) → ∃ l : List α, ys = l.map f ∧ ∀ a, a ∈ l → P a
  | [], _ => ⟨[], rfl, fun _ h => (by cases h)⟩
  | y :: ys, h => by
    obtain ⟨a, rfl, ha⟩ := h y (List.mem_cons_self ..)
    obtain ⟨l, rfl, hl⟩ := pick fun z hz => h z (List.mem_cons_of_mem _ hz)
    refine ⟨a :: l, rfl, fun b hb => ?_⟩
    rcases List.mem_cons.mp hb with rfl | hb
    · exact ha
    · exact hl b hb
/-! ### texts put together -/
theorem strsP_map : ∀ ws : List Str, strsP (ws.map .str) = some ws
  | [] => rfl
  | w :: ws => by
    show (strsP (ws.map .str)).map (w :: ·) = _
    rw [strsP_map ws]; rfl
theorem strsP_nil : strsP [] = some [] := Eq.trans rfl rfl
theorem strsP_cons (w : Str) (l : List PV) : strsP (.str w :: l) = (strsP l).map (w :: ·) := Eq.trans rfl rfl
theorem empty_app (x : Str) : Str.empty ++ x = x := by
  show Str.mk (#[] ++ x.cps) = x
  rw [Array.empty_append]
theorem join_eq (a : Str) (ys : List Str) : Txt.join a ys = Str.join a ys := StrLaws.glued_eq_join a ys
theorem join_le (a : Str) (m : Nat) : ∀ {ys : List Str}, (∀ y, y ∈ ys → y.length ≤ m) → (Str.join a ys).length ≤ ys.length * (m + a.length)
  | [], _ => Nat.zero_le _
  | [y], h => by
    show y.length ≤ 1 * (m + a.length)
    have := h y (List.mem_cons_self ..)
    omega
  | y :: z :: ys, h => by
    have h1 := h y (List.mem_cons_self ..)
    have h2 := join_le a m (ys := z :: ys) fun x hx => h x (List.mem_cons_of_mem _ hx)
    show (y ++ a ++ Str.join a (z :: ys)).length ≤ _
    rw [strLen_append, strLen_append, List.length_cons, Nat.succ_mul]
    omega
theorem sum_le {m : Nat} : ∀ {ys : List Str}, (∀ y, y ∈ ys → y.length ≤ m) → (ys.map fun y : Str => y.length).sum ≤ ys.length * m
  | [], _ => Nat.zero_le _
  | y :: ys, h => by
    have h1 := h y (List.mem_cons_self ..)
    have h2 := sum_le (ys := ys) fun x hx => h x (List.mem_cons_of_mem _ hx)
    rw [List.map_cons, List.sum_cons, List.length_cons, Nat.succ_mul]
    omega
theorem joinR {a : Str} {ys : List Str} {m n : Nat} (h1 : ∀ y, y ∈ ys → y.length ≤ m) (h2 : ys.length ≤ n) (h3 : n * (m + a.length) ≤ 16777216) :
    (∀ S, bmtV S .join (.str a) [.lst (ys.map .str)] = some (.str (Txt.join a ys))) ∧ (∀ S, bmtV S .join (.str a) [.tup (ys.map .str)] = some (.str (Txt.join a ys))) ∧ (Txt.join a ys).length ≤ n * (m + a.length) := by
  have h4 := sum_le h1
  have h5 : ys.length * (m + a.length) ≤ n * (m + a.length) := Nat.mul_le_mul_right _ h2
  have h6 : (ys.map fun y : Str => y.length).sum + ys.length * a.length ≤ sizeLine := size_of (by
    rw [Nat.mul_add] at h5
    omega)
  refine ⟨fun S => ?_, fun S => ?_, ?_⟩
  · show (match strsP (ys.map .str) with
      | some ys => if (ys.map fun y : Str => y.length).sum + ys.length * a.length ≤ sizeLine then some (PV.str (Txt.join a ys)) else none
      | none => none) = _
    rw [strsP_map]
    exact if_pos h6
  · show (match strsP (ys.map .str) with
      | some ys => if (ys.map fun y : Str => y.length).sum + ys.length * a.length ≤ sizeLine then some (PV.str (Txt.join a ys)) else none
      | none => none) = _
    rw [strsP_map]
    exact if_pos h6
  · rw [join_eq]
    exact Nat.le_trans (join_le a m h1) h5
theorem kindR (S : Store) : (∀ x, kindB S (.str x) = some 0) ∧ (∀ x, kindB S (.tup x) = some 2) ∧ (∀ x, kindB S (.lst x) = some 1) := ⟨fun _ => rfl, fun _ => rfl, fun _ => rfl⟩
theorem bmtKR : bmtK .join (some 0) = true ∧ bmtK .split (some 0) = true ∧ bmtK .index (some 1) = true ∧ bmtK .index (some 2) = true := ⟨rfl, rfl, rfl, rfl⟩
theorem partS {z : Str} (h : z.length ≤ 16777216) : strPart (.str z) = some z := by
  show (if z.length ≤ sizeLine then some z else none) = _
  exact if_pos (size_of h)
end RF
/-! Gk: what is shown is a text. -/
namespace RF
open PySem
def okT (x : Str) : Prop := ∀ c, c ∈ x.cps.toList → c < 0x110000
theorem okT_iff {x : Str} : PyData.strOk x = true ↔ okT x := by
  show x.cps.all (fun c => decide (c < 0x110000)) = true ↔ _
  rw [Array.all_eq_true_iff_forall_mem]
  exact ⟨fun h c hc => of_decide_eq_true (h c (Array.mem_toList_iff.mp hc)), fun h c hc => decide_eq_true (h c (Array.mem_toList_iff.mpr hc))⟩
theorem okT_app {a b : Str} (ha : okT a) (hb : okT b) : okT (a ++ b) := fun c hc => by
  have e : (a ++ b).cps.toList = a.cps.toList ++ b.cps.toList := Array.toList_append ..
  rw [e] at hc
  rcases List.mem_append.mp hc with hc | hc
  · exact ha c hc
  · exact hb c hc
theorem chr_lt (c : Char) : c.toNat < 0x110000 := by
  have := c.valid
  show c.val.toNat < _
  rcases this with h | ⟨_, h⟩
  · exact Nat.lt_trans h (by decide)
  · exact h
theorem okT_of (s : String) : okT (Str.ofString s) := fun c hc => by
  have e : (Str.ofString s).cps.toList = s.toList.map Char.toNat := by
    rw [Str.ofString_eq_toList]
  rw [e] at hc
  obtain ⟨d, _, rfl⟩ := List.mem_map.mp hc
  exact chr_lt d
theorem okT_empty : okT Str.empty := fun c hc => by cases hc
theorem okT_join {a : Str} (ha : okT a) : ∀ {ys : List Str}, (∀ y, y ∈ ys → okT y) → okT (Str.join a ys)
  | [], _ => okT_empty
  | [y], h => h y (List.mem_cons_self ..)
  | y :: z :: ys, h => okT_app (okT_app (h y (List.mem_cons_self ..)) ha) (okT_join ha (ys := z :: ys) fun x hx => h x (List.mem_cons_of_mem _ hx))
theorem okT_joinT {a : Str} (ha : okT a) {ys : List Str} (h : ∀ y, y ∈ ys → okT y) : okT (Txt.join a ys) := by
  rw [join_eq]; exact okT_join ha h
theorem hex_lt (n : Nat) (w : Nat) : ∀ c, c ∈ List.replicate (w - ((Nat.toDigits 16 n).map Char.toNat).length) 48 ++ (Nat.toDigits 16 n).map Char.toNat → c < 0x110000 := fun c hc => by
  rcases List.mem_append.mp hc with hc | hc
  · rw [(List.mem_replicate.mp hc).2]; decide
  · obtain ⟨d, _, rfl⟩ := List.mem_map.mp hc
    exact chr_lt d
theorem chr_ok {q c : Nat} (hc : c < 0x110000) : ∀ x, x ∈ Builtin.Str.reprChar q c → x < 0x110000 := fun x hx => by
  have two : ∀ {a b : Nat}, a < 0x110000 → b < 0x110000 → x ∈ [a, b] → x < 0x110000 := fun ha hb h => by
    rcases List.mem_cons.mp h with rfl | h
    · exact ha
    · rw [List.mem_singleton.mp h]; exact hb
  unfold Builtin.Str.reprChar at hx
  dsimp only at hx
  split at hx
  · exact two (by decide) hc hx
  · split at hx
    · exact two (by decide) (by decide) hx
    · split at hx
      · exact two (by decide) (by decide) hx
      · split at hx
        · exact two (by decide) (by decide) hx
        · split at hx
          · rw [List.mem_singleton.mp hx]; exact hc
          · split at hx
            · rcases List.mem_append.mp hx with hx | hx
              · exact two (by decide) (by decide) hx
              · exact hex_lt _ _ x hx
            · split at hx
              · rcases List.mem_append.mp hx with hx | hx
                · exact two (by decide) (by decide) hx
                · exact hex_lt _ _ x hx
              · rcases List.mem_append.mp hx with hx | hx
                · exact two (by decide) (by decide) hx
                · exact hex_lt _ _ x hx
theorem fold_ok (q : Nat) : ∀ (l : List Nat) (acc : Array Nat), (∀ c, c ∈ l → c < 0x110000) → (∀ c, c ∈ acc.toList → c < 0x110000) → ∀ c, c ∈ (l.foldl (fun out c => out ++ (Builtin.Str.reprChar q c).toArray) acc).toList → c < 0x110000
  | [], _, _, h, c, hc => h c hc
  | x :: l, acc, hl, h, c, hc => by
    rw [List.foldl_cons] at hc
    refine fold_ok q l _ (fun c hc => hl c (List.mem_cons_of_mem _ hc)) (fun c hc => ?_) c hc
    rw [Array.toList_append] at hc
    rcases List.mem_append.mp hc with hc | hc
    · exact h c hc
    · exact chr_ok (hl x (List.mem_cons_self ..)) c hc
theorem okT_repr {x : Str} (h : okT x) : okT (reprText x) := fun c hc => by
  unfold reprText at hc
  have hq : reprQuote x < 0x110000 := by unfold reprQuote; split <;> decide
  rw [Array.toList_push, ← Array.foldl_toList] at hc
  rcases List.mem_append.mp hc with hc | hc
  · exact fold_ok _ _ _ h (fun c hc => by rw [List.mem_singleton.mp hc]; exact hq) c hc
  · rw [List.mem_singleton.mp hc]; exact hq
theorem okT_from : ∀ (ts : List Str) (k : Nat) (acc : Str), okT acc → (∀ t, t ∈ ts → okT t) → okT (textFrom k acc ts)
  | [], _, _, h, _ => h
  | t :: ts, k, acc, h, ht => by
    show okT (textFrom (k + 1) (acc ++ (if k > 0 then ", " else "" : String) ++ t) ts)
    exact okT_from ts _ _ (okT_app (okT_app h (okT_of _)) (ht t (List.mem_cons_self ..))) fun x hx => ht x (List.mem_cons_of_mem _ hx)
mutual
theorem okT_shown : ∀ d : PyData, d.canLay0 = true → okT d.shown
  | .none, _ => okT_of _
  | .bool b, _ => by cases b <;> exact okT_of _
  | .int i, _ => okT_of _
  | .str x, h => okT_repr (okT_iff.mp h)
  | .list xs, h => okT_app (okT_from _ _ _ (okT_of _) (okT_shownAll xs h)) (okT_of _)
  | .tuple xs, h => okT_app (okT_app (okT_of _) (okT_join (okT_of _) (okT_shownAll xs h))) (okT_of _)
  | .dict _, h => by cases h
theorem okT_shownAll : ∀ ds : List PyData, PyData.canLayAll0 ds = true → ∀ t, t ∈ PyData.shownAll ds → okT t
  | [], _, _, h => by cases h
  | d :: ds, hd, t, h => by
    have hd : (PyData.canLay0 d && PyData.canLayAll0 ds) = true := hd
    rw [Bool.and_eq_true] at hd
    have h : t ∈ PyData.shown d :: PyData.shownAll ds := h
    rcases List.mem_cons.mp h with rfl | h
    · exact okT_shown d hd.1
    · exact okT_shownAll ds hd.2 t h
end
theorem strOk_shown {d : PyData} (h : d.canLay0 = true) : PyData.strOk d.shown = true := okT_iff.mpr (okT_shown d h)
theorem Enc.shown_ok {α : Type} [DecidableEq α] (E : Enc α) {a : α} (h : E.good a) : PyData.strOk (E.pd a).shown = true := strOk_shown (E.lay a h)
end RF
/-! Gl: texts cut into parts. -/
namespace RF
open PySem
theorem split_join {c : Nat} {ys : List Str} (hne : ys ≠ []) (hc : c < 256) (h : ∀ y, y ∈ ys → c ∉ y.cps.toList) : Txt.split (Txt.join ⟨#[c]⟩ ys) ⟨#[c]⟩ = ys := by
  refine TL.map_tl_inj ?_
  have hk : (⟨#[c]⟩ : Str).cps.all (· < 256) = true := by simpa using hc
  rw [TL.split_spl _ _ (by simp [TL.tl]) (TL.kind_ok hk), TL.join_eq, TL.tl_join]
  refine TL.spl_join (s := c) (S := []) (by simpa using hne) fun p hp => ?_
  obtain ⟨y, hy, rfl⟩ := List.mem_map.mp hp
  exact h y hy
theorem app_list (a b : Str) : (a ++ b).cps.toList = a.cps.toList ++ b.cps.toList := Array.toList_append ..
theorem join_mem (a : Str) : ∀ {ys : List Str} {y : Str}, y ∈ ys → y.length ≤ (Str.join a ys).length ∧ ∀ c, c ∈ y.cps.toList → c ∈ (Str.join a ys).cps.toList
  | [x], y, h => by
    rw [List.mem_singleton.mp h]
    exact ⟨Nat.le_refl _, fun _ h => h⟩
  | x :: z :: ys, y, h => by
    show y.length ≤ (x ++ a ++ Str.join a (z :: ys)).length ∧ ∀ c, c ∈ y.cps.toList → c ∈ (x ++ a ++ Str.join a (z :: ys)).cps.toList
    rw [strLen_append, strLen_append, app_list, app_list]
    rcases List.mem_cons.mp h with rfl | h
    · exact ⟨by omega, fun c hc => List.mem_append_left _ (List.mem_append_left _ hc)⟩
    · obtain ⟨h1, h2⟩ := join_mem a h
      exact ⟨by omega, fun c hc => List.mem_append_right _ (h2 c hc)⟩
/-- the parts of a text are short, and texts -/
theorem split_mem {x a p : Str} (h : p ∈ Txt.split x a) : p.length ≤ x.length ∧ ∀ c, c ∈ p.cps.toList → c ∈ x.cps.toList := by
  have := join_mem a h
  rwa [StrLaws.join_split] at this
theorem splitR {S : Store} {x a : Str} (ha : (a.length == 0) = false) (hx : x.length ≤ 16000000) : bmtV S .split (.str x) [.str a] = some (.lst ((Txt.split x a).map .str)) := by
  show (if (a.length == 0) = false ∧ x.length + 2 ≤ sizeLine then some (PV.lst ((Txt.split x a).map .str)) else none) = _
  exact if_pos ⟨ha, size_of (by omega)⟩
end RF
set_option maxRecDepth 1000000
set_option maxHeartbeats 0
namespace RF.K
open PySem RF
abbrev f_str : Nat := 0
abbrev f_columns : Nat := 1
abbrev f_test : Nat := 2
abbrev f_pairs : Nat := 3
abbrev f_table : Nat := 4
abbrev f_per : Nat := 5
abbrev f_count : Nat := 6
abbrev f_start : Nat := 7
abbrev f_eq : Nat := 8
abbrev f_given : Nat := 9
abbrev f_index : Nat := 10
abbrev k_Keep : Nat := 0
abbrev k_Join : Nat := 1
abbrev k_Sort : Nat := 2
abbrev k_Cut : Nat := 3
abbrev e_WrongValue : Nat := 0
abbrev e_InvalidName : Nat := 1
abbrev e_InvalidColumns : Nat := 2
abbrev e_InvalidPairs : Nat := 3
abbrev e_InvalidStart : Nat := 4
abbrev e_InvalidCount : Nat := 5
abbrev i_law : Nat := 0
abbrev i_Keep_init : Nat := 1
abbrev i_is_name : Nat := 2
abbrev i_is_full : Nat := 3
abbrev i_Join_init : Nat := 4
abbrev i_is_pair : Nat := 5
abbrev i_Sort_init : Nat := 6
abbrev i_bare_column : Nat := 7
abbrev i_Cut_init : Nat := 8
abbrev i_is_digit : Nat := 9
abbrev i_is_integer : Nat := 10
abbrev i_law_right : Nat := 11
abbrev i_law_step : Nat := 12
abbrev i_law_take : Nat := 13
abbrev i_law_name : Nat := 14
abbrev i_law_fulls : Nat := 15
abbrev i_law_full : Nat := 16
abbrev i_law_bent : Nat := 17
abbrev i_law_act : Nat := 18
abbrev i_law_parts : Nat := 19
abbrev i_law_row : Nat := 20
abbrev i_law_purse : Nat := 21
abbrev i_law_cell : Nat := 22
abbrev i_Keep_str : Nat := 23
abbrev i_Join_str : Nat := 24
abbrev i_Sort_str : Nat := 25
abbrev i_Cut_str : Nat := 26
abbrev i_Keep_eq : Nat := 27
abbrev i_Join_eq : Nat := 28
abbrev i_Sort_eq : Nat := 29
abbrev i_Cut_eq : Nat := 30
/-- law: 0=script 1=some 2=due 3=each 4=k -/
def x_law_0 : IR := (.call i_law_right (.cons (.call i_law_purse (.cons (.call i_law_cell (.cons (.var 0) (.cons (.var 4) .nil)) .nil [.inl 0, .inl 1]) .nil) .nil [.inl 0]) .nil) .nil [.inl 0])
def x_law_1 : IR := (.ostr f_str (.var 3))
def b_law : IS := (.seq (.set (.v 1) (.lst (.cons (.new k_Keep (.cons (.k (.str "t")) (.cons (.tup (.cons (.k (.str "a.b")) (.cons (.k (.str "a.b")) .nil))) .nil)) .nil [.inl 0, .inl 1, .inl 2]) (.cons (.new k_Join (.cons (.k (.str "b")) (.cons (.tup (.cons (.tup (.cons (.k (.str "a.x")) (.cons (.k (.str "b.y")) .nil))) (.cons (.tup (.cons (.k (.str "c.x")) (.cons (.k (.str "b.y")) .nil))) .nil))) .nil)) .nil [.inl 0, .inl 1, .inl 2]) (.cons (.new k_Sort (.cons (.tup (.cons (.k (.str "-a.b")) (.cons (.k (.str "b.a")) .nil))) .nil) .nil [.inl 0, .inl 1]) .nil))))) (.seq (.set (.v 1) (.bin .add (.var 1) (.lst (.cons (.new k_Cut (.cons (.k (.int 0)) .nil) .nil [.inl 0, .inl 1, .inr .non, .inr (.tup [])]) (.cons (.new k_Cut (.cons (.k (.int 9)) (.cons (.k (.int 0)) .nil)) .nil [.inl 0, .inl 1, .inl 2, .inr (.tup [])]) (.cons (.new k_Cut (.cons (.k (.int 2)) .nil) (.cons (.tup (.cons (.k (.str "a.b")) (.cons (.k (.str "a.c")) .nil))) .nil) [.inl 0, .inl 1, .inr .non, .inl 2]) (.cons (.new k_Cut (.cons (.k (.int 1)) (.cons (.k (.int 9)) (.cons (.tup (.cons (.k (.str "a.b")) .nil)) .nil))) .nil [.inl 0, .inl 1, .inl 2, .inl 3]) .nil))))))) (.seq (.set (.v 2) (.lst (.cons (.k (.str "keep t: a.b a.b")) (.cons (.k (.str "join b: a.x b.y, c.x b.y")) (.cons (.k (.str "sort -a.b b.a")) (.cons (.k (.str "cut 0 all")) (.cons (.k (.str "cut 9 0")) .nil))))))) (.seq (.ite (.cmp .ne (.comp [3] (.v 3) (.itV (.var 1)) x_law_1 IR.yes) (.bin .add (.var 2) (.lst (.cons (.k (.str "cut 2 all per a.b a.c")) (.cons (.k (.str "cut 1 9 per a.b")) .nil))))) (.seq (.ret (.k (.bl false))) .skip) .skip) (.seq (.ret (.bfn .all (.cons (.comp [4] (.v 4) (.itR1 (.bfn .max (.cons (.k (.int 3)) (.cons (.bfn .min (.cons (.bfn .len (.cons (.var 0) .nil)) (.cons (.k (.int 10)) .nil))) .nil)))) x_law_0 IR.yes) .nil))) .skip)))))
def fi_law : FnI := ⟨1, 5, b_law, true⟩
/-- Keep.__init__: 0=self 1=test 2=columns 3=index 4=column -/
def x_Keep_init_0 : IS := (.seq (.ite (.or (.cmp .eq (.var 3) (.k (.int 4))) (.not (.call i_is_full (.cons (.var 4) .nil) .nil [.inl 0]))) (.seq (.raise e_InvalidColumns (.cons (.var 3) .nil)) .skip) .skip) .skip)
def b_Keep_init : IS := (.seq (.ite (.not (.call i_is_name (.cons (.var 1) .nil) .nil [.inl 0])) (.seq (.raise e_InvalidName (.cons (.var 1) .nil)) .skip) .skip) (.seq (.ite (.or (.not (.isI (.var 2) .tuple)) (.cmp .eq (.bfn .len (.cons (.var 2) .nil)) (.k (.int 0)))) (.seq (.raise e_InvalidColumns (.cons (.k .non) .nil)) .skip) .skip) (.seq (.for (.cons (.v 3) (.cons (.v 4) .nil)) (.itEnum (.var 2)) x_Keep_init_0) (.seq (.setAttr (.var 0) f_test (.var 1)) (.seq (.setAttr (.var 0) f_columns (.var 2)) .skip)))))
def fi_Keep_init : FnI := ⟨3, 5, b_Keep_init, true⟩
/-- is_name: 0=value 1=sign -/
def x_is_name_0 : IR := (.cmp .inn (.var 1) (.k (.str "abcdefghijklmnopqrstuvwxyz0123456789")))
def b_is_name : IS := (.seq (.ite (.or (.not (.isI (.var 0) .str)) (.or (.not (.chain .le .le (.k (.int 1)) (.bfn .len (.cons (.var 0) .nil)) (.k (.int 8)))) (.cmp .nin (.idx (.var 0) (.k (.int 0))) (.k (.str "abcdefghijklmnopqrstuvwxyz"))))) (.seq (.ret (.k (.bl false))) .skip) .skip) (.seq (.ret (.bfn .all (.cons (.comp [1] (.v 1) (.itV (.var 0)) x_is_name_0 IR.yes) .nil))) .skip))
def fi_is_name : FnI := ⟨1, 2, b_is_name, true⟩
/-- is_full: 0=value 1=words -/
def b_is_full : IS := (.seq (.ite (.not (.isI (.var 0) .str)) (.seq (.ret (.k (.bl false))) .skip) .skip) (.seq (.set (.v 1) (.bmt .split (.var 0) (.cons (.k (.str ".")) .nil))) (.seq (.ret (.and (.cmp .eq (.bfn .len (.cons (.var 1) .nil)) (.k (.int 2))) (.and (.call i_is_name (.cons (.idx (.var 1) (.k (.int 0))) .nil) .nil [.inl 0]) (.call i_is_name (.cons (.idx (.var 1) (.k (.int 1))) .nil) .nil [.inl 0])))) .skip)))
def fi_is_full : FnI := ⟨1, 2, b_is_full, true⟩
/-- Join.__init__: 0=self 1=table 2=pairs 3=index 4=pair -/
def x_Join_init_0 : IS := (.seq (.ite (.or (.cmp .eq (.var 3) (.k (.int 4))) (.or (.not (.call i_is_pair (.cons (.var 1) (.cons (.var 4) .nil)) .nil [.inl 0, .inl 1])) (.cmp .inn (.var 4) (.slc (.var 2) .nil (.var 3))))) (.seq (.raise e_InvalidPairs (.cons (.var 3) .nil)) .skip) .skip) .skip)
def b_Join_init : IS := (.seq (.ite (.not (.call i_is_name (.cons (.var 1) .nil) .nil [.inl 0])) (.seq (.raise e_InvalidName (.cons (.var 1) .nil)) .skip) .skip) (.seq (.ite (.or (.not (.isI (.var 2) .tuple)) (.cmp .eq (.bfn .len (.cons (.var 2) .nil)) (.k (.int 0)))) (.seq (.raise e_InvalidPairs (.cons (.k .non) .nil)) .skip) .skip) (.seq (.for (.cons (.v 3) (.cons (.v 4) .nil)) (.itEnum (.var 2)) x_Join_init_0) (.seq (.setAttr (.var 0) f_table (.var 1)) (.seq (.setAttr (.var 0) f_pairs (.var 2)) .skip)))))
def fi_Join_init : FnI := ⟨3, 5, b_Join_init, true⟩
/-- is_pair: 0=table 1=pair -/
def b_is_pair : IS := (.seq (.ite (.or (.not (.isI (.var 1) .tuple)) (.or (.cmp .ne (.bfn .len (.cons (.var 1) .nil)) (.k (.int 2))) (.or (.not (.call i_is_full (.cons (.idx (.var 1) (.k (.int 0))) .nil) .nil [.inl 0])) (.not (.call i_is_full (.cons (.idx (.var 1) (.k (.int 1))) .nil) .nil [.inl 0]))))) (.seq (.ret (.k (.bl false))) .skip) .skip) (.seq (.ret (.and (.cmp .ne (.idx (.bmt .split (.idx (.var 1) (.k (.int 0))) (.cons (.k (.str ".")) .nil)) (.k (.int 0))) (.var 0)) (.cmp .eq (.idx (.bmt .split (.idx (.var 1) (.k (.int 1))) (.cons (.k (.str ".")) .nil)) (.k (.int 0))) (.var 0)))) .skip))
def fi_is_pair : FnI := ⟨2, 2, b_is_pair, true⟩
/-- Sort.__init__: 0=self 1=columns 2=index 3=text 4=mate -/
def x_Sort_init_0 : IR := (.call i_bare_column (.cons (.var 4) .nil) .nil [.inl 0])
def x_Sort_init_1 : IS := (.seq (.ite (.or (.cmp .eq (.var 2) (.k (.int 20))) (.or (.not (.isI (.var 3) .str)) (.not (.call i_is_full (.cons (.call i_bare_column (.cons (.var 3) .nil) .nil [.inl 0]) .nil) .nil [.inl 0])))) (.seq (.raise e_InvalidColumns (.cons (.var 2) .nil)) .skip) .skip) (.seq (.ite (.cmp .inn (.call i_bare_column (.cons (.var 3) .nil) .nil [.inl 0]) (.comp [4] (.v 4) (.itV (.slc (.var 1) .nil (.var 2))) x_Sort_init_0 IR.yes)) (.seq (.raise e_InvalidColumns (.cons (.var 2) .nil)) .skip) .skip) .skip))
def b_Sort_init : IS := (.seq (.ite (.or (.not (.isI (.var 1) .tuple)) (.cmp .eq (.bfn .len (.cons (.var 1) .nil)) (.k (.int 0)))) (.seq (.raise e_InvalidColumns (.cons (.k .non) .nil)) .skip) .skip) (.seq (.for (.cons (.v 2) (.cons (.v 3) .nil)) (.itEnum (.var 1)) x_Sort_init_1) (.seq (.setAttr (.var 0) f_columns (.var 1)) .skip)))
def fi_Sort_init : FnI := ⟨2, 5, b_Sort_init, true⟩
/-- bare_column: 0=text -/
def b_bare_column : IS := (.seq (.ret (.ite (.cmp .eq (.slc (.var 0) .nil (.k (.int 1))) (.k (.str "-"))) (.slc (.var 0) (.k (.int 1)) .nil) (.var 0))) .skip)
def fi_bare_column : FnI := ⟨1, 1, b_bare_column, true⟩
/-- Cut.__init__: 0=self 1=start 2=count 3=per 4=index 5=column -/
def x_Cut_init_0 : IS := (.seq (.ite (.or (.cmp .eq (.var 4) (.k (.int 4))) (.or (.not (.call i_is_full (.cons (.var 5) .nil) .nil [.inl 0])) (.cmp .inn (.var 5) (.slc (.var 3) .nil (.var 4))))) (.seq (.raise e_InvalidColumns (.cons (.var 4) .nil)) .skip) .skip) .skip)
def b_Cut_init : IS := (.seq (.ite (.not (.call i_is_digit (.cons (.var 1) .nil) .nil [.inl 0])) (.seq (.raise e_InvalidStart (.cons (.var 1) .nil)) .skip) .skip) (.seq (.ite (.and (.cmp .isn (.var 2) (.k .non)) (.not (.call i_is_digit (.cons (.var 2) .nil) .nil [.inl 0]))) (.seq (.raise e_InvalidCount (.cons (.var 2) .nil)) .skip) .skip) (.seq (.ite (.not (.isI (.var 3) .tuple)) (.seq (.raise e_InvalidColumns (.cons (.k .non) .nil)) .skip) .skip) (.seq (.for (.cons (.v 4) (.cons (.v 5) .nil)) (.itEnum (.var 3)) x_Cut_init_0) (.seq (.setAttr (.var 0) f_start (.var 1)) (.seq (.setAttr (.var 0) f_count (.var 2)) (.seq (.setAttr (.var 0) f_per (.var 3)) .skip)))))))
def fi_Cut_init : FnI := ⟨4, 6, b_Cut_init, true⟩
/-- is_digit: 0=value -/
def b_is_digit : IS := (.seq (.ret (.and (.call i_is_integer (.cons (.var 0) .nil) .nil [.inl 0]) (.chain .le .le (.k (.int 0)) (.var 0) (.k (.int 9))))) .skip)
def fi_is_digit : FnI := ⟨1, 1, b_is_digit, true⟩
/-- is_integer: 0=value -/
def b_is_integer : IS := (.seq (.ret (.and (.isI (.var 0) .int) (.not (.isI (.var 0) .bool)))) .skip)
def fi_is_integer : FnI := ⟨1, 1, b_is_integer, true⟩
/-- _law_right: 0=purse_here 1=acts 2=cols 3=mine 4=twin 5=turn 6=k 7=due 8=others 9=act_here 10=each -/
def x_law_right_0 : IR := (.ocmp true f_eq (.idx (.var 3) (.var 6)) (.var 10))
def x_law_right_1 : IR := (.ocmp false f_eq (.idx (.var 3) (.var 6)) (.var 10))
def x_law_right_2 : IR := (.cmp .eq (.idx (.var 1) (.var 6)) (.var 9))
def x_law_right_3 : IR := (.cmp .ne (.idx (.var 1) (.var 6)) (.var 9))
def x_law_right_4 : IS := (.seq (.ite (.or (.cmp .ne (.call i_law_parts (.cons (.idx (.var 1) (.var 6)) (.cons (.idx (.var 3) (.var 6)) .nil)) .nil [.inl 0, .inl 1]) (.bfn .repr (.cons (.idx (.var 1) (.var 6)) .nil))) (.cmp .ne (.ostr f_str (.idx (.var 3) (.var 6))) (.call i_law_row (.cons (.idx (.var 1) (.var 6)) .nil) .nil [.inl 0]))) (.seq (.ret (.k (.bl false))) .skip) .skip) (.seq (.par [7, 8] (.cons (.comp [9] (.v 9) (.itV (.var 1)) x_law_right_2 IR.yes) (.cons (.comp [9] (.v 9) (.itV (.var 1)) x_law_right_3 IR.yes) .nil))) (.seq (.ite (.cmp .ne (.bfn .repr (.cons (.comp [10] (.v 10) (.itV (.var 4)) x_law_right_1 IR.yes) .nil)) (.bfn .repr (.cons (.var 7) .nil))) (.seq (.ret (.k (.bl false))) .skip) .skip) (.seq (.ite (.cmp .ne (.bfn .repr (.cons (.comp [10] (.v 10) (.itV (.var 4)) x_law_right_0 IR.yes) .nil)) (.bfn .repr (.cons (.var 8) .nil))) (.seq (.ret (.k (.bl false))) .skip) .skip) (.seq (.ite (.cmp .ne (.bfn .repr (.cons (.lst (.cons (.ocmp false f_eq (.idx (.var 3) (.var 6)) (.idx (.var 1) (.var 6))) (.cons (.ocmp false f_eq (.idx (.var 3) (.var 6)) (.call i_law_row (.cons (.idx (.var 1) (.var 6)) .nil) .nil [.inl 0])) (.cons (.ocmp true f_eq (.idx (.var 3) (.var 6)) (.k (.int 0))) .nil)))) .nil)) (.k (.str "[False, False, True]"))) (.seq (.ret (.k (.bl false))) .skip) .skip) .skip)))))
def x_law_right_5 : IS := (.seq (.for (.v 6) (.itR1 (.bfn .len (.cons (.var 1) .nil))) x_law_right_4) .skip)
def x_law_right_6 : IR := (.call i_law_act (.cons (.var 0) (.cons (.var 9) .nil)) .nil [.inl 0, .inl 1])
def x_law_right_7 : IR := (.call i_law_act (.cons (.var 0) (.cons (.var 9) .nil)) .nil [.inl 0, .inl 1])
def x_law_right_8 : IR := (.call i_law_step (.cons (.var 0) .nil) .nil [.inl 0])
def b_law_right : IS := (.seq (.set (.v 1) (.compR [6] (.v 6) (.itR1 (.k (.int 4))) x_law_right_8 IR.yes)) (.seq (.expr (.mmt .append (.var 1) (.cons (.call i_law_bent (.cons (.var 0) (.cons (.idx (.var 1) (.call i_law_take (.cons (.var 0) (.cons (.k (.int 4)) .nil)) .nil [.inl 0, .inl 1])) .nil)) .nil [.inl 0, .inl 1]) .nil))) (.seq (.set (.v 2) (.bfn .tuple (.cons (.call i_law_fulls (.cons (.var 0) (.cons (.k (.int 2)) .nil)) .nil [.inl 0, .inl 1]) .nil))) (.seq (.set (.v 1) (.bin .add (.var 1) (.lst (.cons (.tup (.cons (.k (.str "keep")) (.cons (.k (.str "a")) (.cons (.var 2) .nil)))) (.cons (.tup (.cons (.k (.str "sort")) (.cons (.var 2) .nil))) (.cons (.tup (.cons (.k (.str "cut")) (.cons (.k (.int 0)) (.cons (.k .non) (.cons (.var 2) .nil))))) (.cons (.tup (.cons (.k (.str "cut")) (.cons (.k (.int 0)) (.cons (.k (.int 0)) (.cons (.var 2) .nil))))) .nil))))))) (.seq (.set (.cons (.v 3) (.cons (.v 4) .nil)) (.tup (.cons (.comp [9] (.v 9) (.itV (.var 1)) x_law_right_6 IR.yes) (.cons (.comp [9] (.v 9) (.itV (.var 1)) x_law_right_7 IR.yes) .nil)))) (.seq (.for (.v 5) (.itR1 (.k (.int 2))) x_law_right_5) (.seq (.ret (.k (.bl true))) .skip)))))))
def fi_law_right : FnI := ⟨1, 11, b_law_right, true⟩
/-- _law_step: 0=purse_here 1=way 2=size 3=tag 4=cols 5=other 6=links 7=k 8=old 9=new 10=low 11=last 12=word -/
def x_law_step_0 : IR := (.bin .add (.idx (.lst (.cons (.k (.str "")) (.cons (.k (.str "-")) .nil))) (.call i_law_take (.cons (.var 0) (.cons (.k (.int 2)) .nil)) .nil [.inl 0, .inl 1])) (.var 12))
def x_law_step_1 : IS := (.seq (.par [8, 9] (.cons (.call i_law_full (.cons (.var 0) .nil) .nil [.inl 0]) (.cons (.bin .add (.bin .add (.var 3) (.k (.str "."))) (.call i_law_name (.cons (.var 0) .nil) .nil [.inl 0])) .nil))) (.seq (.ite (.and (.cmp .ne (.var 6) (.lst .nil)) (.cmp .eq (.call i_law_take (.cons (.var 0) (.cons (.k (.int 3)) .nil)) .nil [.inl 0, .inl 1]) (.k (.int 0)))) (.seq (.set (.v 8) (.idx (.idx (.var 6) (.k (.int 0))) (.k (.int 0)))) .skip) .skip) (.seq (.ite (.and (.cmp .ne (.idx (.bmt .split (.var 8) (.cons (.k (.str ".")) .nil)) (.k (.int 0))) (.var 3)) (.cmp .nin (.tup (.cons (.var 8) (.cons (.var 9) .nil))) (.var 6))) (.seq (.expr (.mmt .append (.var 6) (.cons (.tup (.cons (.var 8) (.cons (.var 9) .nil))) .nil))) .skip) .skip) .skip)))
def x_law_step_2 : IR := (.call i_law_full (.cons (.var 0) .nil) .nil [.inl 0])
def b_law_step : IS := (.seq (.par [1, 2, 3] (.cons (.call i_law_take (.cons (.var 0) (.cons (.k (.int 4)) .nil)) .nil [.inl 0, .inl 1]) (.cons (.bin .add (.k (.int 1)) (.call i_law_take (.cons (.var 0) (.cons (.k (.int 4)) .nil)) .nil [.inl 0, .inl 1])) (.cons (.call i_law_name (.cons (.var 0) .nil) .nil [.inl 0]) .nil)))) (.seq (.ite (.cmp .eq (.var 1) (.k (.int 0))) (.seq (.set (.v 4) (.comp [7] (.v 7) (.itR1 (.var 2)) x_law_step_2 IR.yes)) (.seq (.ret (.tup (.cons (.k (.str "keep")) (.cons (.var 3) (.cons (.ite (.and (.cmp .lt (.var 2) (.k (.int 4))) (.cmp .eq (.call i_law_take (.cons (.var 0) (.cons (.k (.int 3)) .nil)) .nil [.inl 0, .inl 1]) (.k (.int 0)))) (.bfn .tuple (.cons (.bin .add (.var 4) (.slc (.var 4) .nil (.k (.int 1)))) .nil)) (.bfn .tuple (.cons (.var 4) .nil))) .nil))))) .skip)) .skip) (.seq (.ite (.cmp .eq (.var 1) (.k (.int 1))) (.seq (.par [5, 6] (.cons (.ite (.cmp .eq (.var 3) (.k (.str "a"))) (.k (.str "b")) (.k (.str "a"))) (.cons (.lstR .nil) .nil))) (.seq (.for (.v 7) (.itR1 (.var 2)) x_law_step_1) (.seq (.ret (.tup (.cons (.k (.str "join")) (.cons (.var 3) (.cons (.ite (.cmp .ne (.var 6) (.lst .nil)) (.bfn .tuple (.cons (.var 6) .nil)) (.tup (.cons (.tup (.cons (.bin .add (.var 5) (.k (.str ".x"))) (.cons (.bin .add (.var 3) (.k (.str ".y"))) .nil))) .nil))) .nil))))) .skip))) .skip) (.seq (.ite (.cmp .eq (.var 1) (.k (.int 2))) (.seq (.set (.v 4) (.call i_law_fulls (.cons (.var 0) (.cons (.idx (.lst (.cons (.k (.int 1)) (.cons (.k (.int 2)) (.cons (.var 2) (.cons (.k (.int 20)) .nil))))) (.call i_law_take (.cons (.var 0) (.cons (.k (.int 4)) .nil)) .nil [.inl 0, .inl 1])) .nil)) .nil [.inl 0, .inl 1])) (.seq (.ret (.tup (.cons (.k (.str "sort")) (.cons (.bfn .tuple (.cons (.comp [12] (.v 12) (.itV (.var 4)) x_law_step_0 IR.yes) .nil)) .nil)))) .skip)) .skip) (.seq (.par [10, 11] (.cons (.call i_law_take (.cons (.var 0) (.cons (.k (.int 10)) .nil)) .nil [.inl 0, .inl 1]) (.cons (.call i_law_take (.cons (.var 0) (.cons (.k (.int 14)) .nil)) .nil [.inl 0, .inl 1]) .nil))) (.seq (.ret (.tup (.cons (.k (.str "cut")) (.cons (.var 10) (.cons (.ite (.cmp .gt (.var 11) (.k (.int 9))) (.k .non) (.var 11)) (.cons (.bfn .tuple (.cons (.call i_law_fulls (.cons (.var 0) (.cons (.call i_law_take (.cons (.var 0) (.cons (.k (.int 5)) .nil)) .nil [.inl 0, .inl 1]) .nil)) .nil [.inl 0, .inl 1]) .nil)) .nil)))))) .skip))))))
def fi_law_step : FnI := ⟨1, 13, b_law_step, true⟩
/-- _law_take: 0=purse_here 1=many 2=mixed 3=wide 4=digit -/
def b_law_take : IS := (.seq (.setIdx (.var 0) (.k (.int 2)) (.bin .add (.idx (.var 0) (.k (.int 2))) (.k (.int 1)))) (.seq (.set (.v 2) (.bfn .int (.cons (.idx (.var 0) (.k (.int 0))) .nil))) (.seq (.set (.v 3) (.bin .add (.bin .mod (.bfn .int (.cons (.var 2) .nil)) (.k (.int 30011))) (.k (.int 20011)))) (.seq (.setIdx (.var 0) (.k (.int 0)) (.bin .mod (.bfn .int (.cons (.bin .add (.bin .mul (.bin .add (.var 2) (.bin .mul (.k (.int 31)) (.idx (.var 0) (.k (.int 2))))) (.var 3)) (.k (.int 15013))) .nil)) (.k (.int 2147483629)))) (.seq (.ite (.cmp .gt (.idx (.var 0) (.k (.int 1))) (.k (.int 0))) (.seq (.setT (.ix (.var 0) (.k (.int 1)) (.v 4 .nil)) (.bfn .divmod (.cons (.idx (.var 0) (.k (.int 1))) (.cons (.var 1) .nil)))) (.seq (.ret (.var 4)) .skip)) .skip) (.seq (.ret (.bin .mod (.bfn .int (.cons (.bin .fdiv (.idx (.var 0) (.k (.int 0))) (.k (.int 128))) .nil)) (.var 1))) .skip))))))
def fi_law_take : FnI := ⟨2, 5, b_law_take, true⟩
/-- _law_name: 0=purse_here 1=way 2=size 3=words 4=word 5=k -/
def x_law_name_0 : IS := (.seq (.set (.v 4) (.bin .add (.var 4) (.idx (.k (.str "abcdefghijklmnopqrstuvwxyz0123456789")) (.call i_law_take (.cons (.var 0) (.cons (.k (.int 36)) .nil)) .nil [.inl 0, .inl 1])))) .skip)
def b_law_name : IS := (.seq (.par [1, 2] (.cons (.call i_law_take (.cons (.var 0) (.cons (.k (.int 7)) .nil)) .nil [.inl 0, .inl 1]) (.cons (.call i_law_take (.cons (.var 0) (.cons (.k (.int 8)) .nil)) .nil [.inl 0, .inl 1]) .nil))) (.seq (.ite (.cmp .eq (.var 1) (.k (.int 0))) (.seq (.set (.v 3) (.lst (.cons (.k (.str "table")) (.cons (.k (.str "key")) (.cons (.k (.str "refer")) (.cons (.k (.str "from")) (.cons (.k (.str "keep")) (.cons (.k (.str "join")) (.cons (.k (.str "sort")) (.cons (.k (.str "cut")) (.cons (.k (.str "per")) (.cons (.k (.str "all")) (.cons (.k (.str "show")) .nil))))))))))))) (.seq (.ret (.idx (.var 3) (.call i_law_take (.cons (.var 0) (.cons (.k (.int 11)) .nil)) .nil [.inl 0, .inl 1]))) .skip)) .skip) (.seq (.set (.v 4) (.idx (.k (.str "abcdefghijklmnopqrstuvwxyz")) (.call i_law_take (.cons (.var 0) (.cons (.k (.int 26)) .nil)) .nil [.inl 0, .inl 1]))) (.seq (.for (.v 5) (.itR1 (.ite (.cmp .lt (.var 1) (.k (.int 4))) (.var 2) (.bin .fdiv (.var 2) (.k (.int 3))))) x_law_name_0) (.seq (.ret (.var 4)) .skip)))))
def fi_law_name : FnI := ⟨1, 6, b_law_name, true⟩
/-- _law_fulls: 0=purse_here 1=many 2=found 3=k 4=word 5=each 6=j -/
def x_law_fulls_0 : IR := (.bin .add (.k (.str "a.c")) (.ostr f_str (.var 6)))
def x_law_fulls_1 : IR := (.var 5)
def x_law_fulls_2 : IR := (.cmp .nin (.var 5) (.var 2))
def x_law_fulls_3 : IS := (.seq (.set (.v 4) (.call i_law_full (.cons (.var 0) .nil) .nil [.inl 0])) (.seq (.ite (.cmp .inn (.var 4) (.var 2)) (.seq (.set (.v 4) (.idx (.comp [5] (.v 5) (.itV (.comp [6] (.v 6) (.itR1 (.k (.int 21))) x_law_fulls_0 IR.yes)) x_law_fulls_1 x_law_fulls_2) (.k (.int 0)))) .skip) .skip) (.seq (.expr (.mmt .append (.var 2) (.cons (.var 4) .nil))) .skip)))
def b_law_fulls : IS := (.seq (.set (.v 2) (.lstR .nil)) (.seq (.for (.v 3) (.itR1 (.var 1)) x_law_fulls_3) (.seq (.ret (.var 2)) .skip)))
def fi_law_fulls : FnI := ⟨2, 7, b_law_fulls, true⟩
/-- _law_full: 0=purse_here -/
def b_law_full : IS := (.seq (.ret (.bin .add (.bin .add (.call i_law_name (.cons (.var 0) .nil) .nil [.inl 0]) (.k (.str "."))) (.call i_law_name (.cons (.var 0) .nil) .nil [.inl 0]))) .skip)
def fi_law_full : FnI := ⟨1, 1, b_law_full, true⟩
/-- _law_bent: 0=purse_here 1=act_here 2=way 3=word 4=rows 5=lead 6=other 7=tag -/
def b_law_bent : IS := (.seq (.par [2, 3] (.cons (.call i_law_take (.cons (.var 0) (.cons (.k (.int 3)) .nil)) .nil [.inl 0, .inl 1]) (.cons (.idx (.var 1) (.k (.int 0))) .nil))) (.seq (.ite (.cmp .eq (.var 3) (.k (.str "cut"))) (.seq (.set (.v 4) (.lst (.cons (.tup (.cons (.k (.str "cut")) (.cons (.idx (.var 1) (.k (.int 1))) (.cons (.ite (.cmp .is (.idx (.var 1) (.k (.int 2))) (.k .non)) (.k (.int 9)) (.k .non)) (.cons (.idx (.var 1) (.k (.int 3))) .nil))))) (.cons (.tup (.cons (.k (.str "cut")) (.cons (.bin .sub (.k (.int 9)) (.idx (.var 1) (.k (.int 1)))) (.cons (.idx (.var 1) (.k (.int 2))) (.cons (.idx (.var 1) (.k (.int 3))) .nil))))) .nil)))) (.seq (.ret (.idx (.bin .add (.var 4) (.lst (.cons (.tup (.cons (.k (.str "cut")) (.cons (.idx (.var 1) (.k (.int 1))) (.cons (.idx (.var 1) (.k (.int 2))) (.cons (.rev (.idx (.var 1) (.k (.int 3)))) .nil))))) .nil))) (.var 2))) .skip)) .skip) (.seq (.ite (.cmp .eq (.var 3) (.k (.str "sort"))) (.seq (.set (.v 5) (.idx (.idx (.var 1) (.k (.int 1))) (.k (.int 0)))) (.seq (.set (.v 6) (.ite (.cmp .eq (.slc (.var 5) .nil (.k (.int 1))) (.k (.str "-"))) (.slc (.var 5) (.k (.int 1)) .nil) (.bin .add (.k (.str "-")) (.var 5)))) (.seq (.ret (.tup (.cons (.k (.str "sort")) (.cons (.idx (.lst (.cons (.bin .add (.tup (.cons (.var 6) .nil)) (.slc (.idx (.var 1) (.k (.int 1))) (.k (.int 1)) .nil)) (.cons (.rev (.idx (.var 1) (.k (.int 1)))) (.cons (.slc (.idx (.var 1) (.k (.int 1))) .nil (.k (.int 1))) .nil)))) (.var 2)) .nil)))) .skip))) .skip) (.seq (.set (.v 7) (.ite (.and (.cmp .eq (.var 3) (.k (.str "keep"))) (.cmp .eq (.var 2) (.k (.int 2)))) (.call i_law_name (.cons (.var 0) .nil) .nil [.inl 0]) (.idx (.var 1) (.k (.int 1))))) (.seq (.ret (.tup (.cons (.var 3) (.cons (.var 7) (.cons (.idx (.lst (.cons (.rev (.idx (.var 1) (.k (.int 2)))) (.cons (.slc (.idx (.var 1) (.k (.int 2))) .nil (.k (.int 1))) (.cons (.idx (.var 1) (.k (.int 2))) .nil)))) (.var 2)) .nil))))) .skip)))))
def fi_law_bent : FnI := ⟨2, 8, b_law_bent, true⟩
/-- _law_act: 0=purse_here 1=act_here 2=way 3=word -/
def b_law_act : IS := (.seq (.par [2, 3] (.cons (.call i_law_take (.cons (.var 0) (.cons (.k (.int 3)) .nil)) .nil [.inl 0, .inl 1]) (.cons (.idx (.var 1) (.k (.int 0))) .nil))) (.seq (.ite (.cmp .eq (.var 3) (.k (.str "keep"))) (.seq (.ret (.ite (.cmp .gt (.var 2) (.k (.int 0))) (.new k_Keep (.cons (.idx (.var 1) (.k (.int 1))) (.cons (.idx (.var 1) (.k (.int 2))) .nil)) .nil [.inl 0, .inl 1, .inl 2]) (.new k_Keep .nil (.cons (.idx (.var 1) (.k (.int 2))) (.cons (.idx (.var 1) (.k (.int 1))) .nil)) [.inl 0, .inl 2, .inl 1]))) .skip) .skip) (.seq (.ite (.cmp .eq (.var 3) (.k (.str "join"))) (.seq (.ret (.ite (.cmp .gt (.var 2) (.k (.int 0))) (.new k_Join (.cons (.idx (.var 1) (.k (.int 1))) (.cons (.idx (.var 1) (.k (.int 2))) .nil)) .nil [.inl 0, .inl 1, .inl 2]) (.new k_Join .nil (.cons (.idx (.var 1) (.k (.int 2))) (.cons (.idx (.var 1) (.k (.int 1))) .nil)) [.inl 0, .inl 2, .inl 1]))) .skip) .skip) (.seq (.ite (.cmp .eq (.var 3) (.k (.str "sort"))) (.seq (.ret (.ite (.cmp .gt (.var 2) (.k (.int 0))) (.new k_Sort (.cons (.idx (.var 1) (.k (.int 1))) .nil) .nil [.inl 0, .inl 1]) (.new k_Sort .nil (.cons (.idx (.var 1) (.k (.int 1))) .nil) [.inl 0, .inl 1]))) .skip) .skip) (.seq (.ite (.cmp .eq (.var 2) (.k (.int 0))) (.seq (.ret (.new k_Cut .nil (.cons (.idx (.var 1) (.k (.int 3))) (.cons (.idx (.var 1) (.k (.int 1))) (.cons (.idx (.var 1) (.k (.int 2))) .nil))) [.inl 0, .inl 2, .inl 3, .inl 1])) .skip) .skip) (.seq (.ite (.and (.cmp .eq (.var 2) (.k (.int 1))) (.cmp .eq (.idx (.var 1) (.k (.int 3))) (.tup .nil))) (.seq (.ret (.ite (.cmp .is (.idx (.var 1) (.k (.int 2))) (.k .non)) (.new k_Cut (.cons (.idx (.var 1) (.k (.int 1))) .nil) .nil [.inl 0, .inl 1, .inr .non, .inr (.tup [])]) (.new k_Cut (.cons (.idx (.var 1) (.k (.int 1))) (.cons (.idx (.var 1) (.k (.int 2))) .nil)) .nil [.inl 0, .inl 1, .inl 2, .inr (.tup [])]))) .skip) .skip) (.seq (.ret (.ite (.and (.cmp .eq (.var 2) (.k (.int 1))) (.cmp .is (.idx (.var 1) (.k (.int 2))) (.k .non))) (.new k_Cut (.cons (.idx (.var 1) (.k (.int 1))) .nil) (.cons (.idx (.var 1) (.k (.int 3))) .nil) [.inl 0, .inl 1, .inr .non, .inl 2]) (.new k_Cut (.cons (.idx (.var 1) (.k (.int 1))) (.cons (.idx (.var 1) (.k (.int 2))) (.cons (.idx (.var 1) (.k (.int 3))) .nil))) .nil [.inl 0, .inl 1, .inl 2, .inl 3]))) .skip)))))))
def fi_law_act : FnI := ⟨2, 4, b_law_act, true⟩
/-- _law_parts: 0=act_here 1=mine -/
def b_law_parts : IS := (.seq (.ite (.cmp .eq (.idx (.var 0) (.k (.int 0))) (.k (.str "keep"))) (.seq (.ret (.bfn .repr (.cons (.tup (.cons (.k (.str "keep")) (.cons (.attr (.var 1) f_test) (.cons (.attr (.var 1) f_columns) .nil)))) .nil))) .skip) .skip) (.seq (.ite (.cmp .eq (.idx (.var 0) (.k (.int 0))) (.k (.str "join"))) (.seq (.ret (.bfn .repr (.cons (.tup (.cons (.k (.str "join")) (.cons (.attr (.var 1) f_table) (.cons (.attr (.var 1) f_pairs) .nil)))) .nil))) .skip) .skip) (.seq (.ite (.cmp .eq (.idx (.var 0) (.k (.int 0))) (.k (.str "sort"))) (.seq (.ret (.bfn .repr (.cons (.tup (.cons (.k (.str "sort")) (.cons (.attr (.var 1) f_columns) .nil))) .nil))) .skip) .skip) (.seq (.ret (.bfn .repr (.cons (.tup (.cons (.k (.str "cut")) (.cons (.attr (.var 1) f_start) (.cons (.attr (.var 1) f_count) (.cons (.attr (.var 1) f_per) .nil))))) .nil))) .skip))))
def fi_law_parts : FnI := ⟨2, 2, b_law_parts, true⟩
/-- _law_row: 0=act_here 1=last 2=pair 3=word -/
def x_law_row_0 : IR := (.k (.str "per"))
def x_law_row_1 : IR := (.bin .add (.bin .add (.idx (.var 2) (.k (.int 0))) (.k (.str " "))) (.idx (.var 2) (.k (.int 1))))
def b_law_row : IS := (.seq (.ite (.cmp .eq (.idx (.var 0) (.k (.int 0))) (.k (.str "keep"))) (.seq (.ret (.bin .add (.bin .add (.bin .add (.k (.str "keep ")) (.idx (.var 0) (.k (.int 1)))) (.k (.str ": "))) (.bmt .join (.k (.str " ")) (.cons (.idx (.var 0) (.k (.int 2))) .nil)))) .skip) .skip) (.seq (.ite (.cmp .eq (.idx (.var 0) (.k (.int 0))) (.k (.str "join"))) (.seq (.ret (.bin .add (.bin .add (.bin .add (.k (.str "join ")) (.idx (.var 0) (.k (.int 1)))) (.k (.str ": "))) (.bmt .join (.k (.str ", ")) (.cons (.comp [2] (.v 2) (.itV (.idx (.var 0) (.k (.int 2)))) x_law_row_1 IR.yes) .nil)))) .skip) .skip) (.seq (.ite (.cmp .eq (.idx (.var 0) (.k (.int 0))) (.k (.str "sort"))) (.seq (.ret (.bin .add (.k (.str "sort ")) (.bmt .join (.k (.str " ")) (.cons (.idx (.var 0) (.k (.int 1))) .nil)))) .skip) .skip) (.seq (.set (.v 1) (.ite (.cmp .is (.idx (.var 0) (.k (.int 2))) (.k .non)) (.k (.str "all")) (.ostr f_str (.idx (.var 0) (.k (.int 2)))))) (.seq (.ret (.bmt .join (.k (.str " ")) (.cons (.bin .add (.bin .add (.lst (.cons (.k (.str "cut")) (.cons (.ostr f_str (.idx (.var 0) (.k (.int 1)))) (.cons (.var 1) .nil)))) (.comp [3] (.v 3) (.itV (.slc (.idx (.var 0) (.k (.int 3))) .nil (.k (.int 1)))) x_law_row_0 IR.yes)) (.bfn .list (.cons (.idx (.var 0) (.k (.int 3))) .nil))) .nil))) .skip)))))
def fi_law_row : FnI := ⟨1, 4, b_law_row, true⟩
/-- _law_purse: 0=cell_here -/
def b_law_purse : IS := (.seq (.ret (.lstR (.cons (.bin .mod (.bfn .int (.cons (.var 0) .nil)) (.k (.int 2147483629))) (.cons (.ite (.or (.cmp .lt (.var 0) (.k (.int 0))) (.cmp .ge (.var 0) (.bin .pow (.k (.int 10)) (.k (.int 18))))) (.bfn .abs (.cons (.var 0) .nil)) (.k (.int 0))) (.cons (.k (.int 0)) .nil))))) .skip)
def fi_law_purse : FnI := ⟨1, 1, b_law_purse, false⟩
/-- _law_cell: 0=script 1=k 2=mixed 3=each -/
def x_law_cell_0 : IS := (.seq (.set (.v 2) (.bin .mod (.bfn .int (.cons (.bin .add (.bin .mul (.var 2) (.k (.int 50021))) (.var 3)) .nil)) (.k (.int 2147483629)))) .skip)
def b_law_cell : IS := (.seq (.ite (.cmp .lt (.var 1) (.bfn .len (.cons (.var 0) .nil))) (.seq (.ret (.idx (.var 0) (.var 1))) .skip) .skip) (.seq (.set (.v 2) (.bin .mod (.bfn .int (.cons (.bin .add (.bin .add (.bin .mul (.bin .mul (.var 1) (.var 1)) (.k (.int 40213))) (.bin .mul (.k (.int 7)) (.var 1))) (.k (.int 1009))) .nil)) (.k (.int 2147483629)))) (.seq (.for (.v 3) (.itV (.slc (.var 0) .nil (.k (.int 4)))) x_law_cell_0) (.seq (.ret (.var 2)) .skip))))
def fi_law_cell : FnI := ⟨2, 4, b_law_cell, true⟩
/-- Keep.__str__: 0=self -/
def b_Keep_str : IS := (.seq (.ret (.fstr (.cons (.k (.str "keep ")) (.cons (.fmt (.attr (.var 0) f_test)) (.cons (.k (.str ": ")) (.cons (.fmt (.bmt .join (.k (.str " ")) (.cons (.attr (.var 0) f_columns) .nil))) .nil)))))) .skip)
def fi_Keep_str : FnI := ⟨1, 1, b_Keep_str, true⟩
/-- Join.__str__: 0=self 1=rows 2=old 3=new -/
def x_Join_str_0 : IR := (.fstr (.cons (.fmt (.var 2)) (.cons (.k (.str " ")) (.cons (.fmt (.var 3)) .nil))))
def b_Join_str : IS := (.seq (.set (.v 1) (.comp [2, 3] (.cons (.v 2) (.cons (.v 3) .nil)) (.itV (.attr (.var 0) f_pairs)) x_Join_str_0 IR.yes)) (.seq (.ret (.fstr (.cons (.k (.str "join ")) (.cons (.fmt (.attr (.var 0) f_table)) (.cons (.k (.str ": ")) (.cons (.fmt (.bmt .join (.k (.str ", ")) (.cons (.var 1) .nil))) .nil)))))) .skip))
def fi_Join_str : FnI := ⟨1, 4, b_Join_str, true⟩
/-- Sort.__str__: 0=self -/
def b_Sort_str : IS := (.seq (.ret (.fstr (.cons (.k (.str "sort ")) (.cons (.fmt (.bmt .join (.k (.str " ")) (.cons (.attr (.var 0) f_columns) .nil))) .nil)))) .skip)
def fi_Sort_str : FnI := ⟨1, 1, b_Sort_str, true⟩
/-- Cut.__str__: 0=self 1=words 2=column -/
def x_Cut_str_0 : IR := (.k (.str "per"))
def b_Cut_str : IS := (.seq (.set (.v 1) (.lst (.cons (.k (.str "cut")) (.cons (.ostr f_str (.attr (.var 0) f_start)) (.cons (.ite (.cmp .is (.attr (.var 0) f_count) (.k .non)) (.k (.str "all")) (.ostr f_str (.attr (.var 0) f_count))) .nil))))) (.seq (.ret (.bmt .join (.k (.str " ")) (.cons (.lst (.star (.var 1) (.star (.comp [2] (.v 2) (.itV (.slc (.attr (.var 0) f_per) .nil (.k (.int 1)))) x_Cut_str_0 IR.yes) (.star (.attr (.var 0) f_per) .nil)))) .nil))) .skip))
def fi_Cut_str : FnI := ⟨1, 3, b_Cut_str, true⟩
/-- Keep.__eq__: 0=self 1=other -/
def b_Keep_eq : IS := (.seq (.ret (.and (.isI (.var 1) (.own k_Keep)) (.and (.cmp .eq (.attr (.var 0) f_test) (.attr (.var 1) f_test)) (.cmp .eq (.attr (.var 0) f_columns) (.attr (.var 1) f_columns))))) .skip)
def fi_Keep_eq : FnI := ⟨2, 2, b_Keep_eq, true⟩
/-- Join.__eq__: 0=self 1=other -/
def b_Join_eq : IS := (.seq (.ret (.and (.isI (.var 1) (.own k_Join)) (.and (.cmp .eq (.attr (.var 0) f_table) (.attr (.var 1) f_table)) (.cmp .eq (.attr (.var 0) f_pairs) (.attr (.var 1) f_pairs))))) .skip)
def fi_Join_eq : FnI := ⟨2, 2, b_Join_eq, true⟩
/-- Sort.__eq__: 0=self 1=other -/
def b_Sort_eq : IS := (.seq (.ret (.and (.isI (.var 1) (.own k_Sort)) (.cmp .eq (.attr (.var 0) f_columns) (.attr (.var 1) f_columns)))) .skip)
def fi_Sort_eq : FnI := ⟨2, 2, b_Sort_eq, true⟩
/-- Cut.__eq__: 0=self 1=other -/
def b_Cut_eq : IS := (.seq (.ite (.or (.not (.isI (.var 1) (.own k_Cut))) (.cmp .ne (.attr (.var 0) f_start) (.attr (.var 1) f_start))) (.seq (.ret (.k (.bl false))) .skip) .skip) (.seq (.ret (.and (.cmp .eq (.attr (.var 0) f_count) (.attr (.var 1) f_count)) (.cmp .eq (.attr (.var 0) f_per) (.attr (.var 1) f_per)))) .skip))
def fi_Cut_eq : FnI := ⟨2, 2, b_Cut_eq, true⟩
def ci_Keep : ClsI := ⟨[f_test, f_columns], [(f_str, i_Keep_str), (f_eq, i_Keep_eq)], i_Keep_init, true⟩
def ci_Join : ClsI := ⟨[f_table, f_pairs], [(f_str, i_Join_str), (f_eq, i_Join_eq)], i_Join_init, true⟩
def ci_Sort : ClsI := ⟨[f_columns], [(f_str, i_Sort_str), (f_eq, i_Sort_eq)], i_Sort_init, true⟩
def ci_Cut : ClsI := ⟨[f_start, f_count, f_per], [(f_str, i_Cut_str), (f_eq, i_Cut_eq)], i_Cut_init, true⟩
def xi_WrongValue : XI := ⟨[], [e_WrongValue]⟩
def xi_InvalidName : XI := ⟨[f_given], [e_InvalidName, e_WrongValue]⟩
def xi_InvalidColumns : XI := ⟨[f_index], [e_InvalidColumns, e_WrongValue]⟩
def xi_InvalidPairs : XI := ⟨[f_index], [e_InvalidPairs, e_WrongValue]⟩
def xi_InvalidStart : XI := ⟨[f_given], [e_InvalidStart, e_WrongValue]⟩
def xi_InvalidCount : XI := ⟨[f_given], [e_InvalidCount, e_WrongValue]⟩
def GG : Gl := ⟨[ci_Keep, ci_Join, ci_Sort, ci_Cut], [xi_WrongValue, xi_InvalidName, xi_InvalidColumns, xi_InvalidPairs, xi_InvalidStart, xi_InvalidCount]⟩
theorem cls_Keep : GG.cls[k_Keep]? = some ci_Keep := rfl
theorem cls_Join : GG.cls[k_Join]? = some ci_Join := rfl
theorem cls_Sort : GG.cls[k_Sort]? = some ci_Sort := rfl
theorem cls_Cut : GG.cls[k_Cut]? = some ci_Cut := rfl
theorem exs_WrongValue : GG.exs[e_WrongValue]? = some xi_WrongValue := rfl
theorem exs_InvalidName : GG.exs[e_InvalidName]? = some xi_InvalidName := rfl
theorem exs_InvalidColumns : GG.exs[e_InvalidColumns]? = some xi_InvalidColumns := rfl
theorem exs_InvalidPairs : GG.exs[e_InvalidPairs]? = some xi_InvalidPairs := rfl
theorem exs_InvalidStart : GG.exs[e_InvalidStart]? = some xi_InvalidStart := rfl
theorem exs_InvalidCount : GG.exs[e_InvalidCount]? = some xi_InvalidCount := rfl
def fns : List FnI := [fi_law, fi_Keep_init, fi_is_name, fi_is_full, fi_Join_init, fi_is_pair, fi_Sort_init, fi_bare_column, fi_Cut_init, fi_is_digit, fi_is_integer, fi_law_right, fi_law_step, fi_law_take, fi_law_name, fi_law_fulls, fi_law_full, fi_law_bent, fi_law_act, fi_law_parts, fi_law_row, fi_law_purse, fi_law_cell, fi_Keep_str, fi_Join_str, fi_Sort_str, fi_Cut_str, fi_Keep_eq, fi_Join_eq, fi_Sort_eq, fi_Cut_eq]
theorem fn_law : fns[i_law]? = some fi_law := rfl
theorem fn_Keep_init : fns[i_Keep_init]? = some fi_Keep_init := rfl
theorem fn_is_name : fns[i_is_name]? = some fi_is_name := rfl
theorem fn_is_full : fns[i_is_full]? = some fi_is_full := rfl
theorem fn_Join_init : fns[i_Join_init]? = some fi_Join_init := rfl
theorem fn_is_pair : fns[i_is_pair]? = some fi_is_pair := rfl
theorem fn_Sort_init : fns[i_Sort_init]? = some fi_Sort_init := rfl
theorem fn_bare_column : fns[i_bare_column]? = some fi_bare_column := rfl
theorem fn_Cut_init : fns[i_Cut_init]? = some fi_Cut_init := rfl
theorem fn_is_digit : fns[i_is_digit]? = some fi_is_digit := rfl
theorem fn_is_integer : fns[i_is_integer]? = some fi_is_integer := rfl
theorem fn_law_right : fns[i_law_right]? = some fi_law_right := rfl
theorem fn_law_step : fns[i_law_step]? = some fi_law_step := rfl
theorem fn_law_take : fns[i_law_take]? = some fi_law_take := rfl
theorem fn_law_name : fns[i_law_name]? = some fi_law_name := rfl
theorem fn_law_fulls : fns[i_law_fulls]? = some fi_law_fulls := rfl
theorem fn_law_full : fns[i_law_full]? = some fi_law_full := rfl
theorem fn_law_bent : fns[i_law_bent]? = some fi_law_bent := rfl
theorem fn_law_act : fns[i_law_act]? = some fi_law_act := rfl
theorem fn_law_parts : fns[i_law_parts]? = some fi_law_parts := rfl
theorem fn_law_row : fns[i_law_row]? = some fi_law_row := rfl
theorem fn_law_purse : fns[i_law_purse]? = some fi_law_purse := rfl
theorem fn_law_cell : fns[i_law_cell]? = some fi_law_cell := rfl
theorem fn_Keep_str : fns[i_Keep_str]? = some fi_Keep_str := rfl
theorem fn_Join_str : fns[i_Join_str]? = some fi_Join_str := rfl
theorem fn_Sort_str : fns[i_Sort_str]? = some fi_Sort_str := rfl
theorem fn_Cut_str : fns[i_Cut_str]? = some fi_Cut_str := rfl
theorem fn_Keep_eq : fns[i_Keep_eq]? = some fi_Keep_eq := rfl
theorem fn_Join_eq : fns[i_Join_eq]? = some fi_Join_eq := rfl
theorem fn_Sort_eq : fns[i_Sort_eq]? = some fi_Sort_eq := rfl
theorem fn_Cut_eq : fns[i_Cut_eq]? = some fi_Cut_eq := rfl
end RF.K
namespace RF.K
open RF PySem
/-! names, columns, keys, references of a table: what the program does with texts -/
def okS (w : Str) : Prop := PyData.strOk w = true ∧ w.length ≤ 1000000
theorem isNm_okS {w : Str} (h : isNm w = true) : okS w := by
  refine ⟨isNm_str h, ?_⟩
  obtain ⟨c, cs, e, _, _, hl⟩ := isNm_ok h
  show w.cps.size ≤ _
  rw [← Array.length_toList, e, List.length_cons]
  omega
theorem len_str {S : Store} {w : Str} (h : okS w) : bfnV S .len [.str w] = some (.int (w.length : Nat)) := by
  show (if w.length ≤ sizeLine then some (PV.int w.length) else none) = _
  rw [if_pos (size_of (Nat.le_trans h.2 (by decide)))]
theorem idx_str {S : Store} {w : Str} (h : okS w) (j : Int) : idxV S (.str w) (.int j) = (L2.atI w.cps.toList j).map fun c => .str ⟨#[c]⟩ := by
  show (if w.length ≤ sizeLine then (L2.atI w.cps.toList j).map (fun c => PV.str ⟨#[c]⟩) else none) = _
  rw [if_pos (size_of (Nat.le_trans h.2 (by decide)))]
theorem len_list {w : Str} : w.length = w.cps.toList.length := (Array.length_toList).symm
def CanIsName (C : CallF) : Prop := ∀ S w, okS w → C i_is_name [.str w] S = .ok (.bl (isNm w)) S
theorem can_is_name (k : Nat) : CanIsName (call GG fns (k + 1)) := fun S w h => by
  have e : ex GG (call GG fns k) b_is_name [some (.str w), none] S = .rt (.bl (isNm w)) S := by
    have h1 := len_str (S := S) h
    have h2 := idx_str (S := S) h 0
    rw [len_list] at h1
    cases hw : w.cps.toList with
    | nil =>
      rw [hw] at h1
      have : isNm w = false := by unfold isNm; rw [hw]
      rw [this]
      have h1 : bfnV S .len [.str w] = some (.int 0) := h1
      simp only [b_is_name, h1, strsP_nil, strsP_cons, List.foldl_cons, List.foldl_nil, empty_app, kindR, bmtKR, ↓ex_seq_skip, szR, boolsP_mapf, boolsP_map, List.all_map, List.any_map, Function.comp_def, id_eq, ev_k, ev_v, ev_xattr, ev_tup, ev_lst, ev_lstR, ev_bin, ev_cmp, ev_chain, ev_neg, ev_not, ev_and, ev_or, ev_ite, ev_call, ev_bfn, ev_listR, ev_bmt, ev_mmt, ev_isI, ev_attr, ev_idx, ev_slc, ev_rev, ev_comp, ev_compR, ev_fmt, ev_one, ev_fstr, ev_ocmp, ev_ostr, ex_ite, ex_skip, ex_seq, ex_set, ex_par, ex_setT, ex_setAttr, ex_setIdx, ex_expr, ex_for, ex_ret, ex_raise, evs_nil, evs_cons, evs_star, evs_itV, evs_itR1, evs_itR2, evs_itEnum, setTs_nil, setTs_v, setTs_ix, get0, getS, xR, xD, Bool.false_eq_true, if_false, if_true, nBok, nBex, nOpt, nTok, nTex, nFnx, nFrt, nFxc, nMap, List.append_nil, List.cons_append, List.nil_append, arrange, bindP, setMany, wipeP, List.set_cons_zero, List.set_cons_succ, List.length_cons, List.length_nil, PV.pures, PV.pure, Bool.and_self, Bool.true_and, Bool.and_true, and_self, and_true, true_and, vwR, truthR, cmpR', inR, eqS, isR, itR, stR, nilR, partR, slcR, revR, binR, bfnR, idxR, ifT_some, cond_t, cond_f, orB, andB, thnB, bindB, flB, flNx, Bool.not_true, Bool.not_false, decide_true, decide_false, Int.reduceLT]
      rfl
    | cons c cs =>
      rw [hw] at h1 h2
      rw [atI_0] at h2
      have h2 : idxV S (.str w) (.int 0) = some (.str ⟨#[c]⟩) := h2
      have hn : isNm w = (LET.cps.toList.contains c && cs.all (SGN.cps.toList.contains ·) && decide (cs.length ≤ 7)) := by unfold isNm; rw [hw]
      have hc : compL (.v 1) (ev GG (call GG fns k) x_is_name_0) (ev GG (call GG fns k) IR.yes) (.str w) (.str w) [some (.str w), none] (w.cps.toList.map fun c => .str ⟨#[c]⟩) [] S = .ok (w.cps.toList.map fun c => .bl (decide (c ∈ SGN.cps.toList))) S :=
        comp_map (fun c => .str ⟨#[c]⟩) (fun c => .bl (decide (c ∈ SGN.cps.toList))) w.cps.toList rfl (by rw [← len_list]; exact size_of (Nat.le_trans h.2 (by decide))) fun j a ha => ⟨_, rfl, rfl, by
          simp only [x_is_name_0, in_sign, strsP_nil, strsP_cons, List.foldl_cons, List.foldl_nil, empty_app, kindR, bmtKR, ↓ex_seq_skip, szR, boolsP_mapf, boolsP_map, List.all_map, List.any_map, Function.comp_def, id_eq, ev_k, ev_v, ev_xattr, ev_tup, ev_lst, ev_lstR, ev_bin, ev_cmp, ev_chain, ev_neg, ev_not, ev_and, ev_or, ev_ite, ev_call, ev_bfn, ev_listR, ev_bmt, ev_mmt, ev_isI, ev_attr, ev_idx, ev_slc, ev_rev, ev_comp, ev_compR, ev_fmt, ev_one, ev_fstr, ev_ocmp, ev_ostr, ex_ite, ex_skip, ex_seq, ex_set, ex_par, ex_setT, ex_setAttr, ex_setIdx, ex_expr, ex_for, ex_ret, ex_raise, evs_nil, evs_cons, evs_star, evs_itV, evs_itR1, evs_itR2, evs_itEnum, setTs_nil, setTs_v, setTs_ix, get0, getS, xR, xD, Bool.false_eq_true, if_false, if_true, nBok, nBex, nOpt, nTok, nTex, nFnx, nFrt, nFxc, nMap, List.append_nil, List.cons_append, List.nil_append, arrange, bindP, setMany, wipeP, List.set_cons_zero, List.set_cons_succ, List.length_cons, List.length_nil, PV.pures, PV.pure, Bool.and_self, Bool.true_and, Bool.and_true, and_self, and_true, true_and, vwR, truthR, cmpR', inR, eqS, isR, itR, stR, nilR, partR, slcR, revR, binR, bfnR, idxR, ifT_some, cond_t, cond_f, orB, andB, thnB, bindB, flB, flNx, Bool.not_true, Bool.not_false, decide_true, decide_false, Int.reduceLT]
          rfl⟩
      simp only [b_is_name, h1, h2, in_sign, hc, strsP_nil, strsP_cons, List.foldl_cons, List.foldl_nil, empty_app, kindR, bmtKR, ↓ex_seq_skip, szR, boolsP_mapf, boolsP_map, List.all_map, List.any_map, Function.comp_def, id_eq, ev_k, ev_v, ev_xattr, ev_tup, ev_lst, ev_lstR, ev_bin, ev_cmp, ev_chain, ev_neg, ev_not, ev_and, ev_or, ev_ite, ev_call, ev_bfn, ev_listR, ev_bmt, ev_mmt, ev_isI, ev_attr, ev_idx, ev_slc, ev_rev, ev_comp, ev_compR, ev_fmt, ev_one, ev_fstr, ev_ocmp, ev_ostr, ex_ite, ex_skip, ex_seq, ex_set, ex_par, ex_setT, ex_setAttr, ex_setIdx, ex_expr, ex_for, ex_ret, ex_raise, evs_nil, evs_cons, evs_star, evs_itV, evs_itR1, evs_itR2, evs_itEnum, setTs_nil, setTs_v, setTs_ix, get0, getS, xR, xD, Bool.false_eq_true, if_false, if_true, nBok, nBex, nOpt, nTok, nTex, nFnx, nFrt, nFxc, nMap, List.append_nil, List.cons_append, List.nil_append, arrange, bindP, setMany, wipeP, List.set_cons_zero, List.set_cons_succ, List.length_cons, List.length_nil, PV.pures, PV.pure, Bool.and_self, Bool.true_and, Bool.and_true, and_self, and_true, true_and, vwR, truthR, cmpR', inR, eqS, isR, itR, stR, nilR, partR, slcR, revR, binR, bfnR, idxR, ifT_some, cond_t, cond_f, orB, andB, thnB, bindB, flB, flNx, Bool.not_true, Bool.not_false, decide_true, decide_false, Int.reduceLT]
      have g1 : decide (c ∈ (Str.cps "abcdefghijklmnopqrstuvwxyz").toList) = LET.cps.toList.contains c := by
        rw [List.contains_eq_mem]; rfl
      have g2 : (w.cps.toList.all fun a => decide (a ∈ SGN.cps.toList)) = w.cps.toList.all (SGN.cps.toList.contains ·) := by
        congr; funext a; rw [List.contains_eq_mem]
      rw [g1, g2, hw, hn, List.all_cons]
      have g3 : decide ((1:Int) ≤ ((cs.length + 1 : Nat) : Int)) = true := decide_eq_true (by omega)
      have g4 : decide (((cs.length + 1 : Nat) : Int) ≤ 8) = decide (cs.length ≤ 7) := by
        rw [decide_eq_decide]; omega
      rw [g3, g4]
      by_cases hl : cs.length ≤ 7
      · cases hc1 : LET.cps.toList.contains c with
        | true =>
          have : SGN.cps.toList.contains c = true := List.contains_iff_mem.mpr (let_sgn c (List.contains_iff_mem.mp hc1))
          simp only [hl, this, decide_true, Bool.not_true, Bool.or_self, cond_t, cond_f, Bool.true_and, Bool.and_true]
        | false => simp only [hl, decide_true, Bool.not_true, Bool.not_false, Bool.or_true, Bool.false_and, cond_t]
      · simp only [hl, decide_false, Bool.not_false, Bool.true_or, cond_t, Bool.and_false]
  rw [call_rt fn_is_name rfl e rfl rfl rfl rfl, take_all]
/-! ### typed values -/
abbrev strsV (ws : List Str) : PV := .tup (ws.map .str)
abbrev keysV (ks : List (List Str)) : PV := .tup (ks.map fun k => .tup (k.map .str))
structure okL (ws : List Str) : Prop where
  le : ws.length ≤ 1000000
  ok : ∀ w, w ∈ ws → okS w
structure okLL (ks : List (List Str)) : Prop where
  le : ks.length ≤ 1000000
  ok : ∀ k, k ∈ ks → okL k
theorem okL.get {ws : List Str} (h : okL ws) {j : Nat} {w : Str} (hj : ws[j]? = some w) : okS w := h.ok w (List.mem_of_getElem? hj)
theorem okLL.get {ks : List (List Str)} (h : okLL ks) {j : Nat} {w : List Str} (hj : ks[j]? = some w) : okL w := h.ok w (List.mem_of_getElem? hj)
theorem okL.take {ws : List Str} (h : okL ws) (n : Nat) : okL (ws.take n) := ⟨by rw [List.length_take]; have := h.le; omega, fun w hw => h.ok w (List.mem_of_mem_take hw)⟩
theorem okLL.take {ws : List (List Str)} (h : okLL ws) (n : Nat) : okLL (ws.take n) := ⟨by rw [List.length_take]; have := h.le; omega, fun w hw => h.ok w (List.mem_of_mem_take hw)⟩
theorem in_strsV {S : Store} {w : Str} {ws : List Str} (hw : okS w) (h : okL ws) : inD S (.str w) (.tup (ws.map .str)) = some (decide (w ∈ ws)) := in_strs (.inr rfl) hw.1 fun x hx => (h.ok x hx).1
theorem in_strsL {S : Store} {w : Str} {ws : List Str} (hw : okS w) (h : okL ws) : inD S (.str w) (.lst (ws.map .str)) = some (decide (w ∈ ws)) := in_strs (.inl rfl) hw.1 fun x hx => (h.ok x hx).1
theorem getD_of {α : Type} {l : List α} {j : Nat} {x d : α} (h : l[j]? = some x) : l.getD j d = x := by rw [List.getD_eq_getElem?_getD, h]; rfl
def sub (a b : List Str) : Bool := a.all fun w => decide (w ∈ b)
theorem sub_iff {a b : List Str} : sub a b = true ↔ ∀ w, w ∈ a → w ∈ b := by
  unfold sub
  rw [List.all_eq_true]
  exact ⟨fun h w hw => of_decide_eq_true (h w hw), fun h w hw => decide_eq_true (h w hw)⟩
theorem size_ok {n : Nat} (h : n ≤ 1000000) : n ≤ sizeLine := size_of (Nat.le_trans h (by decide))
/-! ### common -/
theorem nat_eq (j k : Nat) : decide ((j : Int) = (k : Int)) = decide (j = k) := by rw [decide_eq_decide]; omega
theorem empty_len {α : Type} (l : List α) (f : α → PV) : decide (((l.map f).length : Int) = 0) = l.isEmpty := by
  cases l with
  | nil => rfl
  | cons a l => exact decide_eq_false (by rw [List.length_map, List.length_cons]; omega)
theorem strs_enc (w : List Str) : PV.tup (w.map .str) = (Enc.tup Enc.str).pv w := rfl
theorem in_keysV {S : Store} {w : List Str} {ws : List (List Str)} (hw : okL w) (h : okLL ws) : inD S (.tup (w.map .str)) (.tup (ws.map fun k => .tup (k.map .str))) = some (decide (w ∈ ws)) :=
  ((Enc.tup Enc.str).in_tup S (a := w) (l := ws) (fun x hx => (hw.ok x hx).1) (fun y hy x hx => ((h.ok y hy).ok x hx).1) (by decide)).trans (congrArg some (decide_eq_decide.mpr Iff.rfl))
/-- an error, or nothing -/
def OnlyXc (o : Option End) : Prop := ∀ v, o ≠ some (.rt v)
theorem firstEnd_xc {bad : Nat → Option End} {n : Nat} (h : ∀ j, OnlyXc (bad j)) : OnlyXc (firstEnd bad n) := fun v hv => by
  obtain ⟨j, _, hj, _⟩ := firstEnd_ex hv
  exact h j v hj
theorem if_xc {c : Bool} {e : PV} : OnlyXc (if c = true then some (.xc e) else none) := fun v hv => by
  split at hv <;> cases hv
theorem xc_cases {o : Option End} (h : OnlyXc o) : o = none ∨ ∃ e, o = some (.xc e) := by
  cases o with
  | none => exact .inl rfl
  | some v => cases v with
    | rt v => exact absurd rfl (h v)
    | xc e => exact .inr ⟨e, rfl⟩
theorem setA {G : Gl} {S : Store} {c f j : Nat} {xs : List PV} {v : PV} (hf : G.fix c f = some j) (hj : j = xs.length) (hv : v.pure = true) : setAttrV G (S ++ [.inst c xs]) (.ref S.length) f v = some (S ++ [.inst c (xs ++ [v])]) := by
  have e : (S ++ [SO.inst c xs])[S.length]? = some (.inst c xs) := by
    rw [List.getElem?_append_right (Nat.le_refl _), Nat.sub_self]; rfl
  unfold setAttrV
  simp only [e, hf, hv]
  rw [if_neg Bool.noConfusion, if_neg (show ¬ j < xs.length by omega), if_pos hj, List.set_append_right _ _ (Nat.le_refl _), Nat.sub_self]; rfl
theorem strs_pure (ws : List Str) : (strsV ws).pure = true := (Enc.tup Enc.str).pure ws
theorem keys_pure (ks : List (List Str)) : (keysV ks).pure = true := (Enc.tup (Enc.tup Enc.str)).pure ks
end RF.K
namespace RF.K
open RF PySem
/-! full columns, digits -/
theorem split_dot {w : Str} (h : okS w) (S : Store) : bmtV S .split (.str w) [.str "."] = some (.lst ((Txt.split w ".").map .str)) := splitR (by decide +kernel) (Nat.le_trans h.2 (by decide))
theorem split_okS {w a p : Str} (h : okS w) (hp : p ∈ Txt.split w a) : okS p := by
  obtain ⟨h1, h2⟩ := split_mem hp
  exact ⟨okT_iff.mpr fun c hc => okT_iff.mp h.1 c (h2 c hc), Nat.le_trans h1 h.2⟩
def twoB (l : List Str) : Bool := match l with
  | [a, b] => isNm a && isNm b
  | _ => false
theorem twoB_no {l : List Str} (h : ¬ l.length = 2) : twoB l = false := by
  unfold twoB
  split
  · exact absurd rfl h
  · rfl
def isFullB (w : Str) : Bool := twoB (Txt.split w ".")
def CanFull (C : CallF) : Prop := ∀ S w, okS w → C i_is_full [.str w] S = .ok (.bl (isFullB w)) S
theorem can_full (k : Nat) : CanFull (call GG fns (k + 2)) := fun S w h => by
  have h1 := split_dot h S
  have hn := can_is_name k
  have e : ex GG (call GG fns (k + 1)) b_is_full [some (.str w), none] S = .rt (.bl (isFullB w)) S := by
    unfold isFullB
    have hok : ∀ p, p ∈ Txt.split w "." → okS p := fun p hp => split_okS h hp
    generalize Txt.split w "." = l at h1 hok
    by_cases hl : l.length = 2
    · match l, hl with
      | [a, b], _ =>
        have g1 := hn S a (hok a (by simp))
        have g2 := hn S b (hok b (by simp))
        have i0 : L2.atI [PV.str a, .str b] 0 = some (.str a) := rfl
        have i1 : L2.atI [PV.str a, .str b] 1 = some (.str b) := rfl
        have h1 : bmtV S .split (.str w) [.str "."] = some (.lst [.str a, .str b]) := h1
        have h2 : decide (((0 + 1 + 1 : Nat) : Int) = 2) = true := rfl
        simp only [b_is_full, h1, i0, i1, g1, g2, h2, twoB, strsP_nil, strsP_cons, List.foldl_cons, List.foldl_nil, empty_app, kindR, bmtKR, ↓ex_seq_skip, szR, boolsP_mapf, boolsP_map, List.all_map, List.any_map, Function.comp_def, id_eq, ev_k, ev_v, ev_xattr, ev_tup, ev_lst, ev_lstR, ev_bin, ev_cmp, ev_chain, ev_neg, ev_not, ev_and, ev_or, ev_ite, ev_call, ev_bfn, ev_listR, ev_bmt, ev_mmt, ev_isI, ev_attr, ev_idx, ev_slc, ev_rev, ev_comp, ev_compR, ev_fmt, ev_one, ev_fstr, ev_ocmp, ev_ostr, ex_ite, ex_skip, ex_seq, ex_set, ex_par, ex_setT, ex_setAttr, ex_setIdx, ex_expr, ex_for, ex_ret, ex_raise, evs_nil, evs_cons, evs_star, evs_itV, evs_itR1, evs_itR2, evs_itEnum, setTs_nil, setTs_v, setTs_ix, get0, getS, xR, xD, Bool.false_eq_true, if_false, if_true, nBok, nBex, nOpt, nTok, nTex, nFnx, nFrt, nFxc, nMap, List.append_nil, List.cons_append, List.nil_append, arrange, bindP, setMany, wipeP, List.set_cons_zero, List.set_cons_succ, List.length_cons, List.length_nil, PV.pures, PV.pure, Bool.and_self, Bool.true_and, Bool.and_true, and_self, and_true, true_and, vwR, truthR, cmpR', inR, eqS, isR, itR, stR, nilR, partR, slcR, revR, binR, bfnR, idxR, ifT_some, cond_t, cond_f, orB, andB, thnB, bindB, flB, flNx, Bool.not_true, Bool.not_false, decide_true, decide_false, Int.reduceLT]
    · have h2 : decide ((l.length : Int) = 2) = false := decide_eq_false (by omega)
      rw [twoB_no hl]
      simp only [b_is_full, h1, List.length_map, h2, strsP_nil, strsP_cons, List.foldl_cons, List.foldl_nil, empty_app, kindR, bmtKR, ↓ex_seq_skip, szR, boolsP_mapf, boolsP_map, List.all_map, List.any_map, Function.comp_def, id_eq, ev_k, ev_v, ev_xattr, ev_tup, ev_lst, ev_lstR, ev_bin, ev_cmp, ev_chain, ev_neg, ev_not, ev_and, ev_or, ev_ite, ev_call, ev_bfn, ev_listR, ev_bmt, ev_mmt, ev_isI, ev_attr, ev_idx, ev_slc, ev_rev, ev_comp, ev_compR, ev_fmt, ev_one, ev_fstr, ev_ocmp, ev_ostr, ex_ite, ex_skip, ex_seq, ex_set, ex_par, ex_setT, ex_setAttr, ex_setIdx, ex_expr, ex_for, ex_ret, ex_raise, evs_nil, evs_cons, evs_star, evs_itV, evs_itR1, evs_itR2, evs_itEnum, setTs_nil, setTs_v, setTs_ix, get0, getS, xR, xD, Bool.false_eq_true, if_false, if_true, nBok, nBex, nOpt, nTok, nTex, nFnx, nFrt, nFxc, nMap, List.append_nil, List.cons_append, List.nil_append, arrange, bindP, setMany, wipeP, List.set_cons_zero, List.set_cons_succ, List.length_cons, List.length_nil, PV.pures, PV.pure, Bool.and_self, Bool.true_and, Bool.and_true, and_self, and_true, true_and, vwR, truthR, cmpR', inR, eqS, isR, itR, stR, nilR, partR, slcR, revR, binR, bfnR, idxR, ifT_some, cond_t, cond_f, orB, andB, thnB, bindB, flB, flNx, Bool.not_true, Bool.not_false, decide_true, decide_false, Int.reduceLT]
  rw [call_rt fn_is_full rfl e rfl rfl rfl rfl, take_all]
/-- a column of a sort without its minus -/
def bare (w : Str) : Str := if L2.cutS w none (some 1) = "-" then L2.cutS w (some 1) none else w
theorem cutS_mem {w : Str} {a b : Option Int} : (L2.cutS w a b).length ≤ w.length ∧ ∀ c, c ∈ (L2.cutS w a b).cps.toList → c ∈ w.cps.toList := by
  unfold L2.cutS
  constructor
  · show (((w.cps.toList.drop _).take _).toArray).size ≤ w.cps.size
    rw [List.size_toArray, List.length_take, List.length_drop, Array.length_toList]
    omega
  · intro c hc
    exact List.mem_of_mem_drop (List.mem_of_mem_take hc)
theorem cutS_okS {w : Str} {a b : Option Int} (h : okS w) : okS (L2.cutS w a b) := ⟨okT_iff.mpr fun c hc => okT_iff.mp h.1 c (cutS_mem.2 c hc), Nat.le_trans cutS_mem.1 h.2⟩
theorem bare_okS {w : Str} (h : okS w) : okS (bare w) := by
  unfold bare
  split
  · exact cutS_okS h
  · exact h
theorem slc_str {S : Store} {w : Str} (h : okS w) (a b : Option Int) : slcV S (.str w) a b = some (.str (L2.cutS w a b)) := by
  show (if w.length ≤ sizeLine then some (PV.str (L2.cutS w a b)) else none) = _
  exact if_pos (size_ok h.2)
def CanBare (C : CallF) : Prop := ∀ S w, okS w → C i_bare_column [.str w] S = .ok (.str (bare w)) S
theorem can_bare (k : Nat) : CanBare (call GG fns (k + 1)) := fun S w h => by
  have h1 := fun a b => slc_str (S := S) h a b
  have e : ex GG (call GG fns k) b_bare_column [some (.str w)] S = .rt (.str (bare w)) S := by
    unfold bare
    simp only [b_bare_column, h1, strsP_nil, strsP_cons, List.foldl_cons, List.foldl_nil, empty_app, kindR, bmtKR, ↓ex_seq_skip, szR, boolsP_mapf, boolsP_map, List.all_map, List.any_map, Function.comp_def, id_eq, ev_k, ev_v, ev_xattr, ev_tup, ev_lst, ev_lstR, ev_bin, ev_cmp, ev_chain, ev_neg, ev_not, ev_and, ev_or, ev_ite, ev_call, ev_bfn, ev_listR, ev_bmt, ev_mmt, ev_isI, ev_attr, ev_idx, ev_slc, ev_rev, ev_comp, ev_compR, ev_fmt, ev_one, ev_fstr, ev_ocmp, ev_ostr, ex_ite, ex_skip, ex_seq, ex_set, ex_par, ex_setT, ex_setAttr, ex_setIdx, ex_expr, ex_for, ex_ret, ex_raise, evs_nil, evs_cons, evs_star, evs_itV, evs_itR1, evs_itR2, evs_itEnum, setTs_nil, setTs_v, setTs_ix, get0, getS, xR, xD, Bool.false_eq_true, if_false, if_true, nBok, nBex, nOpt, nTok, nTex, nFnx, nFrt, nFxc, nMap, List.append_nil, List.cons_append, List.nil_append, arrange, bindP, setMany, wipeP, List.set_cons_zero, List.set_cons_succ, List.length_cons, List.length_nil, PV.pures, PV.pure, Bool.and_self, Bool.true_and, Bool.and_true, and_self, and_true, true_and, vwR, truthR, cmpR', inR, eqS, isR, itR, stR, nilR, partR, slcR, revR, binR, bfnR, idxR, ifT_some, cond_t, cond_f, orB, andB, thnB, bindB, flB, flNx, Bool.not_true, Bool.not_false, decide_true, decide_false, Int.reduceLT]
    by_cases q : L2.cutS w none (some 1) = "-" <;> simp [q]
  rw [call_rt fn_bare_column rfl e rfl rfl rfl rfl, take_all]
def CanInt (C : CallF) : Prop := ∀ S i, C i_is_integer [.int i] S = .ok (.bl true) S
theorem can_int (k : Nat) : CanInt (call GG fns (k + 1)) := fun S i => by
  have e : ex GG (call GG fns k) b_is_integer [some (.int i)] S = .rt (.bl true) S := by
    simp only [b_is_integer, strsP_nil, strsP_cons, List.foldl_cons, List.foldl_nil, empty_app, kindR, bmtKR, ↓ex_seq_skip, szR, boolsP_mapf, boolsP_map, List.all_map, List.any_map, Function.comp_def, id_eq, ev_k, ev_v, ev_xattr, ev_tup, ev_lst, ev_lstR, ev_bin, ev_cmp, ev_chain, ev_neg, ev_not, ev_and, ev_or, ev_ite, ev_call, ev_bfn, ev_listR, ev_bmt, ev_mmt, ev_isI, ev_attr, ev_idx, ev_slc, ev_rev, ev_comp, ev_compR, ev_fmt, ev_one, ev_fstr, ev_ocmp, ev_ostr, ex_ite, ex_skip, ex_seq, ex_set, ex_par, ex_setT, ex_setAttr, ex_setIdx, ex_expr, ex_for, ex_ret, ex_raise, evs_nil, evs_cons, evs_star, evs_itV, evs_itR1, evs_itR2, evs_itEnum, setTs_nil, setTs_v, setTs_ix, get0, getS, xR, xD, Bool.false_eq_true, if_false, if_true, nBok, nBex, nOpt, nTok, nTex, nFnx, nFrt, nFxc, nMap, List.append_nil, List.cons_append, List.nil_append, arrange, bindP, setMany, wipeP, List.set_cons_zero, List.set_cons_succ, List.length_cons, List.length_nil, PV.pures, PV.pure, Bool.and_self, Bool.true_and, Bool.and_true, and_self, and_true, true_and, vwR, truthR, cmpR', inR, eqS, isR, itR, stR, nilR, partR, slcR, revR, binR, bfnR, idxR, ifT_some, cond_t, cond_f, orB, andB, thnB, bindB, flB, flNx, Bool.not_true, Bool.not_false, decide_true, decide_false, Int.reduceLT]
  rw [call_rt fn_is_integer rfl e rfl rfl rfl rfl, take_all]
def digB (i : Int) : Bool := decide (0 ≤ i) && decide (i ≤ 9)
def CanDigit (C : CallF) : Prop := ∀ S i, C i_is_digit [.int i] S = .ok (.bl (digB i)) S
theorem can_digit (k : Nat) : CanDigit (call GG fns (k + 2)) := fun S i => by
  have h1 := can_int k S i
  have e : ex GG (call GG fns (k + 1)) b_is_digit [some (.int i)] S = .rt (.bl (digB i)) S := by
    unfold digB
    simp only [b_is_digit, h1, strsP_nil, strsP_cons, List.foldl_cons, List.foldl_nil, empty_app, kindR, bmtKR, ↓ex_seq_skip, szR, boolsP_mapf, boolsP_map, List.all_map, List.any_map, Function.comp_def, id_eq, ev_k, ev_v, ev_xattr, ev_tup, ev_lst, ev_lstR, ev_bin, ev_cmp, ev_chain, ev_neg, ev_not, ev_and, ev_or, ev_ite, ev_call, ev_bfn, ev_listR, ev_bmt, ev_mmt, ev_isI, ev_attr, ev_idx, ev_slc, ev_rev, ev_comp, ev_compR, ev_fmt, ev_one, ev_fstr, ev_ocmp, ev_ostr, ex_ite, ex_skip, ex_seq, ex_set, ex_par, ex_setT, ex_setAttr, ex_setIdx, ex_expr, ex_for, ex_ret, ex_raise, evs_nil, evs_cons, evs_star, evs_itV, evs_itR1, evs_itR2, evs_itEnum, setTs_nil, setTs_v, setTs_ix, get0, getS, xR, xD, Bool.false_eq_true, if_false, if_true, nBok, nBex, nOpt, nTok, nTex, nFnx, nFrt, nFxc, nMap, List.append_nil, List.cons_append, List.nil_append, arrange, bindP, setMany, wipeP, List.set_cons_zero, List.set_cons_succ, List.length_cons, List.length_nil, PV.pures, PV.pure, Bool.and_self, Bool.true_and, Bool.and_true, and_self, and_true, true_and, vwR, truthR, cmpR', inR, eqS, isR, itR, stR, nilR, partR, slcR, revR, binR, bfnR, idxR, ifT_some, cond_t, cond_f, orB, andB, thnB, bindB, flB, flNx, Bool.not_true, Bool.not_false, decide_true, decide_false, Int.reduceLT]
    cases decide (0 ≤ i) <;> rfl
  rw [call_rt fn_is_digit rfl e rfl rfl rfl rfl, take_all]
/-! pairs -/
def tabOf (w : Str) : Str := (Txt.split w ".").getD 0 ""
def isPairB (table : Str) (pr : List Str) : Bool := match pr with
  | [a, b] => (isFullB a && isFullB b) && (!decide (tabOf a = table) && decide (tabOf b = table))
  | _ => false
theorem pairB_no {t : Str} {l : List Str} (h : ¬ l.length = 2) : isPairB t l = false := by
  unfold isPairB
  split
  · exact absurd rfl h
  · rfl
theorem full_two {w : Str} (h : isFullB w = true) : ∃ a b, Txt.split w "." = [a, b] ∧ isNm a = true ∧ isNm b = true ∧ tabOf w = a := by
  unfold isFullB twoB at h
  split at h
  · rename_i a b e
    simp only [Bool.and_eq_true] at h
    exact ⟨a, b, e, h.1, h.2, by unfold tabOf; rw [e]; rfl⟩
  · cases h
def CanPair (C : CallF) : Prop := ∀ S t pr, okS t → okL pr → C i_is_pair [.str t, strsV pr] S = .ok (.bl (isPairB t pr)) S
theorem can_pair (k : Nat) : CanPair (call GG fns (k + 3)) := fun S t pr ht h => by
  have hn := can_full k
  have e : ex GG (call GG fns (k + 2)) b_is_pair [some (.str t), some (strsV pr)] S = .rt (.bl (isPairB t pr)) S := by
    by_cases hl : pr.length = 2
    · match pr, hl with
      | [a, b], _ =>
        have oa := h.ok a (by simp)
        have ob := h.ok b (by simp)
        have g1 := hn S a oa
        have g2 := hn S b ob
        have s1 := split_dot oa S
        have s2 := split_dot ob S
        have i0 : L2.atI [PV.str a, .str b] 0 = some (.str a) := rfl
        have i1 : L2.atI [PV.str a, .str b] 1 = some (.str b) := rfl
        have h2 : decide (((0 + 1 + 1 : Nat) : Int) = 2) = true := rfl
        show ex GG (call GG fns (k + 2)) b_is_pair [some (.str t), some (.tup [.str a, .str b])] S = .rt (.bl ((isFullB a && isFullB b) && (!decide (tabOf a = t) && decide (tabOf b = t)))) S
        cases fa : isFullB a with
        | false => simp only [b_is_pair, i0, i1, g1, fa, h2, Bool.false_and, strsP_nil, strsP_cons, List.foldl_cons, List.foldl_nil, empty_app, kindR, bmtKR, ↓ex_seq_skip, szR, boolsP_mapf, boolsP_map, List.all_map, List.any_map, Function.comp_def, id_eq, ev_k, ev_v, ev_xattr, ev_tup, ev_lst, ev_lstR, ev_bin, ev_cmp, ev_chain, ev_neg, ev_not, ev_and, ev_or, ev_ite, ev_call, ev_bfn, ev_listR, ev_bmt, ev_mmt, ev_isI, ev_attr, ev_idx, ev_slc, ev_rev, ev_comp, ev_compR, ev_fmt, ev_one, ev_fstr, ev_ocmp, ev_ostr, ex_ite, ex_skip, ex_seq, ex_set, ex_par, ex_setT, ex_setAttr, ex_setIdx, ex_expr, ex_for, ex_ret, ex_raise, evs_nil, evs_cons, evs_star, evs_itV, evs_itR1, evs_itR2, evs_itEnum, setTs_nil, setTs_v, setTs_ix, get0, getS, xR, xD, Bool.false_eq_true, if_false, if_true, nBok, nBex, nOpt, nTok, nTex, nFnx, nFrt, nFxc, nMap, List.append_nil, List.cons_append, List.nil_append, arrange, bindP, setMany, wipeP, List.set_cons_zero, List.set_cons_succ, List.length_cons, List.length_nil, PV.pures, PV.pure, Bool.and_self, Bool.true_and, Bool.and_true, and_self, and_true, true_and, vwR, truthR, cmpR', inR, eqS, isR, itR, stR, nilR, partR, slcR, revR, binR, bfnR, idxR, ifT_some, cond_t, cond_f, orB, andB, thnB, bindB, flB, flNx, Bool.not_true, Bool.not_false, decide_true, decide_false, Int.reduceLT]
        | true =>
          cases fb : isFullB b with
          | false => simp only [b_is_pair, i0, i1, g1, g2, fa, fb, h2, Bool.false_and, Bool.and_false, strsP_nil, strsP_cons, List.foldl_cons, List.foldl_nil, empty_app, kindR, bmtKR, ↓ex_seq_skip, szR, boolsP_mapf, boolsP_map, List.all_map, List.any_map, Function.comp_def, id_eq, ev_k, ev_v, ev_xattr, ev_tup, ev_lst, ev_lstR, ev_bin, ev_cmp, ev_chain, ev_neg, ev_not, ev_and, ev_or, ev_ite, ev_call, ev_bfn, ev_listR, ev_bmt, ev_mmt, ev_isI, ev_attr, ev_idx, ev_slc, ev_rev, ev_comp, ev_compR, ev_fmt, ev_one, ev_fstr, ev_ocmp, ev_ostr, ex_ite, ex_skip, ex_seq, ex_set, ex_par, ex_setT, ex_setAttr, ex_setIdx, ex_expr, ex_for, ex_ret, ex_raise, evs_nil, evs_cons, evs_star, evs_itV, evs_itR1, evs_itR2, evs_itEnum, setTs_nil, setTs_v, setTs_ix, get0, getS, xR, xD, Bool.false_eq_true, if_false, if_true, nBok, nBex, nOpt, nTok, nTex, nFnx, nFrt, nFxc, nMap, List.append_nil, List.cons_append, List.nil_append, arrange, bindP, setMany, wipeP, List.set_cons_zero, List.set_cons_succ, List.length_cons, List.length_nil, PV.pures, PV.pure, Bool.and_self, Bool.true_and, Bool.and_true, and_self, and_true, true_and, vwR, truthR, cmpR', inR, eqS, isR, itR, stR, nilR, partR, slcR, revR, binR, bfnR, idxR, ifT_some, cond_t, cond_f, orB, andB, thnB, bindB, flB, flNx, Bool.not_true, Bool.not_false, decide_true, decide_false, Int.reduceLT]
          | true =>
            obtain ⟨a1, a2, ea, _, _, ta⟩ := full_two fa
            obtain ⟨b1, b2, eb, _, _, tb⟩ := full_two fb
            rw [ea] at s1
            rw [eb] at s2
            have j0 : ∀ x y : Str, L2.atI [PV.str x, .str y] 0 = some (.str x) := fun _ _ => rfl
            rw [ta, tb]
            simp only [b_is_pair, i0, i1, g1, g2, fa, fb, h2, s1, s2, List.map_cons, List.map_nil, j0, strsP_nil, strsP_cons, List.foldl_cons, List.foldl_nil, empty_app, kindR, bmtKR, ↓ex_seq_skip, szR, boolsP_mapf, boolsP_map, List.all_map, List.any_map, Function.comp_def, id_eq, ev_k, ev_v, ev_xattr, ev_tup, ev_lst, ev_lstR, ev_bin, ev_cmp, ev_chain, ev_neg, ev_not, ev_and, ev_or, ev_ite, ev_call, ev_bfn, ev_listR, ev_bmt, ev_mmt, ev_isI, ev_attr, ev_idx, ev_slc, ev_rev, ev_comp, ev_compR, ev_fmt, ev_one, ev_fstr, ev_ocmp, ev_ostr, ex_ite, ex_skip, ex_seq, ex_set, ex_par, ex_setT, ex_setAttr, ex_setIdx, ex_expr, ex_for, ex_ret, ex_raise, evs_nil, evs_cons, evs_star, evs_itV, evs_itR1, evs_itR2, evs_itEnum, setTs_nil, setTs_v, setTs_ix, get0, getS, xR, xD, Bool.false_eq_true, if_false, if_true, nBok, nBex, nOpt, nTok, nTex, nFnx, nFrt, nFxc, nMap, List.append_nil, List.cons_append, List.nil_append, arrange, bindP, setMany, wipeP, List.set_cons_zero, List.set_cons_succ, List.length_cons, List.length_nil, PV.pures, PV.pure, Bool.and_self, Bool.true_and, Bool.and_true, and_self, and_true, true_and, vwR, truthR, cmpR', inR, eqS, isR, itR, stR, nilR, partR, slcR, revR, binR, bfnR, idxR, ifT_some, cond_t, cond_f, orB, andB, thnB, bindB, flB, flNx, Bool.not_true, Bool.not_false, decide_true, decide_false, Int.reduceLT]
    · have h2 : decide ((pr.length : Int) = 2) = false := decide_eq_false (by omega)
      rw [pairB_no hl]
      simp only [b_is_pair, List.length_map, h2, strsP_nil, strsP_cons, List.foldl_cons, List.foldl_nil, empty_app, kindR, bmtKR, ↓ex_seq_skip, szR, boolsP_mapf, boolsP_map, List.all_map, List.any_map, Function.comp_def, id_eq, ev_k, ev_v, ev_xattr, ev_tup, ev_lst, ev_lstR, ev_bin, ev_cmp, ev_chain, ev_neg, ev_not, ev_and, ev_or, ev_ite, ev_call, ev_bfn, ev_listR, ev_bmt, ev_mmt, ev_isI, ev_attr, ev_idx, ev_slc, ev_rev, ev_comp, ev_compR, ev_fmt, ev_one, ev_fstr, ev_ocmp, ev_ostr, ex_ite, ex_skip, ex_seq, ex_set, ex_par, ex_setT, ex_setAttr, ex_setIdx, ex_expr, ex_for, ex_ret, ex_raise, evs_nil, evs_cons, evs_star, evs_itV, evs_itR1, evs_itR2, evs_itEnum, setTs_nil, setTs_v, setTs_ix, get0, getS, xR, xD, Bool.false_eq_true, if_false, if_true, nBok, nBex, nOpt, nTok, nTex, nFnx, nFrt, nFxc, nMap, List.append_nil, List.cons_append, List.nil_append, arrange, bindP, setMany, wipeP, List.set_cons_zero, List.set_cons_succ, List.length_cons, List.length_nil, PV.pures, PV.pure, Bool.and_self, Bool.true_and, Bool.and_true, and_self, and_true, true_and, vwR, truthR, cmpR', inR, eqS, isR, itR, stR, nilR, partR, slcR, revR, binR, bfnR, idxR, ifT_some, cond_t, cond_f, orB, andB, thnB, bindB, flB, flNx, Bool.not_true, Bool.not_false, decide_true, decide_false, Int.reduceLT]
  rw [call_rt fn_is_pair rfl e rfl rfl rfl rfl, take_all]
end RF.K
namespace RF.K
open RF PySem
/-! steps made -/
inductive Stp where
  | keep (t : Str) (cols : List Str)
  | join (t : Str) (prs : List (List Str))
  | sort (cols : List Str)
  | cut (st : Int) (cnt : Option Int) (per : List Str)
  deriving DecidableEq
abbrev cntV (c : Option Int) : PV := Enc.oint.pv c
def Stp.cls : Stp → Nat
  | .keep .. => k_Keep
  | .join .. => k_Join
  | .sort .. => k_Sort
  | .cut .. => k_Cut
def Stp.flds : Stp → List PV
  | .keep t cols => [.str t, strsV cols]
  | .join t prs => [.str t, keysV prs]
  | .sort cols => [strsV cols]
  | .cut st cnt per => [.int st, cntV cnt, strsV per]
def Stp.obj (s : Stp) : PV := .obj s.cls s.flds
def Stp.ok : Stp → Prop
  | .keep t cols => okS t ∧ okL cols
  | .join t prs => okS t ∧ okLL prs
  | .sort cols => okL cols
  | .cut _ _ per => okL per
def keepB (cols : List Str) (j : Nat) : Bool := decide (j = 4) || !isFullB (cols.getD j "")
def joinB (t : Str) (prs : List (List Str)) (j : Nat) : Bool := decide (j = 4) || ((!isPairB t (prs.getD j [])) || decide (prs.getD j [] ∈ prs.take j))
def sortB (cols : List Str) (j : Nat) : Bool := (decide (j = 20) || !isFullB (bare (cols.getD j ""))) || decide (bare (cols.getD j "") ∈ (cols.take j).map bare)
def cutB (per : List Str) (j : Nat) : Bool := decide (j = 4) || ((!isFullB (per.getD j "")) || decide (per.getD j "" ∈ per.take j))
def xcIf (e : Nat) (p : Nat → Bool) (j : Nat) : Option End := if p j = true then some (.xc (.exc e [.int j])) else none
theorem xcIf_xc (e : Nat) (p : Nat → Bool) (n : Nat) : OnlyXc (firstEnd (xcIf e p) n) := firstEnd_xc fun j => if_xc
def Stp.err : Stp → Option End
  | .keep t cols => if isNm t = true then (if cols.isEmpty = true then some (.xc (.exc e_InvalidColumns [.non])) else firstEnd (xcIf e_InvalidColumns (keepB cols)) cols.length) else some (.xc (.exc e_InvalidName [.str t]))
  | .join t prs => if isNm t = true then (if prs.isEmpty = true then some (.xc (.exc e_InvalidPairs [.non])) else firstEnd (xcIf e_InvalidPairs (joinB t prs)) prs.length) else some (.xc (.exc e_InvalidName [.str t]))
  | .sort cols => if cols.isEmpty = true then some (.xc (.exc e_InvalidColumns [.non])) else firstEnd (xcIf e_InvalidColumns (sortB cols)) cols.length
  | .cut st cnt per => if digB st = true then (match cnt with
      | some c => if digB c = true then firstEnd (xcIf e_InvalidColumns (cutB per)) per.length else some (.xc (.exc e_InvalidCount [.int c]))
      | none => firstEnd (xcIf e_InvalidColumns (cutB per)) per.length) else some (.xc (.exc e_InvalidStart [.int st]))
/-- how the making of an instance ends -/
def madeE (S : Store) (c : Nat) (flds : List PV) : Option End → Out PV
  | none => .ok .non (S ++ [.inst c flds])
  | some (.xc e) => .exc e (S ++ [.inst c []])
  | some (.rt _) => .bad
theorem inst_take {S : Store} {c : Nat} (xs : List PV) : (S ++ [SO.inst c xs]).take (S ++ [SO.inst c []]).length = S ++ [SO.inst c xs] := by
  rw [List.take_of_length_le]
  rw [List.length_append, List.length_append]; exact Nat.le_refl _
def CanKeep (C : CallF) : Prop := ∀ S t cols, okS t → okL cols → C i_Keep_init [.ref S.length, .str t, strsV cols] (S ++ [.inst k_Keep []]) = madeE S k_Keep [.str t, strsV cols] (Stp.keep t cols).err
theorem can_keep (k : Nat) : CanKeep (call GG fns (k + 3)) := fun S0 t cols ht h => by
  have hn := can_is_name (k + 1) (S0 ++ [.inst k_Keep []]) t ht
  have hf := can_full k
  have q1 := setA (G := GG) (S := S0) (c := k_Keep) (f := f_test) (xs := []) (v := .str t) rfl rfl rfl
  have q2 := setA (G := GG) (S := S0) (c := k_Keep) (f := f_columns) (xs := [.str t]) (v := strsV cols) rfl rfl (strs_pure _)
  have lf := for_enum (S := S0 ++ [.inst k_Keep []]) (body := ex GG (call GG fns (k + 2)) x_Keep_init_0) (gv := strsV cols) (g0 := strsV cols) PV.str cols (a := 3) (b := 4) (env := [some (.ref S0.length), some (.str t), some (strsV cols), none, none])
    (fun env => ∃ a b, env = [some (.ref S0.length), some (.str t), some (strsV cols), a, b]) (xcIf e_InvalidColumns (keepB cols)) ⟨_, _, rfl⟩ rfl fun j w env hj ⟨a, b, e⟩ _ => by
      subst e
      have h1 := hf (S0 ++ [.inst k_Keep []]) w (h.get hj)
      have h5 : decide ((j : Int) = 4) = decide (j = 4) := nat_eq j 4
      unfold xcIf keepB
      rw [getD_of hj]
      refine cast (congrArg (fun f => loopEnd _ (S0 ++ [SO.inst k_Keep []]) f _) (Eq.symm ?_)) (loopEnd_if (A := .xc (.exc e_InvalidColumns [.int j]) [some (.ref S0.length), some (.str t), some (strsV cols), some (.int j), some (.str w)] (S0 ++ [.inst k_Keep []])) (B := .nx [some (.ref S0.length), some (.str t), some (strsV cols), some (.int j), some (.str w)] (S0 ++ [.inst k_Keep []])) (fun _ => ⟨_, rfl⟩) fun _ => ⟨_, rfl, _, _, rfl⟩)
      simp only [x_Keep_init_0, h1, h5, strsP_nil, strsP_cons, List.foldl_cons, List.foldl_nil, empty_app, kindR, bmtKR, ↓ex_seq_skip, szR, boolsP_mapf, boolsP_map, List.all_map, List.any_map, Function.comp_def, id_eq, ev_k, ev_v, ev_xattr, ev_tup, ev_lst, ev_lstR, ev_bin, ev_cmp, ev_chain, ev_neg, ev_not, ev_and, ev_or, ev_ite, ev_call, ev_bfn, ev_listR, ev_bmt, ev_mmt, ev_isI, ev_attr, ev_idx, ev_slc, ev_rev, ev_comp, ev_compR, ev_fmt, ev_one, ev_fstr, ev_ocmp, ev_ostr, ex_ite, ex_skip, ex_seq, ex_set, ex_par, ex_setT, ex_setAttr, ex_setIdx, ex_expr, ex_for, ex_ret, ex_raise, evs_nil, evs_cons, evs_star, evs_itV, evs_itR1, evs_itR2, evs_itEnum, setTs_nil, setTs_v, setTs_ix, get0, getS, xR, xD, Bool.false_eq_true, if_false, if_true, nBok, nBex, nOpt, nTok, nTex, nFnx, nFrt, nFxc, nMap, List.append_nil, List.cons_append, List.nil_append, arrange, bindP, setMany, wipeP, List.set_cons_zero, List.set_cons_succ, List.length_cons, List.length_nil, PV.pures, PV.pure, Bool.and_self, Bool.true_and, Bool.and_true, and_self, and_true, true_and, vwR, truthR, cmpR', inR, eqS, isR, itR, stR, nilR, partR, slcR, revR, binR, bfnR, idxR, ifT_some, cond_t, cond_f, orB, andB, thnB, bindB, flB, flNx, Bool.not_true, Bool.not_false, decide_true, decide_false, Int.reduceLT]
  show _ = madeE S0 k_Keep [.str t, strsV cols] (if isNm t = true then (if cols.isEmpty = true then some (.xc (.exc e_InvalidColumns [.non])) else firstEnd (xcIf e_InvalidColumns (keepB cols)) cols.length) else some (.xc (.exc e_InvalidName [.str t])))
  cases hnm : isNm t with
  | false =>
    rw [hnm] at hn
    have e : ex GG (call GG fns (k + 2)) b_Keep_init [some (.ref S0.length), some (.str t), some (strsV cols), none, none] (S0 ++ [.inst k_Keep []]) = .xc (.exc e_InvalidName [.str t]) [some (.ref S0.length), some (.str t), some (strsV cols), none, none] (S0 ++ [.inst k_Keep []]) := by
      simp only [b_Keep_init, hn, strsP_nil, strsP_cons, List.foldl_cons, List.foldl_nil, empty_app, kindR, bmtKR, ↓ex_seq_skip, szR, boolsP_mapf, boolsP_map, List.all_map, List.any_map, Function.comp_def, id_eq, ev_k, ev_v, ev_xattr, ev_tup, ev_lst, ev_lstR, ev_bin, ev_cmp, ev_chain, ev_neg, ev_not, ev_and, ev_or, ev_ite, ev_call, ev_bfn, ev_listR, ev_bmt, ev_mmt, ev_isI, ev_attr, ev_idx, ev_slc, ev_rev, ev_comp, ev_compR, ev_fmt, ev_one, ev_fstr, ev_ocmp, ev_ostr, ex_ite, ex_skip, ex_seq, ex_set, ex_par, ex_setT, ex_setAttr, ex_setIdx, ex_expr, ex_for, ex_ret, ex_raise, evs_nil, evs_cons, evs_star, evs_itV, evs_itR1, evs_itR2, evs_itEnum, setTs_nil, setTs_v, setTs_ix, get0, getS, xR, xD, Bool.false_eq_true, if_false, if_true, nBok, nBex, nOpt, nTok, nTex, nFnx, nFrt, nFxc, nMap, List.append_nil, List.cons_append, List.nil_append, arrange, bindP, setMany, wipeP, List.set_cons_zero, List.set_cons_succ, List.length_cons, List.length_nil, PV.pures, PV.pure, Bool.and_self, Bool.true_and, Bool.and_true, and_self, and_true, true_and, vwR, truthR, cmpR', inR, eqS, isR, itR, stR, nilR, partR, slcR, revR, binR, bfnR, idxR, ifT_some, cond_t, cond_f, orB, andB, thnB, bindB, flB, flNx, Bool.not_true, Bool.not_false, decide_true, decide_false, Int.reduceLT]
    rw [call_xc fn_Keep_init rfl e rfl rfl rfl, inst_take]; rfl
  | true =>
    rw [hnm] at hn
    rw [if_pos rfl]
    cases hem : cols.isEmpty with
    | true =>
      have e : ex GG (call GG fns (k + 2)) b_Keep_init [some (.ref S0.length), some (.str t), some (strsV cols), none, none] (S0 ++ [.inst k_Keep []]) = .xc (.exc e_InvalidColumns [.non]) [some (.ref S0.length), some (.str t), some (strsV cols), none, none] (S0 ++ [.inst k_Keep []]) := by
        simp only [b_Keep_init, hn, empty_len, hem, strsP_nil, strsP_cons, List.foldl_cons, List.foldl_nil, empty_app, kindR, bmtKR, ↓ex_seq_skip, szR, boolsP_mapf, boolsP_map, List.all_map, List.any_map, Function.comp_def, id_eq, ev_k, ev_v, ev_xattr, ev_tup, ev_lst, ev_lstR, ev_bin, ev_cmp, ev_chain, ev_neg, ev_not, ev_and, ev_or, ev_ite, ev_call, ev_bfn, ev_listR, ev_bmt, ev_mmt, ev_isI, ev_attr, ev_idx, ev_slc, ev_rev, ev_comp, ev_compR, ev_fmt, ev_one, ev_fstr, ev_ocmp, ev_ostr, ex_ite, ex_skip, ex_seq, ex_set, ex_par, ex_setT, ex_setAttr, ex_setIdx, ex_expr, ex_for, ex_ret, ex_raise, evs_nil, evs_cons, evs_star, evs_itV, evs_itR1, evs_itR2, evs_itEnum, setTs_nil, setTs_v, setTs_ix, get0, getS, xR, xD, Bool.false_eq_true, if_false, if_true, nBok, nBex, nOpt, nTok, nTex, nFnx, nFrt, nFxc, nMap, List.append_nil, List.cons_append, List.nil_append, arrange, bindP, setMany, wipeP, List.set_cons_zero, List.set_cons_succ, List.length_cons, List.length_nil, PV.pures, PV.pure, Bool.and_self, Bool.true_and, Bool.and_true, and_self, and_true, true_and, vwR, truthR, cmpR', inR, eqS, isR, itR, stR, nilR, partR, slcR, revR, binR, bfnR, idxR, ifT_some, cond_t, cond_f, orB, andB, thnB, bindB, flB, flNx, Bool.not_true, Bool.not_false, decide_true, decide_false, Int.reduceLT]
      rw [call_xc fn_Keep_init rfl e rfl rfl rfl, inst_take]; rfl
    | false =>
      rw [if_neg Bool.noConfusion]
      rcases xc_cases (xcIf_xc e_InvalidColumns (keepB cols) cols.length) with g | ⟨x, g⟩
      · rw [g] at lf ⊢
        obtain ⟨_, lf, x3, x4, rfl⟩ := lf
        have e : ex GG (call GG fns (k + 2)) b_Keep_init [some (.ref S0.length), some (.str t), some (strsV cols), none, none] (S0 ++ [.inst k_Keep []]) = .nx [some (.ref S0.length), some (.str t), some (strsV cols), x3, x4] (S0 ++ [.inst k_Keep [.str t, strsV cols]]) := by
          simp only [b_Keep_init, hn, empty_len, hem, lf, q1, q2, strsP_nil, strsP_cons, List.foldl_cons, List.foldl_nil, empty_app, kindR, bmtKR, ↓ex_seq_skip, szR, boolsP_mapf, boolsP_map, List.all_map, List.any_map, Function.comp_def, id_eq, ev_k, ev_v, ev_xattr, ev_tup, ev_lst, ev_lstR, ev_bin, ev_cmp, ev_chain, ev_neg, ev_not, ev_and, ev_or, ev_ite, ev_call, ev_bfn, ev_listR, ev_bmt, ev_mmt, ev_isI, ev_attr, ev_idx, ev_slc, ev_rev, ev_comp, ev_compR, ev_fmt, ev_one, ev_fstr, ev_ocmp, ev_ostr, ex_ite, ex_skip, ex_seq, ex_set, ex_par, ex_setT, ex_setAttr, ex_setIdx, ex_expr, ex_for, ex_ret, ex_raise, evs_nil, evs_cons, evs_star, evs_itV, evs_itR1, evs_itR2, evs_itEnum, setTs_nil, setTs_v, setTs_ix, get0, getS, xR, xD, Bool.false_eq_true, if_false, if_true, nBok, nBex, nOpt, nTok, nTex, nFnx, nFrt, nFxc, nMap, List.append_nil, List.cons_append, List.nil_append, arrange, bindP, setMany, wipeP, List.set_cons_zero, List.set_cons_succ, List.length_cons, List.length_nil, PV.pures, PV.pure, Bool.and_self, Bool.true_and, Bool.and_true, and_self, and_true, true_and, vwR, truthR, cmpR', inR, eqS, isR, itR, stR, nilR, partR, slcR, revR, binR, bfnR, idxR, ifT_some, cond_t, cond_f, orB, andB, thnB, bindB, flB, flNx, Bool.not_true, Bool.not_false, decide_true, decide_false, Int.reduceLT]
        rw [call_nx fn_Keep_init rfl e rfl rfl rfl, inst_take]; rfl
      · rw [g] at lf ⊢
        obtain ⟨env2, lf⟩ := lf
        have e : ex GG (call GG fns (k + 2)) b_Keep_init [some (.ref S0.length), some (.str t), some (strsV cols), none, none] (S0 ++ [.inst k_Keep []]) = .xc x env2 (S0 ++ [.inst k_Keep []]) := by
          simp only [b_Keep_init, hn, empty_len, hem, lf, strsP_nil, strsP_cons, List.foldl_cons, List.foldl_nil, empty_app, kindR, bmtKR, ↓ex_seq_skip, szR, boolsP_mapf, boolsP_map, List.all_map, List.any_map, Function.comp_def, id_eq, ev_k, ev_v, ev_xattr, ev_tup, ev_lst, ev_lstR, ev_bin, ev_cmp, ev_chain, ev_neg, ev_not, ev_and, ev_or, ev_ite, ev_call, ev_bfn, ev_listR, ev_bmt, ev_mmt, ev_isI, ev_attr, ev_idx, ev_slc, ev_rev, ev_comp, ev_compR, ev_fmt, ev_one, ev_fstr, ev_ocmp, ev_ostr, ex_ite, ex_skip, ex_seq, ex_set, ex_par, ex_setT, ex_setAttr, ex_setIdx, ex_expr, ex_for, ex_ret, ex_raise, evs_nil, evs_cons, evs_star, evs_itV, evs_itR1, evs_itR2, evs_itEnum, setTs_nil, setTs_v, setTs_ix, get0, getS, xR, xD, Bool.false_eq_true, if_false, if_true, nBok, nBex, nOpt, nTok, nTex, nFnx, nFrt, nFxc, nMap, List.append_nil, List.cons_append, List.nil_append, arrange, bindP, setMany, wipeP, List.set_cons_zero, List.set_cons_succ, List.length_cons, List.length_nil, PV.pures, PV.pure, Bool.and_self, Bool.true_and, Bool.and_true, and_self, and_true, true_and, vwR, truthR, cmpR', inR, eqS, isR, itR, stR, nilR, partR, slcR, revR, binR, bfnR, idxR, ifT_some, cond_t, cond_f, orB, andB, thnB, bindB, flB, flNx, Bool.not_true, Bool.not_false, decide_true, decide_false, Int.reduceLT]
        rw [call_xc fn_Keep_init rfl e rfl rfl rfl, inst_take]; rfl
def CanJoin (C : CallF) : Prop := ∀ S t prs, okS t → okLL prs → C i_Join_init [.ref S.length, .str t, keysV prs] (S ++ [.inst k_Join []]) = madeE S k_Join [.str t, keysV prs] (Stp.join t prs).err
theorem can_join (k : Nat) : CanJoin (call GG fns (k + 4)) := fun S0 t prs ht h => by
  have hn := can_is_name (k + 2) (S0 ++ [.inst k_Join []]) t ht
  have hf := can_pair k
  have q1 := setA (G := GG) (S := S0) (c := k_Join) (f := f_table) (xs := []) (v := .str t) rfl rfl rfl
  have q2 := setA (G := GG) (S := S0) (c := k_Join) (f := f_pairs) (xs := [.str t]) (v := keysV prs) rfl rfl (keys_pure _)
  have lf := for_enum (S := S0 ++ [.inst k_Join []]) (body := ex GG (call GG fns (k + 3)) x_Join_init_0) (gv := keysV prs) (g0 := keysV prs) (fun k : List Str => PV.tup (k.map .str)) prs (a := 3) (b := 4) (env := [some (.ref S0.length), some (.str t), some (keysV prs), none, none])
    (fun env => ∃ a b, env = [some (.ref S0.length), some (.str t), some (keysV prs), a, b]) (xcIf e_InvalidPairs (joinB t prs)) ⟨_, _, rfl⟩ rfl fun j w env hj ⟨a, b, e⟩ _ => by
      subst e
      have h1 := hf (S0 ++ [.inst k_Join []]) t w ht (h.get hj)
      have h2 := in_keysV (S := S0 ++ [.inst k_Join []]) (h.get hj) (h.take j)
      rw [List.map_take] at h2
      have h5 : decide ((j : Int) = 4) = decide (j = 4) := nat_eq j 4
      unfold xcIf joinB
      rw [getD_of hj]
      refine cast (congrArg (fun f => loopEnd _ (S0 ++ [SO.inst k_Join []]) f _) (Eq.symm ?_)) (loopEnd_if (A := .xc (.exc e_InvalidPairs [.int j]) [some (.ref S0.length), some (.str t), some (keysV prs), some (.int j), some (strsV w)] (S0 ++ [.inst k_Join []])) (B := .nx [some (.ref S0.length), some (.str t), some (keysV prs), some (.int j), some (strsV w)] (S0 ++ [.inst k_Join []])) (fun _ => ⟨_, rfl⟩) fun _ => ⟨_, rfl, _, _, rfl⟩)
      simp only [x_Join_init_0, h1, cut_take, h2, h5, strsP_nil, strsP_cons, List.foldl_cons, List.foldl_nil, empty_app, kindR, bmtKR, ↓ex_seq_skip, szR, boolsP_mapf, boolsP_map, List.all_map, List.any_map, Function.comp_def, id_eq, ev_k, ev_v, ev_xattr, ev_tup, ev_lst, ev_lstR, ev_bin, ev_cmp, ev_chain, ev_neg, ev_not, ev_and, ev_or, ev_ite, ev_call, ev_bfn, ev_listR, ev_bmt, ev_mmt, ev_isI, ev_attr, ev_idx, ev_slc, ev_rev, ev_comp, ev_compR, ev_fmt, ev_one, ev_fstr, ev_ocmp, ev_ostr, ex_ite, ex_skip, ex_seq, ex_set, ex_par, ex_setT, ex_setAttr, ex_setIdx, ex_expr, ex_for, ex_ret, ex_raise, evs_nil, evs_cons, evs_star, evs_itV, evs_itR1, evs_itR2, evs_itEnum, setTs_nil, setTs_v, setTs_ix, get0, getS, xR, xD, Bool.false_eq_true, if_false, if_true, nBok, nBex, nOpt, nTok, nTex, nFnx, nFrt, nFxc, nMap, List.append_nil, List.cons_append, List.nil_append, arrange, bindP, setMany, wipeP, List.set_cons_zero, List.set_cons_succ, List.length_cons, List.length_nil, PV.pures, PV.pure, Bool.and_self, Bool.true_and, Bool.and_true, and_self, and_true, true_and, vwR, truthR, cmpR', inR, eqS, isR, itR, stR, nilR, partR, slcR, revR, binR, bfnR, idxR, ifT_some, cond_t, cond_f, orB, andB, thnB, bindB, flB, flNx, Bool.not_true, Bool.not_false, decide_true, decide_false, Int.reduceLT]
  show _ = madeE S0 k_Join [.str t, keysV prs] (if isNm t = true then (if prs.isEmpty = true then some (.xc (.exc e_InvalidPairs [.non])) else firstEnd (xcIf e_InvalidPairs (joinB t prs)) prs.length) else some (.xc (.exc e_InvalidName [.str t])))
  cases hnm : isNm t with
  | false =>
    rw [hnm] at hn
    have e : ex GG (call GG fns (k + 3)) b_Join_init [some (.ref S0.length), some (.str t), some (keysV prs), none, none] (S0 ++ [.inst k_Join []]) = .xc (.exc e_InvalidName [.str t]) [some (.ref S0.length), some (.str t), some (keysV prs), none, none] (S0 ++ [.inst k_Join []]) := by
      simp only [b_Join_init, hn, strsP_nil, strsP_cons, List.foldl_cons, List.foldl_nil, empty_app, kindR, bmtKR, ↓ex_seq_skip, szR, boolsP_mapf, boolsP_map, List.all_map, List.any_map, Function.comp_def, id_eq, ev_k, ev_v, ev_xattr, ev_tup, ev_lst, ev_lstR, ev_bin, ev_cmp, ev_chain, ev_neg, ev_not, ev_and, ev_or, ev_ite, ev_call, ev_bfn, ev_listR, ev_bmt, ev_mmt, ev_isI, ev_attr, ev_idx, ev_slc, ev_rev, ev_comp, ev_compR, ev_fmt, ev_one, ev_fstr, ev_ocmp, ev_ostr, ex_ite, ex_skip, ex_seq, ex_set, ex_par, ex_setT, ex_setAttr, ex_setIdx, ex_expr, ex_for, ex_ret, ex_raise, evs_nil, evs_cons, evs_star, evs_itV, evs_itR1, evs_itR2, evs_itEnum, setTs_nil, setTs_v, setTs_ix, get0, getS, xR, xD, Bool.false_eq_true, if_false, if_true, nBok, nBex, nOpt, nTok, nTex, nFnx, nFrt, nFxc, nMap, List.append_nil, List.cons_append, List.nil_append, arrange, bindP, setMany, wipeP, List.set_cons_zero, List.set_cons_succ, List.length_cons, List.length_nil, PV.pures, PV.pure, Bool.and_self, Bool.true_and, Bool.and_true, and_self, and_true, true_and, vwR, truthR, cmpR', inR, eqS, isR, itR, stR, nilR, partR, slcR, revR, binR, bfnR, idxR, ifT_some, cond_t, cond_f, orB, andB, thnB, bindB, flB, flNx, Bool.not_true, Bool.not_false, decide_true, decide_false, Int.reduceLT]
    rw [call_xc fn_Join_init rfl e rfl rfl rfl, inst_take]; rfl
  | true =>
    rw [hnm] at hn
    rw [if_pos rfl]
    cases hem : prs.isEmpty with
    | true =>
      have e : ex GG (call GG fns (k + 3)) b_Join_init [some (.ref S0.length), some (.str t), some (keysV prs), none, none] (S0 ++ [.inst k_Join []]) = .xc (.exc e_InvalidPairs [.non]) [some (.ref S0.length), some (.str t), some (keysV prs), none, none] (S0 ++ [.inst k_Join []]) := by
        simp only [b_Join_init, hn, empty_len, hem, strsP_nil, strsP_cons, List.foldl_cons, List.foldl_nil, empty_app, kindR, bmtKR, ↓ex_seq_skip, szR, boolsP_mapf, boolsP_map, List.all_map, List.any_map, Function.comp_def, id_eq, ev_k, ev_v, ev_xattr, ev_tup, ev_lst, ev_lstR, ev_bin, ev_cmp, ev_chain, ev_neg, ev_not, ev_and, ev_or, ev_ite, ev_call, ev_bfn, ev_listR, ev_bmt, ev_mmt, ev_isI, ev_attr, ev_idx, ev_slc, ev_rev, ev_comp, ev_compR, ev_fmt, ev_one, ev_fstr, ev_ocmp, ev_ostr, ex_ite, ex_skip, ex_seq, ex_set, ex_par, ex_setT, ex_setAttr, ex_setIdx, ex_expr, ex_for, ex_ret, ex_raise, evs_nil, evs_cons, evs_star, evs_itV, evs_itR1, evs_itR2, evs_itEnum, setTs_nil, setTs_v, setTs_ix, get0, getS, xR, xD, Bool.false_eq_true, if_false, if_true, nBok, nBex, nOpt, nTok, nTex, nFnx, nFrt, nFxc, nMap, List.append_nil, List.cons_append, List.nil_append, arrange, bindP, setMany, wipeP, List.set_cons_zero, List.set_cons_succ, List.length_cons, List.length_nil, PV.pures, PV.pure, Bool.and_self, Bool.true_and, Bool.and_true, and_self, and_true, true_and, vwR, truthR, cmpR', inR, eqS, isR, itR, stR, nilR, partR, slcR, revR, binR, bfnR, idxR, ifT_some, cond_t, cond_f, orB, andB, thnB, bindB, flB, flNx, Bool.not_true, Bool.not_false, decide_true, decide_false, Int.reduceLT]
      rw [call_xc fn_Join_init rfl e rfl rfl rfl, inst_take]; rfl
    | false =>
      rw [if_neg Bool.noConfusion]
      rcases xc_cases (xcIf_xc e_InvalidPairs (joinB t prs) prs.length) with g | ⟨x, g⟩
      · rw [g] at lf ⊢
        obtain ⟨_, lf, x3, x4, rfl⟩ := lf
        have e : ex GG (call GG fns (k + 3)) b_Join_init [some (.ref S0.length), some (.str t), some (keysV prs), none, none] (S0 ++ [.inst k_Join []]) = .nx [some (.ref S0.length), some (.str t), some (keysV prs), x3, x4] (S0 ++ [.inst k_Join [.str t, keysV prs]]) := by
          simp only [b_Join_init, hn, empty_len, hem, lf, q1, q2, strsP_nil, strsP_cons, List.foldl_cons, List.foldl_nil, empty_app, kindR, bmtKR, ↓ex_seq_skip, szR, boolsP_mapf, boolsP_map, List.all_map, List.any_map, Function.comp_def, id_eq, ev_k, ev_v, ev_xattr, ev_tup, ev_lst, ev_lstR, ev_bin, ev_cmp, ev_chain, ev_neg, ev_not, ev_and, ev_or, ev_ite, ev_call, ev_bfn, ev_listR, ev_bmt, ev_mmt, ev_isI, ev_attr, ev_idx, ev_slc, ev_rev, ev_comp, ev_compR, ev_fmt, ev_one, ev_fstr, ev_ocmp, ev_ostr, ex_ite, ex_skip, ex_seq, ex_set, ex_par, ex_setT, ex_setAttr, ex_setIdx, ex_expr, ex_for, ex_ret, ex_raise, evs_nil, evs_cons, evs_star, evs_itV, evs_itR1, evs_itR2, evs_itEnum, setTs_nil, setTs_v, setTs_ix, get0, getS, xR, xD, Bool.false_eq_true, if_false, if_true, nBok, nBex, nOpt, nTok, nTex, nFnx, nFrt, nFxc, nMap, List.append_nil, List.cons_append, List.nil_append, arrange, bindP, setMany, wipeP, List.set_cons_zero, List.set_cons_succ, List.length_cons, List.length_nil, PV.pures, PV.pure, Bool.and_self, Bool.true_and, Bool.and_true, and_self, and_true, true_and, vwR, truthR, cmpR', inR, eqS, isR, itR, stR, nilR, partR, slcR, revR, binR, bfnR, idxR, ifT_some, cond_t, cond_f, orB, andB, thnB, bindB, flB, flNx, Bool.not_true, Bool.not_false, decide_true, decide_false, Int.reduceLT]
        rw [call_nx fn_Join_init rfl e rfl rfl rfl, inst_take]; rfl
      · rw [g] at lf ⊢
        obtain ⟨env2, lf⟩ := lf
        have e : ex GG (call GG fns (k + 3)) b_Join_init [some (.ref S0.length), some (.str t), some (keysV prs), none, none] (S0 ++ [.inst k_Join []]) = .xc x env2 (S0 ++ [.inst k_Join []]) := by
          simp only [b_Join_init, hn, empty_len, hem, lf, strsP_nil, strsP_cons, List.foldl_cons, List.foldl_nil, empty_app, kindR, bmtKR, ↓ex_seq_skip, szR, boolsP_mapf, boolsP_map, List.all_map, List.any_map, Function.comp_def, id_eq, ev_k, ev_v, ev_xattr, ev_tup, ev_lst, ev_lstR, ev_bin, ev_cmp, ev_chain, ev_neg, ev_not, ev_and, ev_or, ev_ite, ev_call, ev_bfn, ev_listR, ev_bmt, ev_mmt, ev_isI, ev_attr, ev_idx, ev_slc, ev_rev, ev_comp, ev_compR, ev_fmt, ev_one, ev_fstr, ev_ocmp, ev_ostr, ex_ite, ex_skip, ex_seq, ex_set, ex_par, ex_setT, ex_setAttr, ex_setIdx, ex_expr, ex_for, ex_ret, ex_raise, evs_nil, evs_cons, evs_star, evs_itV, evs_itR1, evs_itR2, evs_itEnum, setTs_nil, setTs_v, setTs_ix, get0, getS, xR, xD, Bool.false_eq_true, if_false, if_true, nBok, nBex, nOpt, nTok, nTex, nFnx, nFrt, nFxc, nMap, List.append_nil, List.cons_append, List.nil_append, arrange, bindP, setMany, wipeP, List.set_cons_zero, List.set_cons_succ, List.length_cons, List.length_nil, PV.pures, PV.pure, Bool.and_self, Bool.true_and, Bool.and_true, and_self, and_true, true_and, vwR, truthR, cmpR', inR, eqS, isR, itR, stR, nilR, partR, slcR, revR, binR, bfnR, idxR, ifT_some, cond_t, cond_f, orB, andB, thnB, bindB, flB, flNx, Bool.not_true, Bool.not_false, decide_true, decide_false, Int.reduceLT]
        rw [call_xc fn_Join_init rfl e rfl rfl rfl, inst_take]; rfl
def CanSort (C : CallF) : Prop := ∀ S cols, okL cols → C i_Sort_init [.ref S.length, strsV cols] (S ++ [.inst k_Sort []]) = madeE S k_Sort [strsV cols] (Stp.sort cols).err
theorem can_sort (k : Nat) : CanSort (call GG fns (k + 3)) := fun S0 cols h => by
  have hf := can_full k
  have hb := can_bare (k + 1)
  have q1 := setA (G := GG) (S := S0) (c := k_Sort) (f := f_columns) (xs := []) (v := strsV cols) rfl rfl (strs_pure _)
  have lf := for_enum (S := S0 ++ [.inst k_Sort []]) (body := ex GG (call GG fns (k + 2)) x_Sort_init_1) (gv := strsV cols) (g0 := strsV cols) PV.str cols (a := 2) (b := 3) (env := [some (.ref S0.length), some (strsV cols), none, none, none])
    (fun env => ∃ a b, env = [some (.ref S0.length), some (strsV cols), a, b, none]) (xcIf e_InvalidColumns (sortB cols)) ⟨_, _, rfl⟩ rfl fun j w env hj ⟨a, b, e⟩ _ => by
      subst e
      have h0 := hb (S0 ++ [.inst k_Sort []]) w (h.get hj)
      have h1 := hf (S0 ++ [.inst k_Sort []]) (bare w) (bare_okS (h.get hj))
      have h5 : decide ((j : Int) = 20) = decide (j = 20) := nat_eq j 20
      have ec : compL (.v 4) (ev GG (call GG fns (k + 2)) x_Sort_init_0) (ev GG (call GG fns (k + 2)) IR.yes) (strsV (cols.take j)) (strsV (cols.take j)) [some (.ref S0.length), some (strsV cols), some (.int j), some (.str w), none] ((cols.take j).map .str) [] (S0 ++ [.inst k_Sort []]) = .ok ((cols.take j).map fun m => .str (bare m)) (S0 ++ [.inst k_Sort []]) :=
        comp_map PV.str (fun m => .str (bare m)) (cols.take j) rfl (size_ok (h.take j).le) fun i m hi => ⟨_, rfl, rfl, by
          have g := hb (S0 ++ [.inst k_Sort []]) m ((h.take j).get hi)
          simp only [x_Sort_init_0, g, strsP_nil, strsP_cons, List.foldl_cons, List.foldl_nil, empty_app, kindR, bmtKR, ↓ex_seq_skip, szR, boolsP_mapf, boolsP_map, List.all_map, List.any_map, Function.comp_def, id_eq, ev_k, ev_v, ev_xattr, ev_tup, ev_lst, ev_lstR, ev_bin, ev_cmp, ev_chain, ev_neg, ev_not, ev_and, ev_or, ev_ite, ev_call, ev_bfn, ev_listR, ev_bmt, ev_mmt, ev_isI, ev_attr, ev_idx, ev_slc, ev_rev, ev_comp, ev_compR, ev_fmt, ev_one, ev_fstr, ev_ocmp, ev_ostr, ex_ite, ex_skip, ex_seq, ex_set, ex_par, ex_setT, ex_setAttr, ex_setIdx, ex_expr, ex_for, ex_ret, ex_raise, evs_nil, evs_cons, evs_star, evs_itV, evs_itR1, evs_itR2, evs_itEnum, setTs_nil, setTs_v, setTs_ix, get0, getS, xR, xD, Bool.false_eq_true, if_false, if_true, nBok, nBex, nOpt, nTok, nTex, nFnx, nFrt, nFxc, nMap, List.append_nil, List.cons_append, List.nil_append, arrange, bindP, setMany, wipeP, List.set_cons_zero, List.set_cons_succ, List.length_cons, List.length_nil, PV.pures, PV.pure, Bool.and_self, Bool.true_and, Bool.and_true, and_self, and_true, true_and, vwR, truthR, cmpR', inR, eqS, isR, itR, stR, nilR, partR, slcR, revR, binR, bfnR, idxR, ifT_some, cond_t, cond_f, orB, andB, thnB, bindB, flB, flNx, Bool.not_true, Bool.not_false, decide_true, decide_false, Int.reduceLT]⟩
      rw [show strsV (cols.take j) = .tup ((cols.map .str).take j) by rw [← List.map_take], List.map_take] at ec
      have hin : inD (S0 ++ [.inst k_Sort []]) (.str (bare w)) (.lst ((cols.take j).map fun m => .str (bare m))) = some (decide (bare w ∈ (cols.take j).map bare)) := by
        have := in_strsL (S := S0 ++ [.inst k_Sort []]) (w := bare w) (ws := (cols.take j).map bare) (bare_okS (h.get hj)) ⟨by rw [List.length_map]; exact (h.take j).le, fun x hx => by
          obtain ⟨y, hy, rfl⟩ := List.mem_map.mp hx
          exact bare_okS ((h.take j).ok y hy)⟩
        rw [List.map_map] at this
        exact this
      unfold xcIf sortB
      rw [getD_of hj]
      refine cast (congrArg (fun f => loopEnd _ (S0 ++ [SO.inst k_Sort []]) f _) (Eq.symm ?_)) (loopEnd_if (A := .xc (.exc e_InvalidColumns [.int j]) [some (.ref S0.length), some (strsV cols), some (.int j), some (.str w), none] (S0 ++ [.inst k_Sort []])) (B := .nx [some (.ref S0.length), some (strsV cols), some (.int j), some (.str w), none] (S0 ++ [.inst k_Sort []])) (fun _ => ⟨_, rfl⟩) fun _ => ⟨_, rfl, _, _, rfl⟩)
      rw [List.map_take] at ec
      rw [List.map_take] at hin
      simp only [x_Sort_init_1, h0, h1, cut_take, ec, hin, h5, strsP_nil, strsP_cons, List.foldl_cons, List.foldl_nil, empty_app, kindR, bmtKR, ↓ex_seq_skip, szR, boolsP_mapf, boolsP_map, List.all_map, List.any_map, Function.comp_def, id_eq, ev_k, ev_v, ev_xattr, ev_tup, ev_lst, ev_lstR, ev_bin, ev_cmp, ev_chain, ev_neg, ev_not, ev_and, ev_or, ev_ite, ev_call, ev_bfn, ev_listR, ev_bmt, ev_mmt, ev_isI, ev_attr, ev_idx, ev_slc, ev_rev, ev_comp, ev_compR, ev_fmt, ev_one, ev_fstr, ev_ocmp, ev_ostr, ex_ite, ex_skip, ex_seq, ex_set, ex_par, ex_setT, ex_setAttr, ex_setIdx, ex_expr, ex_for, ex_ret, ex_raise, evs_nil, evs_cons, evs_star, evs_itV, evs_itR1, evs_itR2, evs_itEnum, setTs_nil, setTs_v, setTs_ix, get0, getS, xR, xD, Bool.false_eq_true, if_false, if_true, nBok, nBex, nOpt, nTok, nTex, nFnx, nFrt, nFxc, nMap, List.append_nil, List.cons_append, List.nil_append, arrange, bindP, setMany, wipeP, List.set_cons_zero, List.set_cons_succ, List.length_cons, List.length_nil, PV.pures, PV.pure, Bool.and_self, Bool.true_and, Bool.and_true, and_self, and_true, true_and, vwR, truthR, cmpR', inR, eqS, isR, itR, stR, nilR, partR, slcR, revR, binR, bfnR, idxR, ifT_some, cond_t, cond_f, orB, andB, thnB, bindB, flB, flNx, Bool.not_true, Bool.not_false, decide_true, decide_false, Int.reduceLT]
      cases (decide (j = 20) || !isFullB (bare w)) <;> rfl
  show _ = madeE S0 k_Sort [strsV cols] (if cols.isEmpty = true then some (.xc (.exc e_InvalidColumns [.non])) else firstEnd (xcIf e_InvalidColumns (sortB cols)) cols.length)
  cases hem : cols.isEmpty with
  | true =>
    have e : ex GG (call GG fns (k + 2)) b_Sort_init [some (.ref S0.length), some (strsV cols), none, none, none] (S0 ++ [.inst k_Sort []]) = .xc (.exc e_InvalidColumns [.non]) [some (.ref S0.length), some (strsV cols), none, none, none] (S0 ++ [.inst k_Sort []]) := by
      simp only [b_Sort_init, empty_len, hem, strsP_nil, strsP_cons, List.foldl_cons, List.foldl_nil, empty_app, kindR, bmtKR, ↓ex_seq_skip, szR, boolsP_mapf, boolsP_map, List.all_map, List.any_map, Function.comp_def, id_eq, ev_k, ev_v, ev_xattr, ev_tup, ev_lst, ev_lstR, ev_bin, ev_cmp, ev_chain, ev_neg, ev_not, ev_and, ev_or, ev_ite, ev_call, ev_bfn, ev_listR, ev_bmt, ev_mmt, ev_isI, ev_attr, ev_idx, ev_slc, ev_rev, ev_comp, ev_compR, ev_fmt, ev_one, ev_fstr, ev_ocmp, ev_ostr, ex_ite, ex_skip, ex_seq, ex_set, ex_par, ex_setT, ex_setAttr, ex_setIdx, ex_expr, ex_for, ex_ret, ex_raise, evs_nil, evs_cons, evs_star, evs_itV, evs_itR1, evs_itR2, evs_itEnum, setTs_nil, setTs_v, setTs_ix, get0, getS, xR, xD, Bool.false_eq_true, if_false, if_true, nBok, nBex, nOpt, nTok, nTex, nFnx, nFrt, nFxc, nMap, List.append_nil, List.cons_append, List.nil_append, arrange, bindP, setMany, wipeP, List.set_cons_zero, List.set_cons_succ, List.length_cons, List.length_nil, PV.pures, PV.pure, Bool.and_self, Bool.true_and, Bool.and_true, and_self, and_true, true_and, vwR, truthR, cmpR', inR, eqS, isR, itR, stR, nilR, partR, slcR, revR, binR, bfnR, idxR, ifT_some, cond_t, cond_f, orB, andB, thnB, bindB, flB, flNx, Bool.not_true, Bool.not_false, decide_true, decide_false, Int.reduceLT]
    rw [call_xc fn_Sort_init rfl e rfl rfl rfl, inst_take]; rfl
  | false =>
    rw [if_neg Bool.noConfusion]
    rcases xc_cases (xcIf_xc e_InvalidColumns (sortB cols) cols.length) with g | ⟨x, g⟩
    · rw [g] at lf ⊢
      obtain ⟨_, lf, x3, x4, rfl⟩ := lf
      have e : ex GG (call GG fns (k + 2)) b_Sort_init [some (.ref S0.length), some (strsV cols), none, none, none] (S0 ++ [.inst k_Sort []]) = .nx [some (.ref S0.length), some (strsV cols), x3, x4, none] (S0 ++ [.inst k_Sort [strsV cols]]) := by
        simp only [b_Sort_init, empty_len, hem, lf, q1, strsP_nil, strsP_cons, List.foldl_cons, List.foldl_nil, empty_app, kindR, bmtKR, ↓ex_seq_skip, szR, boolsP_mapf, boolsP_map, List.all_map, List.any_map, Function.comp_def, id_eq, ev_k, ev_v, ev_xattr, ev_tup, ev_lst, ev_lstR, ev_bin, ev_cmp, ev_chain, ev_neg, ev_not, ev_and, ev_or, ev_ite, ev_call, ev_bfn, ev_listR, ev_bmt, ev_mmt, ev_isI, ev_attr, ev_idx, ev_slc, ev_rev, ev_comp, ev_compR, ev_fmt, ev_one, ev_fstr, ev_ocmp, ev_ostr, ex_ite, ex_skip, ex_seq, ex_set, ex_par, ex_setT, ex_setAttr, ex_setIdx, ex_expr, ex_for, ex_ret, ex_raise, evs_nil, evs_cons, evs_star, evs_itV, evs_itR1, evs_itR2, evs_itEnum, setTs_nil, setTs_v, setTs_ix, get0, getS, xR, xD, Bool.false_eq_true, if_false, if_true, nBok, nBex, nOpt, nTok, nTex, nFnx, nFrt, nFxc, nMap, List.append_nil, List.cons_append, List.nil_append, arrange, bindP, setMany, wipeP, List.set_cons_zero, List.set_cons_succ, List.length_cons, List.length_nil, PV.pures, PV.pure, Bool.and_self, Bool.true_and, Bool.and_true, and_self, and_true, true_and, vwR, truthR, cmpR', inR, eqS, isR, itR, stR, nilR, partR, slcR, revR, binR, bfnR, idxR, ifT_some, cond_t, cond_f, orB, andB, thnB, bindB, flB, flNx, Bool.not_true, Bool.not_false, decide_true, decide_false, Int.reduceLT]
      rw [call_nx fn_Sort_init rfl e rfl rfl rfl, inst_take]; rfl
    · rw [g] at lf ⊢
      obtain ⟨env2, lf⟩ := lf
      have e : ex GG (call GG fns (k + 2)) b_Sort_init [some (.ref S0.length), some (strsV cols), none, none, none] (S0 ++ [.inst k_Sort []]) = .xc x env2 (S0 ++ [.inst k_Sort []]) := by
        simp only [b_Sort_init, empty_len, hem, lf, strsP_nil, strsP_cons, List.foldl_cons, List.foldl_nil, empty_app, kindR, bmtKR, ↓ex_seq_skip, szR, boolsP_mapf, boolsP_map, List.all_map, List.any_map, Function.comp_def, id_eq, ev_k, ev_v, ev_xattr, ev_tup, ev_lst, ev_lstR, ev_bin, ev_cmp, ev_chain, ev_neg, ev_not, ev_and, ev_or, ev_ite, ev_call, ev_bfn, ev_listR, ev_bmt, ev_mmt, ev_isI, ev_attr, ev_idx, ev_slc, ev_rev, ev_comp, ev_compR, ev_fmt, ev_one, ev_fstr, ev_ocmp, ev_ostr, ex_ite, ex_skip, ex_seq, ex_set, ex_par, ex_setT, ex_setAttr, ex_setIdx, ex_expr, ex_for, ex_ret, ex_raise, evs_nil, evs_cons, evs_star, evs_itV, evs_itR1, evs_itR2, evs_itEnum, setTs_nil, setTs_v, setTs_ix, get0, getS, xR, xD, Bool.false_eq_true, if_false, if_true, nBok, nBex, nOpt, nTok, nTex, nFnx, nFrt, nFxc, nMap, List.append_nil, List.cons_append, List.nil_append, arrange, bindP, setMany, wipeP, List.set_cons_zero, List.set_cons_succ, List.length_cons, List.length_nil, PV.pures, PV.pure, Bool.and_self, Bool.true_and, Bool.and_true, and_self, and_true, true_and, vwR, truthR, cmpR', inR, eqS, isR, itR, stR, nilR, partR, slcR, revR, binR, bfnR, idxR, ifT_some, cond_t, cond_f, orB, andB, thnB, bindB, flB, flNx, Bool.not_true, Bool.not_false, decide_true, decide_false, Int.reduceLT]
      rw [call_xc fn_Sort_init rfl e rfl rfl rfl, inst_take]; rfl
end RF.K
namespace RF.K
open RF PySem
def CanCut (C : CallF) : Prop := ∀ S st cnt per, okL per → C i_Cut_init [.ref S.length, .int st, cntV cnt, strsV per] (S ++ [.inst k_Cut []]) = madeE S k_Cut [.int st, cntV cnt, strsV per] (Stp.cut st cnt per).err
theorem isn_cnt (S : Store) : cmpV S .isn (cntV none) .non = some false ∧ (∀ c, cmpV S .isn (cntV (some c)) .non = some true) ∧ cmpV S .is (cntV none) .non = some true ∧ (∀ c, cmpV S .is (cntV (some c)) .non = some false) := ⟨rfl, fun _ => rfl, rfl, fun _ => rfl⟩
theorem cnt_x (c : Option Int) : (cntV c).isExc = false := by cases c <;> rfl
theorem dig_cnt {C : CallF} (h : CanDigit C) (S : Store) (c : Int) : C i_is_digit [cntV (some c)] S = .ok (.bl (digB c)) S := h S c
theorem can_cut (k : Nat) : CanCut (call GG fns (k + 3)) := fun S0 st cnt per h => by
  have hf := can_full k
  have d1 := can_digit k (S0 ++ [.inst k_Cut []]) st
  have q1 := setA (G := GG) (S := S0) (c := k_Cut) (f := f_start) (xs := []) (v := .int st) rfl rfl rfl
  have q2 := setA (G := GG) (S := S0) (c := k_Cut) (f := f_count) (xs := [.int st]) (v := cntV cnt) rfl rfl (Enc.oint.pure cnt)
  have q3 := setA (G := GG) (S := S0) (c := k_Cut) (f := f_per) (xs := [.int st, cntV cnt]) (v := strsV per) rfl rfl (strs_pure _)
  have lf := for_enum (S := S0 ++ [.inst k_Cut []]) (body := ex GG (call GG fns (k + 2)) x_Cut_init_0) (gv := strsV per) (g0 := strsV per) PV.str per (a := 4) (b := 5) (env := [some (.ref S0.length), some (.int st), some (cntV cnt), some (strsV per), none, none])
    (fun env => ∃ a b, env = [some (.ref S0.length), some (.int st), some (cntV cnt), some (strsV per), a, b]) (xcIf e_InvalidColumns (cutB per)) ⟨_, _, rfl⟩ rfl fun j w env hj ⟨a, b, e⟩ _ => by
      subst e
      have h1 := hf (S0 ++ [.inst k_Cut []]) w (h.get hj)
      have h2 := in_strsV (S := S0 ++ [.inst k_Cut []]) (h.get hj) (h.take j)
      rw [List.map_take] at h2
      have h5 : decide ((j : Int) = 4) = decide (j = 4) := nat_eq j 4
      unfold xcIf cutB
      rw [getD_of hj]
      refine cast (congrArg (fun f => loopEnd _ (S0 ++ [SO.inst k_Cut []]) f _) (Eq.symm ?_)) (loopEnd_if (A := .xc (.exc e_InvalidColumns [.int j]) [some (.ref S0.length), some (.int st), some (cntV cnt), some (strsV per), some (.int j), some (.str w)] (S0 ++ [.inst k_Cut []])) (B := .nx [some (.ref S0.length), some (.int st), some (cntV cnt), some (strsV per), some (.int j), some (.str w)] (S0 ++ [.inst k_Cut []])) (fun _ => ⟨_, rfl⟩) fun _ => ⟨_, rfl, _, _, rfl⟩)
      simp only [x_Cut_init_0, h1, cut_take, h2, h5, strsP_nil, strsP_cons, List.foldl_cons, List.foldl_nil, empty_app, kindR, bmtKR, ↓ex_seq_skip, szR, boolsP_mapf, boolsP_map, List.all_map, List.any_map, Function.comp_def, id_eq, ev_k, ev_v, ev_xattr, ev_tup, ev_lst, ev_lstR, ev_bin, ev_cmp, ev_chain, ev_neg, ev_not, ev_and, ev_or, ev_ite, ev_call, ev_bfn, ev_listR, ev_bmt, ev_mmt, ev_isI, ev_attr, ev_idx, ev_slc, ev_rev, ev_comp, ev_compR, ev_fmt, ev_one, ev_fstr, ev_ocmp, ev_ostr, ex_ite, ex_skip, ex_seq, ex_set, ex_par, ex_setT, ex_setAttr, ex_setIdx, ex_expr, ex_for, ex_ret, ex_raise, evs_nil, evs_cons, evs_star, evs_itV, evs_itR1, evs_itR2, evs_itEnum, setTs_nil, setTs_v, setTs_ix, get0, getS, xR, xD, Bool.false_eq_true, if_false, if_true, nBok, nBex, nOpt, nTok, nTex, nFnx, nFrt, nFxc, nMap, List.append_nil, List.cons_append, List.nil_append, arrange, bindP, setMany, wipeP, List.set_cons_zero, List.set_cons_succ, List.length_cons, List.length_nil, PV.pures, PV.pure, Bool.and_self, Bool.true_and, Bool.and_true, and_self, and_true, true_and, vwR, truthR, cmpR', inR, eqS, isR, itR, stR, nilR, partR, slcR, revR, binR, bfnR, idxR, ifT_some, cond_t, cond_f, orB, andB, thnB, bindB, flB, flNx, Bool.not_true, Bool.not_false, decide_true, decide_false, Int.reduceLT]
  have fin : ∀ (hcnt : ∀ c, cnt = some c → digB c = true) (hst : digB st = true), call GG fns (k + 3) i_Cut_init [.ref S0.length, .int st, cntV cnt, strsV per] (S0 ++ [.inst k_Cut []]) = madeE S0 k_Cut [.int st, cntV cnt, strsV per] (firstEnd (xcIf e_InvalidColumns (cutB per)) per.length) := fun hcnt hst => by
    rw [hst] at d1
    rcases xc_cases (xcIf_xc e_InvalidColumns (cutB per) per.length) with g | ⟨x, g⟩
    · rw [g] at lf ⊢
      obtain ⟨_, lf, x3, x4, rfl⟩ := lf
      have e : ex GG (call GG fns (k + 2)) b_Cut_init [some (.ref S0.length), some (.int st), some (cntV cnt), some (strsV per), none, none] (S0 ++ [.inst k_Cut []]) = .nx [some (.ref S0.length), some (.int st), some (cntV cnt), some (strsV per), x3, x4] (S0 ++ [.inst k_Cut [.int st, cntV cnt, strsV per]]) := by
        cases cnt with
        | none => simp only [b_Cut_init, d1, cnt_x, isn_cnt, lf, q1, q2, q3, strsP_nil, strsP_cons, List.foldl_cons, List.foldl_nil, empty_app, kindR, bmtKR, ↓ex_seq_skip, szR, boolsP_mapf, boolsP_map, List.all_map, List.any_map, Function.comp_def, id_eq, ev_k, ev_v, ev_xattr, ev_tup, ev_lst, ev_lstR, ev_bin, ev_cmp, ev_chain, ev_neg, ev_not, ev_and, ev_or, ev_ite, ev_call, ev_bfn, ev_listR, ev_bmt, ev_mmt, ev_isI, ev_attr, ev_idx, ev_slc, ev_rev, ev_comp, ev_compR, ev_fmt, ev_one, ev_fstr, ev_ocmp, ev_ostr, ex_ite, ex_skip, ex_seq, ex_set, ex_par, ex_setT, ex_setAttr, ex_setIdx, ex_expr, ex_for, ex_ret, ex_raise, evs_nil, evs_cons, evs_star, evs_itV, evs_itR1, evs_itR2, evs_itEnum, setTs_nil, setTs_v, setTs_ix, get0, getS, xR, xD, Bool.false_eq_true, if_false, if_true, nBok, nBex, nOpt, nTok, nTex, nFnx, nFrt, nFxc, nMap, List.append_nil, List.cons_append, List.nil_append, arrange, bindP, setMany, wipeP, List.set_cons_zero, List.set_cons_succ, List.length_cons, List.length_nil, PV.pures, PV.pure, Bool.and_self, Bool.true_and, Bool.and_true, and_self, and_true, true_and, vwR, truthR, cmpR', inR, eqS, isR, itR, stR, nilR, partR, slcR, revR, binR, bfnR, idxR, ifT_some, cond_t, cond_f, orB, andB, thnB, bindB, flB, flNx, Bool.not_true, Bool.not_false, decide_true, decide_false, Int.reduceLT]
        | some c =>
          have d2 : call GG fns (k + 2) i_is_digit [cntV (some c)] (S0 ++ [SO.inst k_Cut []]) = .ok (.bl (digB c)) (S0 ++ [SO.inst k_Cut []]) := dig_cnt (can_digit k) _ c
          rw [hcnt c rfl] at d2
          simp only [b_Cut_init, d1, d2, cnt_x, isn_cnt, lf, q1, q2, q3, strsP_nil, strsP_cons, List.foldl_cons, List.foldl_nil, empty_app, kindR, bmtKR, ↓ex_seq_skip, szR, boolsP_mapf, boolsP_map, List.all_map, List.any_map, Function.comp_def, id_eq, ev_k, ev_v, ev_xattr, ev_tup, ev_lst, ev_lstR, ev_bin, ev_cmp, ev_chain, ev_neg, ev_not, ev_and, ev_or, ev_ite, ev_call, ev_bfn, ev_listR, ev_bmt, ev_mmt, ev_isI, ev_attr, ev_idx, ev_slc, ev_rev, ev_comp, ev_compR, ev_fmt, ev_one, ev_fstr, ev_ocmp, ev_ostr, ex_ite, ex_skip, ex_seq, ex_set, ex_par, ex_setT, ex_setAttr, ex_setIdx, ex_expr, ex_for, ex_ret, ex_raise, evs_nil, evs_cons, evs_star, evs_itV, evs_itR1, evs_itR2, evs_itEnum, setTs_nil, setTs_v, setTs_ix, get0, getS, xR, xD, Bool.false_eq_true, if_false, if_true, nBok, nBex, nOpt, nTok, nTex, nFnx, nFrt, nFxc, nMap, List.append_nil, List.cons_append, List.nil_append, arrange, bindP, setMany, wipeP, List.set_cons_zero, List.set_cons_succ, List.length_cons, List.length_nil, PV.pures, PV.pure, Bool.and_self, Bool.true_and, Bool.and_true, and_self, and_true, true_and, vwR, truthR, cmpR', inR, eqS, isR, itR, stR, nilR, partR, slcR, revR, binR, bfnR, idxR, ifT_some, cond_t, cond_f, orB, andB, thnB, bindB, flB, flNx, Bool.not_true, Bool.not_false, decide_true, decide_false, Int.reduceLT]
      rw [call_nx fn_Cut_init rfl e rfl rfl rfl, inst_take]; rfl
    · rw [g] at lf ⊢
      obtain ⟨env2, lf⟩ := lf
      have e : ex GG (call GG fns (k + 2)) b_Cut_init [some (.ref S0.length), some (.int st), some (cntV cnt), some (strsV per), none, none] (S0 ++ [.inst k_Cut []]) = .xc x env2 (S0 ++ [.inst k_Cut []]) := by
        cases cnt with
        | none => simp only [b_Cut_init, d1, cnt_x, isn_cnt, lf, strsP_nil, strsP_cons, List.foldl_cons, List.foldl_nil, empty_app, kindR, bmtKR, ↓ex_seq_skip, szR, boolsP_mapf, boolsP_map, List.all_map, List.any_map, Function.comp_def, id_eq, ev_k, ev_v, ev_xattr, ev_tup, ev_lst, ev_lstR, ev_bin, ev_cmp, ev_chain, ev_neg, ev_not, ev_and, ev_or, ev_ite, ev_call, ev_bfn, ev_listR, ev_bmt, ev_mmt, ev_isI, ev_attr, ev_idx, ev_slc, ev_rev, ev_comp, ev_compR, ev_fmt, ev_one, ev_fstr, ev_ocmp, ev_ostr, ex_ite, ex_skip, ex_seq, ex_set, ex_par, ex_setT, ex_setAttr, ex_setIdx, ex_expr, ex_for, ex_ret, ex_raise, evs_nil, evs_cons, evs_star, evs_itV, evs_itR1, evs_itR2, evs_itEnum, setTs_nil, setTs_v, setTs_ix, get0, getS, xR, xD, Bool.false_eq_true, if_false, if_true, nBok, nBex, nOpt, nTok, nTex, nFnx, nFrt, nFxc, nMap, List.append_nil, List.cons_append, List.nil_append, arrange, bindP, setMany, wipeP, List.set_cons_zero, List.set_cons_succ, List.length_cons, List.length_nil, PV.pures, PV.pure, Bool.and_self, Bool.true_and, Bool.and_true, and_self, and_true, true_and, vwR, truthR, cmpR', inR, eqS, isR, itR, stR, nilR, partR, slcR, revR, binR, bfnR, idxR, ifT_some, cond_t, cond_f, orB, andB, thnB, bindB, flB, flNx, Bool.not_true, Bool.not_false, decide_true, decide_false, Int.reduceLT]
        | some c =>
          have d2 : call GG fns (k + 2) i_is_digit [cntV (some c)] (S0 ++ [SO.inst k_Cut []]) = .ok (.bl (digB c)) (S0 ++ [SO.inst k_Cut []]) := dig_cnt (can_digit k) _ c
          rw [hcnt c rfl] at d2
          simp only [b_Cut_init, d1, d2, cnt_x, isn_cnt, lf, strsP_nil, strsP_cons, List.foldl_cons, List.foldl_nil, empty_app, kindR, bmtKR, ↓ex_seq_skip, szR, boolsP_mapf, boolsP_map, List.all_map, List.any_map, Function.comp_def, id_eq, ev_k, ev_v, ev_xattr, ev_tup, ev_lst, ev_lstR, ev_bin, ev_cmp, ev_chain, ev_neg, ev_not, ev_and, ev_or, ev_ite, ev_call, ev_bfn, ev_listR, ev_bmt, ev_mmt, ev_isI, ev_attr, ev_idx, ev_slc, ev_rev, ev_comp, ev_compR, ev_fmt, ev_one, ev_fstr, ev_ocmp, ev_ostr, ex_ite, ex_skip, ex_seq, ex_set, ex_par, ex_setT, ex_setAttr, ex_setIdx, ex_expr, ex_for, ex_ret, ex_raise, evs_nil, evs_cons, evs_star, evs_itV, evs_itR1, evs_itR2, evs_itEnum, setTs_nil, setTs_v, setTs_ix, get0, getS, xR, xD, Bool.false_eq_true, if_false, if_true, nBok, nBex, nOpt, nTok, nTex, nFnx, nFrt, nFxc, nMap, List.append_nil, List.cons_append, List.nil_append, arrange, bindP, setMany, wipeP, List.set_cons_zero, List.set_cons_succ, List.length_cons, List.length_nil, PV.pures, PV.pure, Bool.and_self, Bool.true_and, Bool.and_true, and_self, and_true, true_and, vwR, truthR, cmpR', inR, eqS, isR, itR, stR, nilR, partR, slcR, revR, binR, bfnR, idxR, ifT_some, cond_t, cond_f, orB, andB, thnB, bindB, flB, flNx, Bool.not_true, Bool.not_false, decide_true, decide_false, Int.reduceLT]
      rw [call_xc fn_Cut_init rfl e rfl rfl rfl, inst_take]; rfl
  have bad1 : digB st = false → call GG fns (k + 3) i_Cut_init [.ref S0.length, .int st, cntV cnt, strsV per] (S0 ++ [.inst k_Cut []]) = .exc (.exc e_InvalidStart [.int st]) (S0 ++ [.inst k_Cut []]) := fun hst => by
    rw [hst] at d1
    have e : ex GG (call GG fns (k + 2)) b_Cut_init [some (.ref S0.length), some (.int st), some (cntV cnt), some (strsV per), none, none] (S0 ++ [.inst k_Cut []]) = .xc (.exc e_InvalidStart [.int st]) [some (.ref S0.length), some (.int st), some (cntV cnt), some (strsV per), none, none] (S0 ++ [.inst k_Cut []]) := by
      simp only [b_Cut_init, d1, strsP_nil, strsP_cons, List.foldl_cons, List.foldl_nil, empty_app, kindR, bmtKR, ↓ex_seq_skip, szR, boolsP_mapf, boolsP_map, List.all_map, List.any_map, Function.comp_def, id_eq, ev_k, ev_v, ev_xattr, ev_tup, ev_lst, ev_lstR, ev_bin, ev_cmp, ev_chain, ev_neg, ev_not, ev_and, ev_or, ev_ite, ev_call, ev_bfn, ev_listR, ev_bmt, ev_mmt, ev_isI, ev_attr, ev_idx, ev_slc, ev_rev, ev_comp, ev_compR, ev_fmt, ev_one, ev_fstr, ev_ocmp, ev_ostr, ex_ite, ex_skip, ex_seq, ex_set, ex_par, ex_setT, ex_setAttr, ex_setIdx, ex_expr, ex_for, ex_ret, ex_raise, evs_nil, evs_cons, evs_star, evs_itV, evs_itR1, evs_itR2, evs_itEnum, setTs_nil, setTs_v, setTs_ix, get0, getS, xR, xD, Bool.false_eq_true, if_false, if_true, nBok, nBex, nOpt, nTok, nTex, nFnx, nFrt, nFxc, nMap, List.append_nil, List.cons_append, List.nil_append, arrange, bindP, setMany, wipeP, List.set_cons_zero, List.set_cons_succ, List.length_cons, List.length_nil, PV.pures, PV.pure, Bool.and_self, Bool.true_and, Bool.and_true, and_self, and_true, true_and, vwR, truthR, cmpR', inR, eqS, isR, itR, stR, nilR, partR, slcR, revR, binR, bfnR, idxR, ifT_some, cond_t, cond_f, orB, andB, thnB, bindB, flB, flNx, Bool.not_true, Bool.not_false, decide_true, decide_false, Int.reduceLT]
    rw [call_xc fn_Cut_init rfl e rfl rfl rfl, inst_take]
  have bad2 : ∀ c, digB st = true → cnt = some c → digB c = false → call GG fns (k + 3) i_Cut_init [.ref S0.length, .int st, cntV cnt, strsV per] (S0 ++ [.inst k_Cut []]) = .exc (.exc e_InvalidCount [cntV cnt]) (S0 ++ [.inst k_Cut []]) := fun c hst hcc hc => by
    subst hcc
    rw [hst] at d1
    have d2 := dig_cnt (can_digit k) (S0 ++ [SO.inst k_Cut []]) c
    rw [hc] at d2
    have hp : (cntV (some c)).pure = true := Enc.oint.pure _
    have e : ex GG (call GG fns (k + 2)) b_Cut_init [some (.ref S0.length), some (.int st), some (cntV (some c)), some (strsV per), none, none] (S0 ++ [.inst k_Cut []]) = .xc (.exc e_InvalidCount [cntV (some c)]) [some (.ref S0.length), some (.int st), some (cntV (some c)), some (strsV per), none, none] (S0 ++ [.inst k_Cut []]) := by
      simp only [b_Cut_init, d1, d2, cnt_x, isn_cnt, hp, strsP_nil, strsP_cons, List.foldl_cons, List.foldl_nil, empty_app, kindR, bmtKR, ↓ex_seq_skip, szR, boolsP_mapf, boolsP_map, List.all_map, List.any_map, Function.comp_def, id_eq, ev_k, ev_v, ev_xattr, ev_tup, ev_lst, ev_lstR, ev_bin, ev_cmp, ev_chain, ev_neg, ev_not, ev_and, ev_or, ev_ite, ev_call, ev_bfn, ev_listR, ev_bmt, ev_mmt, ev_isI, ev_attr, ev_idx, ev_slc, ev_rev, ev_comp, ev_compR, ev_fmt, ev_one, ev_fstr, ev_ocmp, ev_ostr, ex_ite, ex_skip, ex_seq, ex_set, ex_par, ex_setT, ex_setAttr, ex_setIdx, ex_expr, ex_for, ex_ret, ex_raise, evs_nil, evs_cons, evs_star, evs_itV, evs_itR1, evs_itR2, evs_itEnum, setTs_nil, setTs_v, setTs_ix, get0, getS, xR, xD, Bool.false_eq_true, if_false, if_true, nBok, nBex, nOpt, nTok, nTex, nFnx, nFrt, nFxc, nMap, List.append_nil, List.cons_append, List.nil_append, arrange, bindP, setMany, wipeP, List.set_cons_zero, List.set_cons_succ, List.length_cons, List.length_nil, PV.pures, PV.pure, Bool.and_self, Bool.true_and, Bool.and_true, and_self, and_true, true_and, vwR, truthR, cmpR', inR, eqS, isR, itR, stR, nilR, partR, slcR, revR, binR, bfnR, idxR, ifT_some, cond_t, cond_f, orB, andB, thnB, bindB, flB, flNx, Bool.not_true, Bool.not_false, decide_true, decide_false, Int.reduceLT]
    rw [call_xc fn_Cut_init rfl e rfl rfl rfl, inst_take]
  by_cases hst : digB st = true
  · cases hcn : cnt with
    | none =>
      have e1 : (Stp.cut st none per).err = firstEnd (xcIf e_InvalidColumns (cutB per)) per.length := by
        show (if digB st = true then _ else _) = _
        rw [if_pos hst]
      rw [e1]
      have := fin (fun _ h => (by rw [hcn] at h; cases h)) hst
      rw [hcn] at this
      exact this
    | some c =>
      cases hc : digB c with
      | true =>
        have e1 : (Stp.cut st (some c) per).err = firstEnd (xcIf e_InvalidColumns (cutB per)) per.length := by
          show (if digB st = true then (if digB c = true then _ else _) else _) = _
          rw [if_pos hst, if_pos hc]
        rw [e1]
        have := fin (fun d h => (by rw [hcn] at h; cases h; exact hc)) hst
        rw [hcn] at this
        exact this
      | false =>
        have e1 : (Stp.cut st (some c) per).err = some (.xc (.exc e_InvalidCount [.int c])) := by
          show (if digB st = true then (if digB c = true then _ else _) else _) = _
          rw [if_pos hst, hc, if_neg Bool.noConfusion]
        rw [e1]
        have := bad2 c hst hcn hc
        rw [hcn] at this
        exact this
  · have e1 : (Stp.cut st cnt per).err = some (.xc (.exc e_InvalidStart [.int st])) := by
      show (if digB st = true then _ else _) = _
      rw [if_neg hst]
    rw [e1]
    exact bad1 (Bool.eq_false_iff.mpr hst)
end RF.K
namespace RF.K
open RF PySem
/-! steps that are right: what is known of their texts; equality -/
theorem nm_le {w : Str} (h : isNm w = true) : w.length ≤ 8 := by
  obtain ⟨c, cs, e, _, _, hl⟩ := isNm_ok h
  show w.cps.size ≤ 8
  rw [← Array.length_toList, e, List.length_cons]; omega
theorem full_eq {w a b : Str} (h : Txt.split w "." = [a, b]) : w = a ++ "." ++ b := by
  have := StrLaws.join_split w "."
  rw [h] at this
  exact this.symm
theorem full_parts {w : Str} (h : isFullB w = true) : ∃ a b, w = a ++ "." ++ b ∧ isNm a = true ∧ isNm b = true ∧ tabOf w = a := by
  obtain ⟨a, b, e, ha, hb, t⟩ := full_two h
  exact ⟨a, b, full_eq e, ha, hb, t⟩
theorem full_le {w : Str} (h : isFullB w = true) : w.length ≤ 17 := by
  obtain ⟨a, b, rfl, ha, hb, _⟩ := full_parts h
  rw [strLen_append, strLen_append]
  have := nm_le ha
  have := nm_le hb
  have : (("." : Str)).length = 1 := by decide +kernel
  omega
theorem no_dot {w : Str} (h : isNm w = true) : 46 ∉ w.cps.toList := fun hm => by
  obtain ⟨c, cs, e, _, h2, _⟩ := isNm_ok h
  rw [e] at hm
  have := h2 46 hm
  exact absurd this (by decide +kernel)
theorem split_full {a b : Str} (ha : isNm a = true) (hb : isNm b = true) : Txt.split (a ++ "." ++ b) "." = [a, b] := by
  have e : a ++ "." ++ b = Txt.join ⟨#[46]⟩ [a, b] := by rw [join_eq]; rfl
  rw [e]
  exact split_join (c := 46) (by simp) (by decide) fun y hy => by
    rcases List.mem_cons.mp hy with rfl | hy
    · exact no_dot ha
    · rw [List.mem_singleton.mp hy]; exact no_dot hb
theorem isFull_of {a b : Str} (ha : isNm a = true) (hb : isNm b = true) : isFullB (a ++ "." ++ b) = true ∧ tabOf (a ++ "." ++ b) = a := by
  unfold isFullB tabOf
  rw [split_full ha hb]
  exact ⟨by show (isNm a && isNm b) = true; rw [ha, hb]; rfl, rfl⟩
theorem full_okS {w : Str} (h : isFullB w = true) : okS w := by
  obtain ⟨a, b, rfl, ha, hb, _⟩ := full_parts h
  refine ⟨okT_iff.mpr (okT_app (okT_app (okT_iff.mp (isNm_str ha)) (okT_of _)) (okT_iff.mp (isNm_str hb))), Nat.le_trans (full_le h) (by decide)⟩
end RF.K
namespace RF.K
open RF PySem
/-! steps that are right -/
def FineS : Stp → Prop
  | .keep t cols => isNm t = true ∧ cols ≠ [] ∧ cols.length ≤ 4 ∧ ∀ w, w ∈ cols → isFullB w = true
  | .join t prs => isNm t = true ∧ prs ≠ [] ∧ prs.length ≤ 4 ∧ (∀ w, w ∈ prs → isPairB t w = true) ∧ prs.Nodup
  | .sort cols => cols ≠ [] ∧ cols.length ≤ 20 ∧ (∀ w, w ∈ cols → isFullB (bare w) = true) ∧ (cols.map bare).Nodup
  | .cut st cnt per => digB st = true ∧ (∀ c, cnt = some c → digB c = true) ∧ per.length ≤ 4 ∧ (∀ w, w ∈ per → isFullB w = true) ∧ per.Nodup
theorem xcIf_none {e : Nat} {p : Nat → Bool} {j : Nat} (h : p j = false) : xcIf e p j = none := by
  unfold xcIf
  rw [h]; rfl
theorem not_take {α : Type} {l : List α} {j : Nat} {x : α} (h : l.Nodup) (hj : l[j]? = some x) : x ∉ l.take j := fun hm => by
  have e : l = l.take j ++ l.drop j := (List.take_append_drop j l).symm
  rw [e] at h
  have hd : x ∈ l.drop j := List.mem_iff_getElem?.mpr ⟨0, by rw [List.getElem?_drop]; exact hj⟩
  exact (List.nodup_append.mp h).2.2 x hm x hd rfl
theorem ne_empty {α : Type} {l : List α} (h : l ≠ []) : l.isEmpty = false := by
  cases l with
  | nil => exact absurd rfl h
  | cons _ _ => rfl
theorem cutB_no {per : List Str} (h1 : per.length ≤ 4) (h2 : ∀ w, w ∈ per → isFullB w = true) (h3 : per.Nodup) (e : Nat) : firstEnd (xcIf e (cutB per)) per.length = none :=
  firstEnd_none' fun j hj => xcIf_none (by
    have hw := List.getElem?_eq_getElem hj
    unfold cutB
    rw [getD_of hw, h2 _ (List.getElem_mem hj), decide_eq_false (not_take h3 hw), decide_eq_false (show ¬ j = 4 by omega)]; rfl)
theorem fine_none : ∀ {s : Stp}, FineS s → s.err = none
  | .keep t cols, ⟨h1, h2, h3, h4⟩ => by
    show (if isNm t = true then (if cols.isEmpty = true then _ else firstEnd (xcIf e_InvalidColumns (keepB cols)) cols.length) else _) = _
    rw [if_pos h1, ne_empty h2, if_neg Bool.noConfusion]
    exact firstEnd_none' fun j hj => xcIf_none (by
      have hw := List.getElem?_eq_getElem hj
      unfold keepB
      rw [getD_of hw, h4 _ (List.getElem_mem hj), decide_eq_false (show ¬ j = 4 by omega)]; rfl)
  | .join t prs, ⟨h1, h2, h3, h4, h5⟩ => by
    show (if isNm t = true then (if prs.isEmpty = true then _ else firstEnd (xcIf e_InvalidPairs (joinB t prs)) prs.length) else _) = _
    rw [if_pos h1, ne_empty h2, if_neg Bool.noConfusion]
    exact firstEnd_none' fun j hj => xcIf_none (by
      have hw := List.getElem?_eq_getElem hj
      unfold joinB
      rw [getD_of hw, h4 _ (List.getElem_mem hj), decide_eq_false (not_take h5 hw), decide_eq_false (show ¬ j = 4 by omega)]; rfl)
  | .sort cols, ⟨h1, h2, h3, h4⟩ => by
    show (if cols.isEmpty = true then _ else firstEnd (xcIf e_InvalidColumns (sortB cols)) cols.length) = _
    rw [ne_empty h1, if_neg Bool.noConfusion]
    exact firstEnd_none' fun j hj => xcIf_none (by
      have hw := List.getElem?_eq_getElem hj
      have hb : (cols.map bare)[j]? = some (bare cols[j]) := by rw [List.getElem?_map, hw]; rfl
      unfold sortB
      rw [getD_of hw, h3 _ (List.getElem_mem hj), List.map_take, decide_eq_false (not_take h4 hb), decide_eq_false (show ¬ j = 20 by omega)]; rfl)
  | .cut st none per, ⟨h1, h2, h3, h4, h5⟩ => by
    show (if digB st = true then firstEnd (xcIf e_InvalidColumns (cutB per)) per.length else _) = _
    rw [if_pos h1]; exact cutB_no h3 h4 h5 _
  | .cut st (some c) per, ⟨h1, h2, h3, h4, h5⟩ => by
    show (if digB st = true then (if digB c = true then firstEnd (xcIf e_InvalidColumns (cutB per)) per.length else _) else _) = _
    rw [if_pos h1, if_pos (h2 c rfl)]; exact cutB_no h3 h4 h5 _
/-! bare columns -/
theorem str_ext {a b : Str} (h : a.cps.toList = b.cps.toList) : a = b := by
  obtain ⟨a⟩ := a
  obtain ⟨b⟩ := b
  congr
  exact Array.ext' h
theorem sIx1 (n : Nat) (d : Nat) (h : 1 ≤ n) : HT.sIx n d (some 1) = 1 := (HT.sIx_nat n d 1).trans (by omega)
theorem cut_one (w : Str) : (L2.cutS w none (some 1)).cps.toList = w.cps.toList.take 1 := by
  have hl : w.length = w.cps.toList.length := (Array.length_toList).symm
  show ((w.cps.toList.drop 0).take (HT.sIx w.length w.length (some 1) - 0)) = _
  cases hw : w.cps.toList with
  | nil => simp
  | cons c cs =>
    rw [sIx1 _ _ (by rw [hl, hw]; exact Nat.succ_le_succ (Nat.zero_le _))]; rfl
theorem cut_rest (w : Str) : (L2.cutS w (some 1) none).cps.toList = w.cps.toList.drop 1 := by
  have hl : w.length = w.cps.toList.length := (Array.length_toList).symm
  show ((w.cps.toList.drop (HT.sIx w.length 0 (some 1))).take (w.length - HT.sIx w.length 0 (some 1))) = _
  cases hw : w.cps.toList with
  | nil => simp
  | cons c cs =>
    rw [sIx1 _ _ (by rw [hl, hw]; exact Nat.succ_le_succ (Nat.zero_le _)), hl, hw]
    exact List.take_of_length_le (by rw [List.length_drop]; exact Nat.le_refl _)
theorem bare_cases (w : Str) : (bare w = w ∧ L2.cutS w none (some 1) ≠ "-") ∨ (w = "-" ++ bare w ∧ L2.cutS w none (some 1) = "-") := by
  unfold bare
  by_cases h : L2.cutS w none (some 1) = "-"
  · refine .inr ⟨?_, h⟩
    rw [if_pos h]
    refine str_ext ?_
    rw [app_list, ← h, cut_one, cut_rest, List.take_append_drop]
  · exact .inl ⟨if_neg h, h⟩
theorem minus_cut (w : Str) : L2.cutS ("-" ++ w) none (some 1) = "-" ∧ L2.cutS ("-" ++ w) (some 1) none = w := by
  have e : (("-" : Str) ++ w).cps.toList = 45 :: w.cps.toList := by rw [app_list]; rfl
  constructor
  · refine str_ext ?_
    rw [cut_one, e]; rfl
  · refine str_ext ?_
    rw [cut_rest, e]; rfl
theorem bare_minus (w : Str) : bare ("-" ++ w) = w := by
  unfold bare
  rw [if_pos (minus_cut w).1, (minus_cut w).2]
theorem full_head {w : Str} (h : isFullB w = true) : ∃ c cs, w.cps.toList = c :: cs ∧ c ∈ LET.cps.toList := by
  obtain ⟨a, b, rfl, ha, hb, _⟩ := full_parts h
  obtain ⟨c, cs, e, h1, _, _⟩ := isNm_ok ha
  exact ⟨c, _, by rw [app_list, app_list, e]; rfl, h1⟩
theorem full_cut {w : Str} (h : isFullB w = true) : L2.cutS w none (some 1) ≠ "-" := fun e => by
  obtain ⟨c, cs, ew, hc⟩ := full_head h
  have := cut_one w
  rw [e, ew] at this
  have h2 : [45] = [c] := this
  rw [List.cons.injEq] at h2
  rw [← h2.1] at hc
  exact absurd hc (by decide +kernel)
theorem bare_full {w : Str} (h : isFullB w = true) : bare w = w := by
  unfold bare
  rw [if_neg (full_cut h)]
theorem bare_le {w : Str} (h : isFullB (bare w) = true) : w.length ≤ 18 ∧ okS w := by
  have h1 := full_le h
  have h2 := full_okS h
  rcases bare_cases w with ⟨e, _⟩ | ⟨e, _⟩
  · rw [e] at h1 h2
    exact ⟨by omega, h2⟩
  · rw [e, strLen_append]
    have : ("-" : Str).length = 1 := by decide +kernel
    refine ⟨by omega, okT_iff.mpr (okT_app (okT_of _) (okT_iff.mp h2.1)), ?_⟩
    rw [strLen_append]; omega
theorem pair_parts {t : Str} {p : List Str} (h : isPairB t p = true) : ∃ a b, p = [a, b] ∧ isFullB a = true ∧ isFullB b = true ∧ tabOf a ≠ t ∧ tabOf b = t := by
  unfold isPairB at h
  split at h
  · rename_i a b
    simp only [Bool.and_eq_true, Bool.not_eq_true', decide_eq_false_iff_not, decide_eq_true_eq] at h
    exact ⟨a, b, rfl, h.1.1, h.1.2, h.2.1, h.2.2⟩
  · cases h
theorem fine_ok : ∀ {s : Stp}, FineS s → s.ok
  | .keep t cols, ⟨h1, h2, h3, h4⟩ => ⟨isNm_okS h1, by omega, fun w hw => full_okS (h4 w hw)⟩
  | .join t prs, ⟨h1, h2, h3, h4, h5⟩ => ⟨isNm_okS h1, by omega, fun p hp => by
      obtain ⟨a, b, rfl, ha, hb, _⟩ := pair_parts (h4 p hp)
      exact ⟨Nat.le_trans (show 2 ≤ 4 by decide) (by decide), fun w hw => by
        rcases List.mem_cons.mp hw with rfl | hw
        · exact full_okS ha
        · rw [List.mem_singleton.mp hw]; exact full_okS hb⟩⟩
  | .sort cols, ⟨h1, h2, h3, h4⟩ => ⟨by omega, fun w hw => (bare_le (h3 w hw)).2⟩
  | .cut st c per, ⟨h1, h2, h3, h4, h5⟩ => ⟨by omega, fun w hw => full_okS (h4 w hw)⟩
end RF.K
namespace RF.K
open RF PySem
/-! the rows of steps -/
def digT (i : Int) : Str := toString i
def cntT : Option Int → Str
  | none => "all"
  | some c => digT c
theorem dig_cases {i : Int} (h : digB i = true) : i = 0 ∨ i = 1 ∨ i = 2 ∨ i = 3 ∨ i = 4 ∨ i = 5 ∨ i = 6 ∨ i = 7 ∨ i = 8 ∨ i = 9 := by
  unfold digB at h
  simp only [Bool.and_eq_true, decide_eq_true_eq] at h
  omega
theorem dig_ok {i : Int} (h : digB i = true) : i.natAbs.log2 < 1920 ∧ (digT i).length = 1 ∧ okT (digT i) := by
  refine ⟨?_, ?_, okT_of _⟩
  · rcases dig_cases h with rfl | rfl | rfl | rfl | rfl | rfl | rfl | rfl | rfl | rfl <;> decide +kernel
  · rcases dig_cases h with rfl | rfl | rfl | rfl | rfl | rfl | rfl | rfl | rfl | rfl <;> decide +kernel
theorem dig_str {i : Int} (h : digB i = true) (C : CallF) (S : Store) : ostrO GG C f_str (.int i) S = .ok (.str (digT i)) S := by
  show ofOpt S (if i.natAbs.log2 < 1920 then some (PV.str (toString i)) else none) = _
  rw [if_pos (dig_ok h).1]; rfl
def pairT (p : List Str) : Str := match p with
  | [a, b] => a ++ " " ++ b
  | _ => ""
def cutW (st : Int) (cnt : Option Int) (per : List Str) : List Str := "cut" :: digT st :: cntT cnt :: ((per.take 1).map (fun _ => ("per" : Str)) ++ per)
def rowT : Stp → Str
  | .keep t cols => "keep " ++ t ++ ": " ++ Txt.join " " cols
  | .join t prs => "join " ++ t ++ ": " ++ Txt.join ", " (prs.map pairT)
  | .sort cols => "sort " ++ Txt.join " " cols
  | .cut st cnt per => Txt.join " " (cutW st cnt per)
theorem litS : ("keep " : Str).length = 5 ∧ ("join " : Str).length = 5 ∧ ("sort " : Str).length = 5 ∧ (": " : Str).length = 2 ∧ (", " : Str).length = 2 ∧ (" " : Str).length = 1 ∧ ("cut" : Str).length = 3 ∧ ("all" : Str).length = 3 ∧ ("per" : Str).length = 3 := by decide +kernel
theorem addR {x y : Str} (S : Store) (hx : x.length ≤ 1000) (hy : y.length ≤ 1000) : binV S .add (.str x) (.str y) = some (.str (x ++ y)) := by
  show (if x.length + y.length ≤ sizeLine then some (PV.str (x ++ y)) else none) = _
  exact if_pos (size_of (by omega))
theorem join_sp {ys : List Str} (h1 : ∀ y, y ∈ ys → y.length ≤ 18) (h2 : ys.length ≤ 20) : (∀ S, bmtV S .join (.str " ") [.lst (ys.map .str)] = some (.str (Txt.join " " ys))) ∧ (∀ S, bmtV S .join (.str " ") [.tup (ys.map .str)] = some (.str (Txt.join " " ys))) ∧ (Txt.join " " ys).length ≤ 380 := by
  have := joinR (a := " ") h1 h2 (by rw [litS.2.2.2.2.2.1]; decide)
  rw [litS.2.2.2.2.2.1] at this
  exact this
theorem pairT_le {t : Str} {p : List Str} (h : isPairB t p = true) : (pairT p).length ≤ 35 := by
  obtain ⟨a, b, rfl, ha, hb, _⟩ := pair_parts h
  show (a ++ " " ++ b).length ≤ 35
  rw [strLen_append, strLen_append, litS.2.2.2.2.2.1]
  have := full_le ha
  have := full_le hb
  omega
theorem join_prs {t : Str} {prs : List (List Str)} (h1 : ∀ p, p ∈ prs → isPairB t p = true) (h2 : prs.length ≤ 4) : (∀ S, bmtV S .join (.str ", ") [.lst (prs.map fun p => .str (pairT p))] = some (.str (Txt.join ", " (prs.map pairT)))) ∧ (Txt.join ", " (prs.map pairT)).length ≤ 148 := by
  have := joinR (a := ", ") (ys := prs.map pairT) (m := 35) (n := 4) (fun y hy => by
    obtain ⟨p, hp, rfl⟩ := List.mem_map.mp hy
    exact pairT_le (h1 p hp)) (by rw [List.length_map]; exact h2) (by rw [litS.2.2.2.2.1]; decide)
  rw [litS.2.2.2.2.1, List.map_map] at this
  exact ⟨this.1, this.2.2⟩
theorem cnt_le {cnt : Option Int} (h : ∀ c, cnt = some c → digB c = true) : (cntT cnt).length ≤ 3 ∧ okT (cntT cnt) := by
  cases cnt with
  | none => exact ⟨Nat.le_of_eq litS.2.2.2.2.2.2.2.1, okT_of _⟩
  | some c => exact ⟨by show (digT c).length ≤ 3; rw [(dig_ok (h c rfl)).2.1]; decide, (dig_ok (h c rfl)).2.2⟩
theorem cutW_ok {st : Int} {cnt : Option Int} {per : List Str} (h : FineS (.cut st cnt per)) : (∀ y, y ∈ cutW st cnt per → y.length ≤ 18 ∧ okT y) ∧ (cutW st cnt per).length ≤ 20 := by
  obtain ⟨h1, h2, h3, h4, h5⟩ := h
  constructor
  · intro y hy
    unfold cutW at hy
    rcases List.mem_cons.mp hy with rfl | hy
    · exact ⟨by rw [litS.2.2.2.2.2.2.1]; decide, okT_of _⟩
    · rcases List.mem_cons.mp hy with rfl | hy
      · exact ⟨by rw [(dig_ok h1).2.1]; decide, (dig_ok h1).2.2⟩
      · rcases List.mem_cons.mp hy with rfl | hy
        · exact ⟨Nat.le_trans (cnt_le h2).1 (by decide), (cnt_le h2).2⟩
        · rcases List.mem_append.mp hy with hy | hy
          · obtain ⟨_, _, rfl⟩ := List.mem_map.mp hy
            exact ⟨by rw [litS.2.2.2.2.2.2.2.2]; decide, okT_of _⟩
          · exact ⟨Nat.le_trans (full_le (h4 y hy)) (by decide), okT_iff.mp (full_okS (h4 y hy)).1⟩
  · show (((per.take 1).map fun _ => ("per" : Str)) ++ per).length + 1 + 1 + 1 ≤ 20
    rw [List.length_append, List.length_map, List.length_take]; omega
theorem cutW_map (st : Int) (cnt : Option Int) (per : List Str) : (cutW st cnt per).map PV.str = .str "cut" :: .str (digT st) :: .str (cntT cnt) :: (((per.take 1).map fun _ => PV.str "per") ++ per.map .str) := by
  unfold cutW
  rw [List.map_cons, List.map_cons, List.map_cons, List.map_append, List.map_map]; rfl
/-- what a drawn step is -/
def actV : Stp → PV
  | .keep t cols => .tup [.str "keep", .str t, strsV cols]
  | .join t prs => .tup [.str "join", .str t, keysV prs]
  | .sort cols => .tup [.str "sort", strsV cols]
  | .cut st cnt per => .tup [.str "cut", .int st, cntV cnt, strsV per]
theorem act_x (s : Stp) : (actV s).isExc = false := by cases s <;> rfl
theorem lits (a b : String) : decide ((a : Str) = (b : Str)) = decide ((a : Str) = (b : Str)) := rfl
theorem kinds : decide (("join" : Str) = "keep") = false ∧ decide (("sort" : Str) = "keep") = false ∧ decide (("sort" : Str) = "join") = false ∧ decide (("cut" : Str) = "keep") = false ∧ decide (("cut" : Str) = "join") = false ∧ decide (("cut" : Str) = "sort") = false ∧ decide (("keep" : Str) = "cut") = false ∧ decide (("join" : Str) = "cut") = false ∧ decide (("sort" : Str) = "cut") = false ∧ decide (("keep" : Str) = "sort") = false ∧ decide (("join" : Str) = "sort") = false := by decide +kernel
theorem at4 (a b c d : PV) : L2.atI [a, b, c, d] 0 = some a ∧ L2.atI [a, b, c, d] 1 = some b ∧ L2.atI [a, b, c, d] 2 = some c ∧ L2.atI [a, b, c, d] 3 = some d := ⟨rfl, rfl, rfl, rfl⟩
theorem at3 (a b c : PV) : L2.atI [a, b, c] 0 = some a ∧ L2.atI [a, b, c] 1 = some b ∧ L2.atI [a, b, c] 2 = some c := ⟨rfl, rfl, rfl⟩
theorem at2 (a b : PV) : L2.atI [a, b] 0 = some a ∧ L2.atI [a, b] 1 = some b := ⟨rfl, rfl⟩
theorem pers {G : Gl} {C : CallF} {env : PEnv} {S : Store} {v : Nat} {x : IR} (hx : x = .k (.str "per")) (per : List Str) : compL (.v v) (ev G C x) (ev G C IR.yes) (.tup ((per.map PV.str).take 1)) (.tup ((per.map PV.str).take 1)) env ((per.map PV.str).take 1) [] S = .ok ((per.take 1).map fun _ => PV.str "per") S := by
  subst hx
  rw [← List.map_take]
  exact comp_map PV.str (fun _ => .str "per") (per.take 1) rfl (size_ok (by rw [List.length_take]; omega)) fun j w hj => ⟨_, rfl, rfl, by simp only [strsP_nil, strsP_cons, List.foldl_cons, List.foldl_nil, empty_app, kindR, bmtKR, ↓ex_seq_skip, szR, boolsP_mapf, boolsP_map, List.all_map, List.any_map, Function.comp_def, id_eq, ev_k, ev_v, ev_xattr, ev_tup, ev_lst, ev_lstR, ev_bin, ev_cmp, ev_chain, ev_neg, ev_not, ev_and, ev_or, ev_ite, ev_call, ev_bfn, ev_listR, ev_bmt, ev_mmt, ev_isI, ev_attr, ev_idx, ev_slc, ev_rev, ev_comp, ev_compR, ev_fmt, ev_one, ev_fstr, ev_ocmp, ev_ostr, ex_ite, ex_skip, ex_seq, ex_set, ex_par, ex_setT, ex_setAttr, ex_setIdx, ex_expr, ex_for, ex_ret, ex_raise, evs_nil, evs_cons, evs_star, evs_itV, evs_itR1, evs_itR2, evs_itEnum, setTs_nil, setTs_v, setTs_ix, get0, getS, xR, xD, Bool.false_eq_true, if_false, if_true, nBok, nBex, nOpt, nTok, nTex, nFnx, nFrt, nFxc, nMap, List.append_nil, List.cons_append, List.nil_append, arrange, bindP, setMany, wipeP, List.set_cons_zero, List.set_cons_succ, List.length_cons, List.length_nil, PV.pures, PV.pure, Bool.and_self, Bool.true_and, Bool.and_true, and_self, and_true, true_and, vwR, truthR, cmpR', inR, eqS, isR, itR, stR, nilR, partR, slcR, revR, binR, bfnR, idxR, ifT_some, cond_t, cond_f, orB, andB, thnB, bindB, flB, flNx, Bool.not_true, Bool.not_false, decide_true, decide_false, Int.reduceLT]⟩
theorem cut1 (l : List PV) : cutP l none (some 1) = l.take 1 := cut_take l 1
def CanRow (C : CallF) : Prop := ∀ S s, FineS s → C i_law_row [actV s] S = .ok (.str (rowT s)) S
theorem can_row (k : Nat) : CanRow (call GG fns (k + 1)) := fun S s h => by
  have e : ex GG (call GG fns k) b_law_row [some (actV s), none, none, none] S = .rt (.str (rowT s)) S := by
    cases s with
    | keep t cols =>
      obtain ⟨h1, h2, h3, h4⟩ := h
      have j1 := join_sp (ys := cols) (fun y hy => Nat.le_trans (full_le (h4 y hy)) (by decide)) (by omega)
      have n1 := nm_le h1
      have a1 := addR (x := "keep ") (y := t) S (by rw [litS.1]; decide) (by omega)
      have a2 := addR (x := "keep " ++ t) (y := ": ") S (by simp only [strLen_append, litS]; omega) (by rw [litS.2.2.2.1]; decide)
      have a3 := addR (x := "keep " ++ t ++ ": ") (y := Txt.join " " cols) S (by simp only [strLen_append, litS]; omega) (by omega)
      simp only [b_law_row, actV, at3, a1, a2, a3, j1, rowT, strsP_nil, strsP_cons, List.foldl_cons, List.foldl_nil, empty_app, kindR, bmtKR, ↓ex_seq_skip, szR, boolsP_mapf, boolsP_map, List.all_map, List.any_map, Function.comp_def, id_eq, ev_k, ev_v, ev_xattr, ev_tup, ev_lst, ev_lstR, ev_bin, ev_cmp, ev_chain, ev_neg, ev_not, ev_and, ev_or, ev_ite, ev_call, ev_bfn, ev_listR, ev_bmt, ev_mmt, ev_isI, ev_attr, ev_idx, ev_slc, ev_rev, ev_comp, ev_compR, ev_fmt, ev_one, ev_fstr, ev_ocmp, ev_ostr, ex_ite, ex_skip, ex_seq, ex_set, ex_par, ex_setT, ex_setAttr, ex_setIdx, ex_expr, ex_for, ex_ret, ex_raise, evs_nil, evs_cons, evs_star, evs_itV, evs_itR1, evs_itR2, evs_itEnum, setTs_nil, setTs_v, setTs_ix, get0, getS, xR, xD, Bool.false_eq_true, if_false, if_true, nBok, nBex, nOpt, nTok, nTex, nFnx, nFrt, nFxc, nMap, List.append_nil, List.cons_append, List.nil_append, arrange, bindP, setMany, wipeP, List.set_cons_zero, List.set_cons_succ, List.length_cons, List.length_nil, PV.pures, PV.pure, Bool.and_self, Bool.true_and, Bool.and_true, and_self, and_true, true_and, vwR, truthR, cmpR', inR, eqS, isR, itR, stR, nilR, partR, slcR, revR, binR, bfnR, idxR, ifT_some, cond_t, cond_f, orB, andB, thnB, bindB, flB, flNx, Bool.not_true, Bool.not_false, decide_true, decide_false, Int.reduceLT]
    | join t prs =>
      obtain ⟨h1, h2, h3, h4, h5⟩ := h
      have j1 := join_prs h4 h3
      have n1 := nm_le h1
      have a1 := addR (x := "join ") (y := t) S (by rw [litS.2.1]; decide) (by omega)
      have a2 := addR (x := "join " ++ t) (y := ": ") S (by simp only [strLen_append, litS]; omega) (by rw [litS.2.2.2.1]; decide)
      have a3 := addR (x := "join " ++ t ++ ": ") (y := Txt.join ", " (prs.map pairT)) S (by simp only [strLen_append, litS]; omega) (by omega)
      have ec : compL (.v 2) (ev GG (call GG fns k) x_law_row_1) (ev GG (call GG fns k) IR.yes) (keysV prs) (keysV prs) [some (.tup [.str "join", .str t, keysV prs]), none, none, none] (prs.map fun k => .tup (k.map .str)) [] S = .ok (prs.map fun p => .str (pairT p)) S :=
        comp_map (fun k : List Str => PV.tup (k.map .str)) (fun p => .str (pairT p)) prs rfl (size_ok (by omega)) fun j w hj => by
          obtain ⟨a, b, rfl, ha, hb, _⟩ := pair_parts (h4 w (List.mem_of_getElem? hj))
          have := full_le ha
          have := full_le hb
          have b1 := addR (x := a) (y := " ") S (by omega) (by rw [litS.2.2.2.2.2.1]; decide)
          have b2 := addR (x := a ++ " ") (y := b) S (by rw [strLen_append, litS.2.2.2.2.2.1]; omega) (by omega)
          exact ⟨_, rfl, rfl, by simp only [x_law_row_1, List.map_cons, List.map_nil, at2, b1, b2, pairT, strsP_nil, strsP_cons, List.foldl_cons, List.foldl_nil, empty_app, kindR, bmtKR, ↓ex_seq_skip, szR, boolsP_mapf, boolsP_map, List.all_map, List.any_map, Function.comp_def, id_eq, ev_k, ev_v, ev_xattr, ev_tup, ev_lst, ev_lstR, ev_bin, ev_cmp, ev_chain, ev_neg, ev_not, ev_and, ev_or, ev_ite, ev_call, ev_bfn, ev_listR, ev_bmt, ev_mmt, ev_isI, ev_attr, ev_idx, ev_slc, ev_rev, ev_comp, ev_compR, ev_fmt, ev_one, ev_fstr, ev_ocmp, ev_ostr, ex_ite, ex_skip, ex_seq, ex_set, ex_par, ex_setT, ex_setAttr, ex_setIdx, ex_expr, ex_for, ex_ret, ex_raise, evs_nil, evs_cons, evs_star, evs_itV, evs_itR1, evs_itR2, evs_itEnum, setTs_nil, setTs_v, setTs_ix, get0, getS, xR, xD, Bool.false_eq_true, if_false, if_true, nBok, nBex, nOpt, nTok, nTex, nFnx, nFrt, nFxc, nMap, List.append_nil, List.cons_append, List.nil_append, arrange, bindP, setMany, wipeP, List.set_cons_zero, List.set_cons_succ, List.length_cons, List.length_nil, PV.pures, PV.pure, Bool.and_self, Bool.true_and, Bool.and_true, and_self, and_true, true_and, vwR, truthR, cmpR', inR, eqS, isR, itR, stR, nilR, partR, slcR, revR, binR, bfnR, idxR, ifT_some, cond_t, cond_f, orB, andB, thnB, bindB, flB, flNx, Bool.not_true, Bool.not_false, decide_true, decide_false, Int.reduceLT]⟩
      simp only [b_law_row, actV, at3, kinds, a1, a2, a3, j1, ec, rowT, strsP_nil, strsP_cons, List.foldl_cons, List.foldl_nil, empty_app, kindR, bmtKR, ↓ex_seq_skip, szR, boolsP_mapf, boolsP_map, List.all_map, List.any_map, Function.comp_def, id_eq, ev_k, ev_v, ev_xattr, ev_tup, ev_lst, ev_lstR, ev_bin, ev_cmp, ev_chain, ev_neg, ev_not, ev_and, ev_or, ev_ite, ev_call, ev_bfn, ev_listR, ev_bmt, ev_mmt, ev_isI, ev_attr, ev_idx, ev_slc, ev_rev, ev_comp, ev_compR, ev_fmt, ev_one, ev_fstr, ev_ocmp, ev_ostr, ex_ite, ex_skip, ex_seq, ex_set, ex_par, ex_setT, ex_setAttr, ex_setIdx, ex_expr, ex_for, ex_ret, ex_raise, evs_nil, evs_cons, evs_star, evs_itV, evs_itR1, evs_itR2, evs_itEnum, setTs_nil, setTs_v, setTs_ix, get0, getS, xR, xD, Bool.false_eq_true, if_false, if_true, nBok, nBex, nOpt, nTok, nTex, nFnx, nFrt, nFxc, nMap, List.append_nil, List.cons_append, List.nil_append, arrange, bindP, setMany, wipeP, List.set_cons_zero, List.set_cons_succ, List.length_cons, List.length_nil, PV.pures, PV.pure, Bool.and_self, Bool.true_and, Bool.and_true, and_self, and_true, true_and, vwR, truthR, cmpR', inR, eqS, isR, itR, stR, nilR, partR, slcR, revR, binR, bfnR, idxR, ifT_some, cond_t, cond_f, orB, andB, thnB, bindB, flB, flNx, Bool.not_true, Bool.not_false, decide_true, decide_false, Int.reduceLT]
    | sort cols =>
      obtain ⟨h1, h2, h3, h4⟩ := h
      have j1 := join_sp (ys := cols) (fun y hy => (bare_le (h3 y hy)).1) h2
      have a1 := addR (x := "sort ") (y := Txt.join " " cols) S (by rw [litS.2.2.1]; decide) (by omega)
      simp only [b_law_row, actV, at2, kinds, a1, j1, rowT, strsP_nil, strsP_cons, List.foldl_cons, List.foldl_nil, empty_app, kindR, bmtKR, ↓ex_seq_skip, szR, boolsP_mapf, boolsP_map, List.all_map, List.any_map, Function.comp_def, id_eq, ev_k, ev_v, ev_xattr, ev_tup, ev_lst, ev_lstR, ev_bin, ev_cmp, ev_chain, ev_neg, ev_not, ev_and, ev_or, ev_ite, ev_call, ev_bfn, ev_listR, ev_bmt, ev_mmt, ev_isI, ev_attr, ev_idx, ev_slc, ev_rev, ev_comp, ev_compR, ev_fmt, ev_one, ev_fstr, ev_ocmp, ev_ostr, ex_ite, ex_skip, ex_seq, ex_set, ex_par, ex_setT, ex_setAttr, ex_setIdx, ex_expr, ex_for, ex_ret, ex_raise, evs_nil, evs_cons, evs_star, evs_itV, evs_itR1, evs_itR2, evs_itEnum, setTs_nil, setTs_v, setTs_ix, get0, getS, xR, xD, Bool.false_eq_true, if_false, if_true, nBok, nBex, nOpt, nTok, nTex, nFnx, nFrt, nFxc, nMap, List.append_nil, List.cons_append, List.nil_append, arrange, bindP, setMany, wipeP, List.set_cons_zero, List.set_cons_succ, List.length_cons, List.length_nil, PV.pures, PV.pure, Bool.and_self, Bool.true_and, Bool.and_true, and_self, and_true, true_and, vwR, truthR, cmpR', inR, eqS, isR, itR, stR, nilR, partR, slcR, revR, binR, bfnR, idxR, ifT_some, cond_t, cond_f, orB, andB, thnB, bindB, flB, flNx, Bool.not_true, Bool.not_false, decide_true, decide_false, Int.reduceLT]
    | cut st cnt per =>
      have hw := cutW_ok h
      have j1 := (join_sp (fun y hy => (hw.1 y hy).1) hw.2).1 S
      rw [cutW_map] at j1
      obtain ⟨h1, h2, h3, h4, h5⟩ := h
      have d1 := dig_str h1 (call GG fns k) S
      have hp := fun x1 => pers (G := GG) (C := call GG fns k) (S := S) (env := [some (.tup [.str "cut", .int st, cntV cnt, strsV per]), x1, none, none]) (v := 3) (x := x_law_row_0) rfl per
      have l1 : 0 + 1 + 1 + 1 + min 1 per.length ≤ sizeLine := size_ok (by omega)
      have l2 : min 1 per.length + 1 + 1 + 1 + per.length ≤ sizeLine := size_ok (by omega)
      cases cnt with
      | none =>
        simp only [cntT] at j1
        simp only [b_law_row, actV, at4, kinds, isn_cnt, d1, cut1, hp, List.length_map, List.length_take, l1, l2, List.length_append, j1, rowT, cntT, strsP_nil, strsP_cons, List.foldl_cons, List.foldl_nil, empty_app, kindR, bmtKR, ↓ex_seq_skip, szR, boolsP_mapf, boolsP_map, List.all_map, List.any_map, Function.comp_def, id_eq, ev_k, ev_v, ev_xattr, ev_tup, ev_lst, ev_lstR, ev_bin, ev_cmp, ev_chain, ev_neg, ev_not, ev_and, ev_or, ev_ite, ev_call, ev_bfn, ev_listR, ev_bmt, ev_mmt, ev_isI, ev_attr, ev_idx, ev_slc, ev_rev, ev_comp, ev_compR, ev_fmt, ev_one, ev_fstr, ev_ocmp, ev_ostr, ex_ite, ex_skip, ex_seq, ex_set, ex_par, ex_setT, ex_setAttr, ex_setIdx, ex_expr, ex_for, ex_ret, ex_raise, evs_nil, evs_cons, evs_star, evs_itV, evs_itR1, evs_itR2, evs_itEnum, setTs_nil, setTs_v, setTs_ix, get0, getS, xR, xD, Bool.false_eq_true, if_false, if_true, nBok, nBex, nOpt, nTok, nTex, nFnx, nFrt, nFxc, nMap, List.append_nil, List.cons_append, List.nil_append, arrange, bindP, setMany, wipeP, List.set_cons_zero, List.set_cons_succ, List.length_cons, List.length_nil, PV.pures, PV.pure, Bool.and_self, Bool.true_and, Bool.and_true, and_self, and_true, true_and, vwR, truthR, cmpR', inR, eqS, isR, itR, stR, nilR, partR, slcR, revR, binR, bfnR, idxR, ifT_some, cond_t, cond_f, orB, andB, thnB, bindB, flB, flNx, Bool.not_true, Bool.not_false, decide_true, decide_false, Int.reduceLT]
      | some c =>
        simp only [cntT] at j1
        have d2 : ostrO GG (call GG fns k) f_str (cntV (some c)) S = .ok (.str (digT c)) S := dig_str (h2 c rfl) (call GG fns k) S
        simp only [b_law_row, actV, at4, kinds, isn_cnt, d1, d2, cut1, hp, List.length_map, List.length_take, l1, l2, List.length_append, j1, rowT, cntT, strsP_nil, strsP_cons, List.foldl_cons, List.foldl_nil, empty_app, kindR, bmtKR, ↓ex_seq_skip, szR, boolsP_mapf, boolsP_map, List.all_map, List.any_map, Function.comp_def, id_eq, ev_k, ev_v, ev_xattr, ev_tup, ev_lst, ev_lstR, ev_bin, ev_cmp, ev_chain, ev_neg, ev_not, ev_and, ev_or, ev_ite, ev_call, ev_bfn, ev_listR, ev_bmt, ev_mmt, ev_isI, ev_attr, ev_idx, ev_slc, ev_rev, ev_comp, ev_compR, ev_fmt, ev_one, ev_fstr, ev_ocmp, ev_ostr, ex_ite, ex_skip, ex_seq, ex_set, ex_par, ex_setT, ex_setAttr, ex_setIdx, ex_expr, ex_for, ex_ret, ex_raise, evs_nil, evs_cons, evs_star, evs_itV, evs_itR1, evs_itR2, evs_itEnum, setTs_nil, setTs_v, setTs_ix, get0, getS, xR, xD, Bool.false_eq_true, if_false, if_true, nBok, nBex, nOpt, nTok, nTex, nFnx, nFrt, nFxc, nMap, List.append_nil, List.cons_append, List.nil_append, arrange, bindP, setMany, wipeP, List.set_cons_zero, List.set_cons_succ, List.length_cons, List.length_nil, PV.pures, PV.pure, Bool.and_self, Bool.true_and, Bool.and_true, and_self, and_true, true_and, vwR, truthR, cmpR', inR, eqS, isR, itR, stR, nilR, partR, slcR, revR, binR, bfnR, idxR, ifT_some, cond_t, cond_f, orB, andB, thnB, bindB, flB, flNx, Bool.not_true, Bool.not_false, decide_true, decide_false, Int.reduceLT]
  rw [call_rt fn_law_row rfl e rfl rfl rfl rfl, take_all]
end RF.K
namespace RF.K
open RF PySem
/-! steps as the program writes and compares them -/
theorem attr_keep (S : Store) (a b : PV) : attrV GG S (.obj k_Keep [a, b]) f_test = some a ∧ attrV GG S (.obj k_Keep [a, b]) f_columns = some b := ⟨rfl, rfl⟩
theorem attr_join (S : Store) (a b : PV) : attrV GG S (.obj k_Join [a, b]) f_table = some a ∧ attrV GG S (.obj k_Join [a, b]) f_pairs = some b := ⟨rfl, rfl⟩
theorem attr_sort (S : Store) (a : PV) : attrV GG S (.obj k_Sort [a]) f_columns = some a := rfl
theorem attr_cut (S : Store) (a b c : PV) : attrV GG S (.obj k_Cut [a, b, c]) f_start = some a ∧ attrV GG S (.obj k_Cut [a, b, c]) f_count = some b ∧ attrV GG S (.obj k_Cut [a, b, c]) f_per = some c := ⟨rfl, rfl, rfl⟩
theorem obj_x (c : Nat) (l : List PV) : (PV.obj c l).isExc = false := rfl
def Stp.strI : Stp → Nat
  | .keep .. => i_Keep_str
  | .join .. => i_Join_str
  | .sort .. => i_Sort_str
  | .cut .. => i_Cut_str
def Stp.eqI : Stp → Nat
  | .keep .. => i_Keep_eq
  | .join .. => i_Join_eq
  | .sort .. => i_Sort_eq
  | .cut .. => i_Cut_eq
def CanStr (C : CallF) : Prop := ∀ S s, FineS s → C s.strI [s.obj] S = .ok (.str (rowT s)) S
theorem can_str (k : Nat) : CanStr (call GG fns (k + 1)) := fun S s h => by
  cases s with
  | keep t cols =>
    obtain ⟨h1, h2, h3, h4⟩ := h
    have j1 := join_sp (ys := cols) (fun y hy => Nat.le_trans (full_le (h4 y hy)) (by decide)) (by omega)
    have n1 := nm_le h1
    have p1 := partS (z := t) (by omega)
    have p2 := partS (z := Txt.join " " cols) (by omega)
    have hL : ("keep " ++ t ++ ": " ++ Txt.join " " cols : Str).length ≤ sizeLine := size_of (by simp only [strLen_append, litS]; omega)
    have e : ex GG (call GG fns k) b_Keep_str [some (.obj k_Keep [.str t, strsV cols])] S = .rt (.str (rowT (.keep t cols))) S := by
      simp only [b_Keep_str, obj_x, attr_keep, j1, p1, p2, hL, rowT, strsP_nil, strsP_cons, List.foldl_cons, List.foldl_nil, empty_app, kindR, bmtKR, ↓ex_seq_skip, szR, boolsP_mapf, boolsP_map, List.all_map, List.any_map, Function.comp_def, id_eq, ev_k, ev_v, ev_xattr, ev_tup, ev_lst, ev_lstR, ev_bin, ev_cmp, ev_chain, ev_neg, ev_not, ev_and, ev_or, ev_ite, ev_call, ev_bfn, ev_listR, ev_bmt, ev_mmt, ev_isI, ev_attr, ev_idx, ev_slc, ev_rev, ev_comp, ev_compR, ev_fmt, ev_one, ev_fstr, ev_ocmp, ev_ostr, ex_ite, ex_skip, ex_seq, ex_set, ex_par, ex_setT, ex_setAttr, ex_setIdx, ex_expr, ex_for, ex_ret, ex_raise, evs_nil, evs_cons, evs_star, evs_itV, evs_itR1, evs_itR2, evs_itEnum, setTs_nil, setTs_v, setTs_ix, get0, getS, xR, xD, Bool.false_eq_true, if_false, if_true, nBok, nBex, nOpt, nTok, nTex, nFnx, nFrt, nFxc, nMap, List.append_nil, List.cons_append, List.nil_append, arrange, bindP, setMany, wipeP, List.set_cons_zero, List.set_cons_succ, List.length_cons, List.length_nil, PV.pures, PV.pure, Bool.and_self, Bool.true_and, Bool.and_true, and_self, and_true, true_and, vwR, truthR, cmpR', inR, eqS, isR, itR, stR, nilR, partR, slcR, revR, binR, bfnR, idxR, ifT_some, cond_t, cond_f, orB, andB, thnB, bindB, flB, flNx, Bool.not_true, Bool.not_false, decide_true, decide_false, Int.reduceLT]
    show call GG fns (k + 1) i_Keep_str [.obj k_Keep [.str t, strsV cols]] S = _
    rw [call_rt fn_Keep_str rfl e rfl rfl rfl rfl, take_all]
  | join t prs =>
    obtain ⟨h1, h2, h3, h4, h5⟩ := h
    have j1 := join_prs h4 h3
    have n1 := nm_le h1
    have p1 := partS (z := t) (by omega)
    have p2 := partS (z := Txt.join ", " (prs.map pairT)) (by omega)
    have hL : ("join " ++ t ++ ": " ++ Txt.join ", " (prs.map pairT) : Str).length ≤ sizeLine := size_of (by simp only [strLen_append, litS]; omega)
    have ec : compL (.cons (.v 2) (.cons (.v 3) .nil)) (ev GG (call GG fns k) x_Join_str_0) (ev GG (call GG fns k) IR.yes) (keysV prs) (keysV prs) [some (.obj k_Join [.str t, keysV prs]), none, none, none] (prs.map fun k => .tup (k.map .str)) [] S = .ok (prs.map fun p => .str (pairT p)) S :=
      comp_map (fun k : List Str => PV.tup (k.map .str)) (fun p => .str (pairT p)) prs rfl (size_ok (by omega)) fun j w hj => by
        have hw := h4 w (List.mem_of_getElem? hj)
        have hl := pairT_le hw
        obtain ⟨a, b, rfl, ha, hb, _⟩ := pair_parts hw
        have := full_le ha
        have := full_le hb
        have q1 := partS (z := a) (by omega)
        have q2 := partS (z := b) (by omega)
        have hL : (a ++ " " ++ b : Str).length ≤ sizeLine := size_of (Nat.le_trans hl (by decide))
        exact ⟨_, rfl, rfl, by simp only [x_Join_str_0, q1, q2, hL, pairT, strsP_nil, strsP_cons, List.foldl_cons, List.foldl_nil, empty_app, kindR, bmtKR, ↓ex_seq_skip, szR, boolsP_mapf, boolsP_map, List.all_map, List.any_map, Function.comp_def, id_eq, ev_k, ev_v, ev_xattr, ev_tup, ev_lst, ev_lstR, ev_bin, ev_cmp, ev_chain, ev_neg, ev_not, ev_and, ev_or, ev_ite, ev_call, ev_bfn, ev_listR, ev_bmt, ev_mmt, ev_isI, ev_attr, ev_idx, ev_slc, ev_rev, ev_comp, ev_compR, ev_fmt, ev_one, ev_fstr, ev_ocmp, ev_ostr, ex_ite, ex_skip, ex_seq, ex_set, ex_par, ex_setT, ex_setAttr, ex_setIdx, ex_expr, ex_for, ex_ret, ex_raise, evs_nil, evs_cons, evs_star, evs_itV, evs_itR1, evs_itR2, evs_itEnum, setTs_nil, setTs_v, setTs_ix, get0, getS, xR, xD, Bool.false_eq_true, if_false, if_true, nBok, nBex, nOpt, nTok, nTex, nFnx, nFrt, nFxc, nMap, List.append_nil, List.cons_append, List.nil_append, arrange, bindP, setMany, wipeP, List.set_cons_zero, List.set_cons_succ, List.length_cons, List.length_nil, PV.pures, PV.pure, Bool.and_self, Bool.true_and, Bool.and_true, and_self, and_true, true_and, vwR, truthR, cmpR', inR, eqS, isR, itR, stR, nilR, partR, slcR, revR, binR, bfnR, idxR, ifT_some, cond_t, cond_f, orB, andB, thnB, bindB, flB, flNx, Bool.not_true, Bool.not_false, decide_true, decide_false, Int.reduceLT]⟩
    have e : ex GG (call GG fns k) b_Join_str [some (.obj k_Join [.str t, keysV prs]), none, none, none] S = .rt (.str (rowT (.join t prs))) S := by
      simp only [b_Join_str, obj_x, attr_join, ec, j1, p1, p2, hL, rowT, strsP_nil, strsP_cons, List.foldl_cons, List.foldl_nil, empty_app, kindR, bmtKR, ↓ex_seq_skip, szR, boolsP_mapf, boolsP_map, List.all_map, List.any_map, Function.comp_def, id_eq, ev_k, ev_v, ev_xattr, ev_tup, ev_lst, ev_lstR, ev_bin, ev_cmp, ev_chain, ev_neg, ev_not, ev_and, ev_or, ev_ite, ev_call, ev_bfn, ev_listR, ev_bmt, ev_mmt, ev_isI, ev_attr, ev_idx, ev_slc, ev_rev, ev_comp, ev_compR, ev_fmt, ev_one, ev_fstr, ev_ocmp, ev_ostr, ex_ite, ex_skip, ex_seq, ex_set, ex_par, ex_setT, ex_setAttr, ex_setIdx, ex_expr, ex_for, ex_ret, ex_raise, evs_nil, evs_cons, evs_star, evs_itV, evs_itR1, evs_itR2, evs_itEnum, setTs_nil, setTs_v, setTs_ix, get0, getS, xR, xD, Bool.false_eq_true, if_false, if_true, nBok, nBex, nOpt, nTok, nTex, nFnx, nFrt, nFxc, nMap, List.append_nil, List.cons_append, List.nil_append, arrange, bindP, setMany, wipeP, List.set_cons_zero, List.set_cons_succ, List.length_cons, List.length_nil, PV.pures, PV.pure, Bool.and_self, Bool.true_and, Bool.and_true, and_self, and_true, true_and, vwR, truthR, cmpR', inR, eqS, isR, itR, stR, nilR, partR, slcR, revR, binR, bfnR, idxR, ifT_some, cond_t, cond_f, orB, andB, thnB, bindB, flB, flNx, Bool.not_true, Bool.not_false, decide_true, decide_false, Int.reduceLT]
    show call GG fns (k + 1) i_Join_str [.obj k_Join [.str t, keysV prs]] S = _
    rw [call_rt fn_Join_str rfl e rfl rfl rfl rfl, take_all]
  | sort cols =>
    obtain ⟨h1, h2, h3, h4⟩ := h
    have j1 := join_sp (ys := cols) (fun y hy => (bare_le (h3 y hy)).1) h2
    have p2 := partS (z := Txt.join " " cols) (by omega)
    have hL : ("sort " ++ Txt.join " " cols : Str).length ≤ sizeLine := size_of (by simp only [strLen_append, litS]; omega)
    have e : ex GG (call GG fns k) b_Sort_str [some (.obj k_Sort [strsV cols])] S = .rt (.str (rowT (.sort cols))) S := by
      simp only [b_Sort_str, obj_x, attr_sort, j1, p2, hL, rowT, strsP_nil, strsP_cons, List.foldl_cons, List.foldl_nil, empty_app, kindR, bmtKR, ↓ex_seq_skip, szR, boolsP_mapf, boolsP_map, List.all_map, List.any_map, Function.comp_def, id_eq, ev_k, ev_v, ev_xattr, ev_tup, ev_lst, ev_lstR, ev_bin, ev_cmp, ev_chain, ev_neg, ev_not, ev_and, ev_or, ev_ite, ev_call, ev_bfn, ev_listR, ev_bmt, ev_mmt, ev_isI, ev_attr, ev_idx, ev_slc, ev_rev, ev_comp, ev_compR, ev_fmt, ev_one, ev_fstr, ev_ocmp, ev_ostr, ex_ite, ex_skip, ex_seq, ex_set, ex_par, ex_setT, ex_setAttr, ex_setIdx, ex_expr, ex_for, ex_ret, ex_raise, evs_nil, evs_cons, evs_star, evs_itV, evs_itR1, evs_itR2, evs_itEnum, setTs_nil, setTs_v, setTs_ix, get0, getS, xR, xD, Bool.false_eq_true, if_false, if_true, nBok, nBex, nOpt, nTok, nTex, nFnx, nFrt, nFxc, nMap, List.append_nil, List.cons_append, List.nil_append, arrange, bindP, setMany, wipeP, List.set_cons_zero, List.set_cons_succ, List.length_cons, List.length_nil, PV.pures, PV.pure, Bool.and_self, Bool.true_and, Bool.and_true, and_self, and_true, true_and, vwR, truthR, cmpR', inR, eqS, isR, itR, stR, nilR, partR, slcR, revR, binR, bfnR, idxR, ifT_some, cond_t, cond_f, orB, andB, thnB, bindB, flB, flNx, Bool.not_true, Bool.not_false, decide_true, decide_false, Int.reduceLT]
    show call GG fns (k + 1) i_Sort_str [.obj k_Sort [strsV cols]] S = _
    rw [call_rt fn_Sort_str rfl e rfl rfl rfl rfl, take_all]
  | cut st cnt per =>
    have hw := cutW_ok h
    have j1 := (join_sp (fun y hy => (hw.1 y hy).1) hw.2).1 S
    rw [cutW_map] at j1
    obtain ⟨h1, h2, h3, h4, h5⟩ := h
    have d1 := dig_str h1 (call GG fns k) S
    have hp := fun x1 => pers (G := GG) (C := call GG fns k) (S := S) (env := [some (.obj k_Cut [.int st, cntV cnt, strsV per]), x1, none]) (v := 2) (x := x_Cut_str_0) rfl per
    have l1 : min 1 per.length + per.length + 1 + 1 + 1 ≤ sizeLine := size_ok (by omega)
    have e : ex GG (call GG fns k) b_Cut_str [some (.obj k_Cut [.int st, cntV cnt, strsV per]), none, none] S = .rt (.str (rowT (.cut st cnt per))) S := by
      cases cnt with
      | none =>
        simp only [cntT] at j1
        simp only [b_Cut_str, obj_x, attr_cut, isn_cnt, d1, cut1, hp, List.length_map, List.length_take, l1, List.length_append, j1, rowT, strsP_nil, strsP_cons, List.foldl_cons, List.foldl_nil, empty_app, kindR, bmtKR, ↓ex_seq_skip, szR, boolsP_mapf, boolsP_map, List.all_map, List.any_map, Function.comp_def, id_eq, ev_k, ev_v, ev_xattr, ev_tup, ev_lst, ev_lstR, ev_bin, ev_cmp, ev_chain, ev_neg, ev_not, ev_and, ev_or, ev_ite, ev_call, ev_bfn, ev_listR, ev_bmt, ev_mmt, ev_isI, ev_attr, ev_idx, ev_slc, ev_rev, ev_comp, ev_compR, ev_fmt, ev_one, ev_fstr, ev_ocmp, ev_ostr, ex_ite, ex_skip, ex_seq, ex_set, ex_par, ex_setT, ex_setAttr, ex_setIdx, ex_expr, ex_for, ex_ret, ex_raise, evs_nil, evs_cons, evs_star, evs_itV, evs_itR1, evs_itR2, evs_itEnum, setTs_nil, setTs_v, setTs_ix, get0, getS, xR, xD, Bool.false_eq_true, if_false, if_true, nBok, nBex, nOpt, nTok, nTex, nFnx, nFrt, nFxc, nMap, List.append_nil, List.cons_append, List.nil_append, arrange, bindP, setMany, wipeP, List.set_cons_zero, List.set_cons_succ, List.length_cons, List.length_nil, PV.pures, PV.pure, Bool.and_self, Bool.true_and, Bool.and_true, and_self, and_true, true_and, vwR, truthR, cmpR', inR, eqS, isR, itR, stR, nilR, partR, slcR, revR, binR, bfnR, idxR, ifT_some, cond_t, cond_f, orB, andB, thnB, bindB, flB, flNx, Bool.not_true, Bool.not_false, decide_true, decide_false, Int.reduceLT]
      | some c =>
        simp only [cntT] at j1
        have d2 : ostrO GG (call GG fns k) f_str (cntV (some c)) S = .ok (.str (digT c)) S := dig_str (h2 c rfl) (call GG fns k) S
        simp only [b_Cut_str, obj_x, attr_cut, isn_cnt, d1, d2, cut1, hp, List.length_map, List.length_take, l1, List.length_append, j1, rowT, strsP_nil, strsP_cons, List.foldl_cons, List.foldl_nil, empty_app, kindR, bmtKR, ↓ex_seq_skip, szR, boolsP_mapf, boolsP_map, List.all_map, List.any_map, Function.comp_def, id_eq, ev_k, ev_v, ev_xattr, ev_tup, ev_lst, ev_lstR, ev_bin, ev_cmp, ev_chain, ev_neg, ev_not, ev_and, ev_or, ev_ite, ev_call, ev_bfn, ev_listR, ev_bmt, ev_mmt, ev_isI, ev_attr, ev_idx, ev_slc, ev_rev, ev_comp, ev_compR, ev_fmt, ev_one, ev_fstr, ev_ocmp, ev_ostr, ex_ite, ex_skip, ex_seq, ex_set, ex_par, ex_setT, ex_setAttr, ex_setIdx, ex_expr, ex_for, ex_ret, ex_raise, evs_nil, evs_cons, evs_star, evs_itV, evs_itR1, evs_itR2, evs_itEnum, setTs_nil, setTs_v, setTs_ix, get0, getS, xR, xD, Bool.false_eq_true, if_false, if_true, nBok, nBex, nOpt, nTok, nTex, nFnx, nFrt, nFxc, nMap, List.append_nil, List.cons_append, List.nil_append, arrange, bindP, setMany, wipeP, List.set_cons_zero, List.set_cons_succ, List.length_cons, List.length_nil, PV.pures, PV.pure, Bool.and_self, Bool.true_and, Bool.and_true, and_self, and_true, true_and, vwR, truthR, cmpR', inR, eqS, isR, itR, stR, nilR, partR, slcR, revR, binR, bfnR, idxR, ifT_some, cond_t, cond_f, orB, andB, thnB, bindB, flB, flNx, Bool.not_true, Bool.not_false, decide_true, decide_false, Int.reduceLT]
    show call GG fns (k + 1) i_Cut_str [.obj k_Cut [.int st, cntV cnt, strsV per]] S = _
    rw [call_rt fn_Cut_str rfl e rfl rfl rfl rfl, take_all]
theorem ostr_step {C : CallF} (hS : CanStr C) {S : Store} {s : Stp} (h : FineS s) : ostrO GG C f_str s.obj S = .ok (.str (rowT s)) S := by
  have h2 : clsOf S s.obj = some s.cls := rfl
  have h3 : methOf GG S s.obj f_str = some s.strI := by cases s <;> rfl
  unfold ostrO
  simp only [h2, h3, hS S s h]
/-! equal steps -/
abbrev sE : Enc (List Str) := Enc.tup Enc.str
abbrev kE : Enc (List (List Str)) := Enc.tup (Enc.tup Enc.str)
theorem okL_good {l : List Str} (h : okL l) : sE.good l := fun x hx => (h.ok x hx).1
theorem okLL_good {l : List (List Str)} (h : okLL l) : kE.good l := fun x hx => okL_good (h.ok x hx)
theorem dig_short {i : Int} (h : digB i = true) : Enc.shortI i := by
  refine ⟨(dig_ok h).1, ?_⟩
  rcases dig_cases h with rfl | rfl | rfl | rfl | rfl | rfl | rfl | rfl | rfl | rfl <;> decide +kernel
theorem ois {i j : Int} (hi : Enc.shortI i) (hj : Enc.shortI j) (S : Store) : cmpV S .ne (.int i) (.int j) = some (!decide (i = j)) := (Enc.int.cmp_ne S hi hj (by decide)).trans (by congr)
def eqB : Stp → Stp → Bool
  | .keep a b, .keep c d => decide (a = c) && decide (b = d)
  | .join a b, .join c d => decide (a = c) && decide (b = d)
  | .sort a, .sort b => decide (a = b)
  | .cut a b c, .cut d e f => decide (a = d) && (decide (b = e) && decide (c = f))
  | _, _ => false
theorem eqB_eq (a b : Stp) : eqB a b = decide (a = b) := by
  cases a <;> cases b <;> simp [eqB, ← Bool.decide_and]
def CanEq (C : CallF) : Prop := ∀ S a b, FineS a → FineS b → C a.eqI [a.obj, b.obj] S = .ok (.bl (decide (a = b))) S
def CanNeq (C : CallF) : Prop := ∀ S (a : Stp) v, isIV GG S v (.own a.cls) = some false → v.isExc = false → C a.eqI [a.obj, v] S = .ok (.bl false) S
theorem can_neq (k : Nat) : CanNeq (call GG fns (k + 1)) := fun S a v h hx => by
  cases a with
  | keep t cols =>
    have h : isIV GG S v (.own k_Keep) = some false := h
    have e : ex GG (call GG fns k) b_Keep_eq [some (.obj k_Keep [.str t, strsV cols]), some v] S = .rt (.bl false) S := by simp only [b_Keep_eq, obj_x, hx, h, strsP_nil, strsP_cons, List.foldl_cons, List.foldl_nil, empty_app, kindR, bmtKR, ↓ex_seq_skip, szR, boolsP_mapf, boolsP_map, List.all_map, List.any_map, Function.comp_def, id_eq, ev_k, ev_v, ev_xattr, ev_tup, ev_lst, ev_lstR, ev_bin, ev_cmp, ev_chain, ev_neg, ev_not, ev_and, ev_or, ev_ite, ev_call, ev_bfn, ev_listR, ev_bmt, ev_mmt, ev_isI, ev_attr, ev_idx, ev_slc, ev_rev, ev_comp, ev_compR, ev_fmt, ev_one, ev_fstr, ev_ocmp, ev_ostr, ex_ite, ex_skip, ex_seq, ex_set, ex_par, ex_setT, ex_setAttr, ex_setIdx, ex_expr, ex_for, ex_ret, ex_raise, evs_nil, evs_cons, evs_star, evs_itV, evs_itR1, evs_itR2, evs_itEnum, setTs_nil, setTs_v, setTs_ix, get0, getS, xR, xD, Bool.false_eq_true, if_false, if_true, nBok, nBex, nOpt, nTok, nTex, nFnx, nFrt, nFxc, nMap, List.append_nil, List.cons_append, List.nil_append, arrange, bindP, setMany, wipeP, List.set_cons_zero, List.set_cons_succ, List.length_cons, List.length_nil, PV.pures, PV.pure, Bool.and_self, Bool.true_and, Bool.and_true, and_self, and_true, true_and, vwR, truthR, cmpR', inR, eqS, isR, itR, stR, nilR, partR, slcR, revR, binR, bfnR, idxR, ifT_some, cond_t, cond_f, orB, andB, thnB, bindB, flB, flNx, Bool.not_true, Bool.not_false, decide_true, decide_false, Int.reduceLT]
    show call GG fns (k + 1) i_Keep_eq [.obj k_Keep [.str t, strsV cols], v] S = _
    rw [call_rt fn_Keep_eq rfl e rfl rfl rfl rfl, take_all]
  | join t prs =>
    have h : isIV GG S v (.own k_Join) = some false := h
    have e : ex GG (call GG fns k) b_Join_eq [some (.obj k_Join [.str t, keysV prs]), some v] S = .rt (.bl false) S := by simp only [b_Join_eq, obj_x, hx, h, strsP_nil, strsP_cons, List.foldl_cons, List.foldl_nil, empty_app, kindR, bmtKR, ↓ex_seq_skip, szR, boolsP_mapf, boolsP_map, List.all_map, List.any_map, Function.comp_def, id_eq, ev_k, ev_v, ev_xattr, ev_tup, ev_lst, ev_lstR, ev_bin, ev_cmp, ev_chain, ev_neg, ev_not, ev_and, ev_or, ev_ite, ev_call, ev_bfn, ev_listR, ev_bmt, ev_mmt, ev_isI, ev_attr, ev_idx, ev_slc, ev_rev, ev_comp, ev_compR, ev_fmt, ev_one, ev_fstr, ev_ocmp, ev_ostr, ex_ite, ex_skip, ex_seq, ex_set, ex_par, ex_setT, ex_setAttr, ex_setIdx, ex_expr, ex_for, ex_ret, ex_raise, evs_nil, evs_cons, evs_star, evs_itV, evs_itR1, evs_itR2, evs_itEnum, setTs_nil, setTs_v, setTs_ix, get0, getS, xR, xD, Bool.false_eq_true, if_false, if_true, nBok, nBex, nOpt, nTok, nTex, nFnx, nFrt, nFxc, nMap, List.append_nil, List.cons_append, List.nil_append, arrange, bindP, setMany, wipeP, List.set_cons_zero, List.set_cons_succ, List.length_cons, List.length_nil, PV.pures, PV.pure, Bool.and_self, Bool.true_and, Bool.and_true, and_self, and_true, true_and, vwR, truthR, cmpR', inR, eqS, isR, itR, stR, nilR, partR, slcR, revR, binR, bfnR, idxR, ifT_some, cond_t, cond_f, orB, andB, thnB, bindB, flB, flNx, Bool.not_true, Bool.not_false, decide_true, decide_false, Int.reduceLT]
    show call GG fns (k + 1) i_Join_eq [.obj k_Join [.str t, keysV prs], v] S = _
    rw [call_rt fn_Join_eq rfl e rfl rfl rfl rfl, take_all]
  | sort cols =>
    have h : isIV GG S v (.own k_Sort) = some false := h
    have e : ex GG (call GG fns k) b_Sort_eq [some (.obj k_Sort [strsV cols]), some v] S = .rt (.bl false) S := by simp only [b_Sort_eq, obj_x, hx, h, strsP_nil, strsP_cons, List.foldl_cons, List.foldl_nil, empty_app, kindR, bmtKR, ↓ex_seq_skip, szR, boolsP_mapf, boolsP_map, List.all_map, List.any_map, Function.comp_def, id_eq, ev_k, ev_v, ev_xattr, ev_tup, ev_lst, ev_lstR, ev_bin, ev_cmp, ev_chain, ev_neg, ev_not, ev_and, ev_or, ev_ite, ev_call, ev_bfn, ev_listR, ev_bmt, ev_mmt, ev_isI, ev_attr, ev_idx, ev_slc, ev_rev, ev_comp, ev_compR, ev_fmt, ev_one, ev_fstr, ev_ocmp, ev_ostr, ex_ite, ex_skip, ex_seq, ex_set, ex_par, ex_setT, ex_setAttr, ex_setIdx, ex_expr, ex_for, ex_ret, ex_raise, evs_nil, evs_cons, evs_star, evs_itV, evs_itR1, evs_itR2, evs_itEnum, setTs_nil, setTs_v, setTs_ix, get0, getS, xR, xD, Bool.false_eq_true, if_false, if_true, nBok, nBex, nOpt, nTok, nTex, nFnx, nFrt, nFxc, nMap, List.append_nil, List.cons_append, List.nil_append, arrange, bindP, setMany, wipeP, List.set_cons_zero, List.set_cons_succ, List.length_cons, List.length_nil, PV.pures, PV.pure, Bool.and_self, Bool.true_and, Bool.and_true, and_self, and_true, true_and, vwR, truthR, cmpR', inR, eqS, isR, itR, stR, nilR, partR, slcR, revR, binR, bfnR, idxR, ifT_some, cond_t, cond_f, orB, andB, thnB, bindB, flB, flNx, Bool.not_true, Bool.not_false, decide_true, decide_false, Int.reduceLT]
    show call GG fns (k + 1) i_Sort_eq [.obj k_Sort [strsV cols], v] S = _
    rw [call_rt fn_Sort_eq rfl e rfl rfl rfl rfl, take_all]
  | cut st cnt per =>
    have h : isIV GG S v (.own k_Cut) = some false := h
    have e : ex GG (call GG fns k) b_Cut_eq [some (.obj k_Cut [.int st, cntV cnt, strsV per]), some v] S = .rt (.bl false) S := by simp only [b_Cut_eq, obj_x, hx, h, strsP_nil, strsP_cons, List.foldl_cons, List.foldl_nil, empty_app, kindR, bmtKR, ↓ex_seq_skip, szR, boolsP_mapf, boolsP_map, List.all_map, List.any_map, Function.comp_def, id_eq, ev_k, ev_v, ev_xattr, ev_tup, ev_lst, ev_lstR, ev_bin, ev_cmp, ev_chain, ev_neg, ev_not, ev_and, ev_or, ev_ite, ev_call, ev_bfn, ev_listR, ev_bmt, ev_mmt, ev_isI, ev_attr, ev_idx, ev_slc, ev_rev, ev_comp, ev_compR, ev_fmt, ev_one, ev_fstr, ev_ocmp, ev_ostr, ex_ite, ex_skip, ex_seq, ex_set, ex_par, ex_setT, ex_setAttr, ex_setIdx, ex_expr, ex_for, ex_ret, ex_raise, evs_nil, evs_cons, evs_star, evs_itV, evs_itR1, evs_itR2, evs_itEnum, setTs_nil, setTs_v, setTs_ix, get0, getS, xR, xD, Bool.false_eq_true, if_false, if_true, nBok, nBex, nOpt, nTok, nTex, nFnx, nFrt, nFxc, nMap, List.append_nil, List.cons_append, List.nil_append, arrange, bindP, setMany, wipeP, List.set_cons_zero, List.set_cons_succ, List.length_cons, List.length_nil, PV.pures, PV.pure, Bool.and_self, Bool.true_and, Bool.and_true, and_self, and_true, true_and, vwR, truthR, cmpR', inR, eqS, isR, itR, stR, nilR, partR, slcR, revR, binR, bfnR, idxR, ifT_some, cond_t, cond_f, orB, andB, thnB, bindB, flB, flNx, Bool.not_true, Bool.not_false, decide_true, decide_false, Int.reduceLT]
    show call GG fns (k + 1) i_Cut_eq [.obj k_Cut [.int st, cntV cnt, strsV per], v] S = _
    rw [call_rt fn_Cut_eq rfl e rfl rfl rfl rfl, take_all]
theorem fine_cnt {st : Int} {cnt : Option Int} {per : List Str} (h : FineS (.cut st cnt per)) : Enc.oint.good cnt := fun c hc => dig_short (h.2.1 c hc)
theorem strs_eq (S : Store) {a b : List Str} (ha : okL a) (hb : okL b) : cmpV S .eq (strsV a) (strsV b) = some (decide (a = b)) := (sE.cmp_eq S (okL_good ha) (okL_good hb) (by decide)).trans (by congr)
theorem keys_eq (S : Store) {a b : List (List Str)} (ha : okLL a) (hb : okLL b) : cmpV S .eq (keysV a) (keysV b) = some (decide (a = b)) := (kE.cmp_eq S (okLL_good ha) (okLL_good hb) (by decide)).trans (by congr)
theorem same_cls {a b : Stp} (h : a.cls ≠ b.cls) : a ≠ b := fun e => h (by rw [e])
theorem own_cls (S : Store) (a b : Stp) : isIV GG S b.obj (.own a.cls) = some (decide (b.cls = a.cls)) := by cases a <;> cases b <;> rfl
theorem can_eq (k : Nat) : CanEq (call GG fns (k + 1)) := fun S a b ha hb => by
  by_cases hc : b.cls = a.cls
  · have ok1 := fine_ok ha
    have ok2 := fine_ok hb
    rw [← eqB_eq]
    cases a with
    | keep t cols =>
      cases b with
      | keep t2 cols2 =>
        have g1 := strs_eq S ok1.2 ok2.2
        have h1 : isIV GG S (.obj k_Keep [.str t2, strsV cols2]) (.own k_Keep) = some true := rfl
        have e : ex GG (call GG fns k) b_Keep_eq [some (.obj k_Keep [.str t, strsV cols]), some (.obj k_Keep [.str t2, strsV cols2])] S = .rt (.bl (eqB (.keep t cols) (.keep t2 cols2))) S := by
          simp only [b_Keep_eq, obj_x, h1, attr_keep, g1, eqB, strsP_nil, strsP_cons, List.foldl_cons, List.foldl_nil, empty_app, kindR, bmtKR, ↓ex_seq_skip, szR, boolsP_mapf, boolsP_map, List.all_map, List.any_map, Function.comp_def, id_eq, ev_k, ev_v, ev_xattr, ev_tup, ev_lst, ev_lstR, ev_bin, ev_cmp, ev_chain, ev_neg, ev_not, ev_and, ev_or, ev_ite, ev_call, ev_bfn, ev_listR, ev_bmt, ev_mmt, ev_isI, ev_attr, ev_idx, ev_slc, ev_rev, ev_comp, ev_compR, ev_fmt, ev_one, ev_fstr, ev_ocmp, ev_ostr, ex_ite, ex_skip, ex_seq, ex_set, ex_par, ex_setT, ex_setAttr, ex_setIdx, ex_expr, ex_for, ex_ret, ex_raise, evs_nil, evs_cons, evs_star, evs_itV, evs_itR1, evs_itR2, evs_itEnum, setTs_nil, setTs_v, setTs_ix, get0, getS, xR, xD, Bool.false_eq_true, if_false, if_true, nBok, nBex, nOpt, nTok, nTex, nFnx, nFrt, nFxc, nMap, List.append_nil, List.cons_append, List.nil_append, arrange, bindP, setMany, wipeP, List.set_cons_zero, List.set_cons_succ, List.length_cons, List.length_nil, PV.pures, PV.pure, Bool.and_self, Bool.true_and, Bool.and_true, and_self, and_true, true_and, vwR, truthR, cmpR', inR, eqS, isR, itR, stR, nilR, partR, slcR, revR, binR, bfnR, idxR, ifT_some, cond_t, cond_f, orB, andB, thnB, bindB, flB, flNx, Bool.not_true, Bool.not_false, decide_true, decide_false, Int.reduceLT]
        show call GG fns (k + 1) i_Keep_eq [.obj k_Keep [.str t, strsV cols], .obj k_Keep [.str t2, strsV cols2]] S = _
        rw [call_rt fn_Keep_eq rfl e rfl rfl rfl rfl, take_all]
      | join => cases hc
      | sort => cases hc
      | cut => cases hc
    | join t cols =>
      cases b with
      | join t2 cols2 =>
        have g1 := keys_eq S ok1.2 ok2.2
        have h1 : isIV GG S (.obj k_Join [.str t2, keysV cols2]) (.own k_Join) = some true := rfl
        have e : ex GG (call GG fns k) b_Join_eq [some (.obj k_Join [.str t, keysV cols]), some (.obj k_Join [.str t2, keysV cols2])] S = .rt (.bl (eqB (.join t cols) (.join t2 cols2))) S := by
          simp only [b_Join_eq, obj_x, h1, attr_join, g1, eqB, strsP_nil, strsP_cons, List.foldl_cons, List.foldl_nil, empty_app, kindR, bmtKR, ↓ex_seq_skip, szR, boolsP_mapf, boolsP_map, List.all_map, List.any_map, Function.comp_def, id_eq, ev_k, ev_v, ev_xattr, ev_tup, ev_lst, ev_lstR, ev_bin, ev_cmp, ev_chain, ev_neg, ev_not, ev_and, ev_or, ev_ite, ev_call, ev_bfn, ev_listR, ev_bmt, ev_mmt, ev_isI, ev_attr, ev_idx, ev_slc, ev_rev, ev_comp, ev_compR, ev_fmt, ev_one, ev_fstr, ev_ocmp, ev_ostr, ex_ite, ex_skip, ex_seq, ex_set, ex_par, ex_setT, ex_setAttr, ex_setIdx, ex_expr, ex_for, ex_ret, ex_raise, evs_nil, evs_cons, evs_star, evs_itV, evs_itR1, evs_itR2, evs_itEnum, setTs_nil, setTs_v, setTs_ix, get0, getS, xR, xD, Bool.false_eq_true, if_false, if_true, nBok, nBex, nOpt, nTok, nTex, nFnx, nFrt, nFxc, nMap, List.append_nil, List.cons_append, List.nil_append, arrange, bindP, setMany, wipeP, List.set_cons_zero, List.set_cons_succ, List.length_cons, List.length_nil, PV.pures, PV.pure, Bool.and_self, Bool.true_and, Bool.and_true, and_self, and_true, true_and, vwR, truthR, cmpR', inR, eqS, isR, itR, stR, nilR, partR, slcR, revR, binR, bfnR, idxR, ifT_some, cond_t, cond_f, orB, andB, thnB, bindB, flB, flNx, Bool.not_true, Bool.not_false, decide_true, decide_false, Int.reduceLT]
        show call GG fns (k + 1) i_Join_eq [.obj k_Join [.str t, keysV cols], .obj k_Join [.str t2, keysV cols2]] S = _
        rw [call_rt fn_Join_eq rfl e rfl rfl rfl rfl, take_all]
      | keep => cases hc
      | sort => cases hc
      | cut => cases hc
    | sort cols =>
      cases b with
      | sort cols2 =>
        have g1 := strs_eq S ok1 ok2
        have h1 : isIV GG S (.obj k_Sort [strsV cols2]) (.own k_Sort) = some true := rfl
        have e : ex GG (call GG fns k) b_Sort_eq [some (.obj k_Sort [strsV cols]), some (.obj k_Sort [strsV cols2])] S = .rt (.bl (eqB (.sort cols) (.sort cols2))) S := by
          simp only [b_Sort_eq, obj_x, h1, attr_sort, g1, eqB, strsP_nil, strsP_cons, List.foldl_cons, List.foldl_nil, empty_app, kindR, bmtKR, ↓ex_seq_skip, szR, boolsP_mapf, boolsP_map, List.all_map, List.any_map, Function.comp_def, id_eq, ev_k, ev_v, ev_xattr, ev_tup, ev_lst, ev_lstR, ev_bin, ev_cmp, ev_chain, ev_neg, ev_not, ev_and, ev_or, ev_ite, ev_call, ev_bfn, ev_listR, ev_bmt, ev_mmt, ev_isI, ev_attr, ev_idx, ev_slc, ev_rev, ev_comp, ev_compR, ev_fmt, ev_one, ev_fstr, ev_ocmp, ev_ostr, ex_ite, ex_skip, ex_seq, ex_set, ex_par, ex_setT, ex_setAttr, ex_setIdx, ex_expr, ex_for, ex_ret, ex_raise, evs_nil, evs_cons, evs_star, evs_itV, evs_itR1, evs_itR2, evs_itEnum, setTs_nil, setTs_v, setTs_ix, get0, getS, xR, xD, Bool.false_eq_true, if_false, if_true, nBok, nBex, nOpt, nTok, nTex, nFnx, nFrt, nFxc, nMap, List.append_nil, List.cons_append, List.nil_append, arrange, bindP, setMany, wipeP, List.set_cons_zero, List.set_cons_succ, List.length_cons, List.length_nil, PV.pures, PV.pure, Bool.and_self, Bool.true_and, Bool.and_true, and_self, and_true, true_and, vwR, truthR, cmpR', inR, eqS, isR, itR, stR, nilR, partR, slcR, revR, binR, bfnR, idxR, ifT_some, cond_t, cond_f, orB, andB, thnB, bindB, flB, flNx, Bool.not_true, Bool.not_false, decide_true, decide_false, Int.reduceLT]
        show call GG fns (k + 1) i_Sort_eq [.obj k_Sort [strsV cols], .obj k_Sort [strsV cols2]] S = _
        rw [call_rt fn_Sort_eq rfl e rfl rfl rfl rfl, take_all]
      | keep => cases hc
      | join => cases hc
      | cut => cases hc
    | cut st cnt per =>
      cases b with
      | cut st2 cnt2 per2 =>
        have g1 := strs_eq S ok1 ok2
        have g2 : cmpV S .eq (cntV cnt) (cntV cnt2) = some (decide (cnt = cnt2)) := (Enc.oint.cmp_eq S (fine_cnt ha) (fine_cnt hb) (by decide)).trans (by congr)
        have g3 := ois (dig_short ha.1) (dig_short hb.1) S
        have h1 : isIV GG S (.obj k_Cut [.int st2, cntV cnt2, strsV per2]) (.own k_Cut) = some true := rfl
        have e : ex GG (call GG fns k) b_Cut_eq [some (.obj k_Cut [.int st, cntV cnt, strsV per]), some (.obj k_Cut [.int st2, cntV cnt2, strsV per2])] S = .rt (.bl (eqB (.cut st cnt per) (.cut st2 cnt2 per2))) S := by
          simp only [b_Cut_eq, obj_x, h1, attr_cut, g1, g2, g3, eqB, strsP_nil, strsP_cons, List.foldl_cons, List.foldl_nil, empty_app, kindR, bmtKR, ↓ex_seq_skip, szR, boolsP_mapf, boolsP_map, List.all_map, List.any_map, Function.comp_def, id_eq, ev_k, ev_v, ev_xattr, ev_tup, ev_lst, ev_lstR, ev_bin, ev_cmp, ev_chain, ev_neg, ev_not, ev_and, ev_or, ev_ite, ev_call, ev_bfn, ev_listR, ev_bmt, ev_mmt, ev_isI, ev_attr, ev_idx, ev_slc, ev_rev, ev_comp, ev_compR, ev_fmt, ev_one, ev_fstr, ev_ocmp, ev_ostr, ex_ite, ex_skip, ex_seq, ex_set, ex_par, ex_setT, ex_setAttr, ex_setIdx, ex_expr, ex_for, ex_ret, ex_raise, evs_nil, evs_cons, evs_star, evs_itV, evs_itR1, evs_itR2, evs_itEnum, setTs_nil, setTs_v, setTs_ix, get0, getS, xR, xD, Bool.false_eq_true, if_false, if_true, nBok, nBex, nOpt, nTok, nTex, nFnx, nFrt, nFxc, nMap, List.append_nil, List.cons_append, List.nil_append, arrange, bindP, setMany, wipeP, List.set_cons_zero, List.set_cons_succ, List.length_cons, List.length_nil, PV.pures, PV.pure, Bool.and_self, Bool.true_and, Bool.and_true, and_self, and_true, true_and, vwR, truthR, cmpR', inR, eqS, isR, itR, stR, nilR, partR, slcR, revR, binR, bfnR, idxR, ifT_some, cond_t, cond_f, orB, andB, thnB, bindB, flB, flNx, Bool.not_true, Bool.not_false, decide_true, decide_false, Int.reduceLT]
          cases decide (st = st2) <;> rfl
        show call GG fns (k + 1) i_Cut_eq [.obj k_Cut [.int st, cntV cnt, strsV per], .obj k_Cut [.int st2, cntV cnt2, strsV per2]] S = _
        rw [call_rt fn_Cut_eq rfl e rfl rfl rfl rfl, take_all]
      | keep => cases hc
      | join => cases hc
      | sort => cases hc
  · rw [decide_eq_false (same_cls fun e => hc e.symm)]
    exact can_neq k S a b.obj (by rw [own_cls, decide_eq_false hc]) rfl
theorem ocmp_step {C : CallF} (hE : CanEq C) {S : Store} {a b : Stp} (ha : FineS a) (hb : FineS b) : ocmpO GG C false f_eq a.obj b.obj S = .ok (.bl (decide (a = b))) S ∧ ocmpO GG C true f_eq a.obj b.obj S = .ok (.bl (!decide (a = b))) S := by
  have h1 := own_cls S a b
  have h2 : clsOf S a.obj = some a.cls := rfl
  have h3 : methOf GG S a.obj f_eq = some a.eqI := by cases a <;> rfl
  constructor
  · unfold ocmpO
    simp only [h2, h3, h1, hE S a b ha hb, Bool.false_eq_true, if_false]
  · unfold ocmpO
    simp only [h2, h3, h1, hE S a b ha hb, if_true]
theorem ocmp_else {C : CallF} (hE : CanNeq C) {S : Store} {a : Stp} {v : PV} (h : isIV GG S v (.own a.cls) = some false) (hx : v.isExc = false) : ocmpO GG C false f_eq a.obj v S = .ok (.bl false) S ∧ ocmpO GG C true f_eq a.obj v S = .ok (.bl true) S := by
  have h2 : clsOf S a.obj = some a.cls := rfl
  have h3 : methOf GG S a.obj f_eq = some a.eqI := by cases a <;> rfl
  constructor
  · unfold ocmpO
    simp only [h2, h3, h, hE S a v h hx, Bool.false_eq_true, if_false]
  · unfold ocmpO
    simp only [h2, h3, h, hE S a v h hx, if_true, Bool.not_false]
end RF.K
namespace RF.K
open RF PySem
/-- a number is drawn -/
theorem take_ex {G : Gl} {C : CallF} {S : Store} {p : Nat} {m a b c : Int} (hp : p < S.length) (h0 : 0 < m) (h1 : m < 1073741824) :
    ∃ d a' b' c', ex G C b_law_take [some (.ref p), some (.int m), none, none, none] (put S p a b c) = .rt (.int d) (put S p a' b' c') ∧ 0 ≤ d ∧ d < m := by
  have hw : inI64 (a % 30011 + 20011) = true := by
    unfold inI64
    rw [decide_eq_true_eq]
    have := Int.emod_nonneg a (show (30011 : Int) ≠ 0 by decide)
    have := Int.emod_lt_of_pos a (show (0 : Int) < 30011 by decide)
    omega
  have hq : inI64 31 = true := rfl
  by_cases hb : 0 < b
  · refine ⟨b % m, (((a + 31 * (c + 1)) * (a % 30011 + 20011) + 15013) % 2147483629), b / m, c + 1, ?_, Int.emod_nonneg _ (by omega), Int.emod_lt_of_pos _ h0⟩
    simp only [b_law_take, ex, ev, evs, get0, getS, xR, Bool.false_eq_true, if_false, if_true, Out.bind_ok, ofOpt_some, thn_ok, Fl.bind_nx, Fl.bind_rt, idx_put hp, atI3, binR, bfnR, sidx3 hp, hw, hq, Bool.or_true, Bool.true_or, cmpR', truthR, Option.map_some, bindP, setTs, Tg.len, List.set_cons_zero, List.set_cons_succ, List.length_cons, List.length_nil, decide_true, hb, h0, h1, and_self, Int.reduceLT]
  · refine ⟨(((a + 31 * (c + 1)) * (a % 30011 + 20011) + 15013) % 2147483629) / 128 % m, (((a + 31 * (c + 1)) * (a % 30011 + 20011) + 15013) % 2147483629), b, c + 1, ?_, Int.emod_nonneg _ (by omega), Int.emod_lt_of_pos _ h0⟩
    simp only [b_law_take, ex, ev, evs, get0, getS, xR, Bool.false_eq_true, if_false, if_true, Out.bind_ok, ofOpt_some, thn_ok, Fl.bind_nx, Fl.bind_rt, idx_put hp, atI3, binR, bfnR, sidx3 hp, hw, hq, Bool.or_true, Bool.true_or, cmpR', truthR, Option.map_some, bindP, setTs, Tg.len, List.set_cons_zero, List.set_cons_succ, List.length_cons, List.length_nil, decide_false, hb, h0, h1, and_self, Int.reduceLT]
theorem take_call {k : Nat} {S : Store} {p : Nat} {m a b c : Int} (hp : p < S.length) (h0 : 0 < m) (h1 : m < 1073741824) :
    ∃ d a' b' c', call GG fns (k + 1) i_law_take [.ref p, .int m] (put S p a b c) = .ok (.int d) (put S p a' b' c') ∧ 0 ≤ d ∧ d < m := by
  obtain ⟨d, a', b', c', e, h2, h3⟩ := take_ex (G := GG) (C := call GG fns k) (a := a) (b := b) (c := c) hp h0 h1
  refine ⟨d, a', b', c', ?_, h2, h3⟩
  rw [call_at fn_law_take rfl]
  show endF true (put S p a b c).length (ex GG (call GG fns k) b_law_take [some (.ref p), some (.int m), none, none, none] (put S p a b c)) = _
  rw [e, end_rt rfl, put_len, ← put_len (S := S) (p := p) (a := a') (b := b') (c := c'), List.take_length]
theorem let_at {S : Store} {d : Int} (h0 : 0 ≤ d) (h1 : d < 26) : ∃ c, idxV S (.str LET) (.int d) = some (.str ⟨#[c]⟩) ∧ c ∈ LET.cps.toList := by
  obtain ⟨n, rfl⟩ := Int.eq_ofNat_of_zero_le h0
  have hl : LET.cps.toList.length = 26 := by decide +kernel
  have hn : n < LET.cps.toList.length := by omega
  refine ⟨LET.cps.toList[n], ?_, List.getElem_mem hn⟩
  show (if LET.length ≤ sizeLine then (L2.atI LET.cps.toList (n : Int)).map (fun c => PV.str ⟨#[c]⟩) else none) = _
  rw [if_pos (by decide +kernel), atI_nat, List.getElem?_eq_getElem hn]; rfl
theorem sgn_at {S : Store} {d : Int} (h0 : 0 ≤ d) (h1 : d < 36) : ∃ c, idxV S (.str SGN) (.int d) = some (.str ⟨#[c]⟩) ∧ c ∈ SGN.cps.toList := by
  obtain ⟨n, rfl⟩ := Int.eq_ofNat_of_zero_le h0
  have hl : SGN.cps.toList.length = 36 := by decide +kernel
  have hn : n < SGN.cps.toList.length := by omega
  refine ⟨SGN.cps.toList[n], ?_, List.getElem_mem hn⟩
  show (if SGN.length ≤ sizeLine then (L2.atI SGN.cps.toList (n : Int)).map (fun c => PV.str ⟨#[c]⟩) else none) = _
  rw [if_pos (by decide +kernel), atI_nat, List.getElem?_eq_getElem hn]; rfl
/-- a number can be drawn -/
def CanTake (C : CallF) : Prop := ∀ (S : Store) (p : Nat) (m a b c : Int), p < S.length → 0 < m → m < 1073741824 → ∃ d a' b' c', C i_law_take [.ref p, .int m] (put S p a b c) = .ok (.int d) (put S p a' b' c') ∧ 0 ≤ d ∧ d < m
theorem can_take (k : Nat) : CanTake (call GG fns (k + 1)) := fun S p m a b c hp h0 h1 => take_call hp h0 h1
/-- a text that grows to a name -/
def grows (j : Nat) (w : Str) : Prop := ∃ c cs, w.cps.toList = c :: cs ∧ c ∈ LET.cps.toList ∧ (∀ x, x ∈ cs → x ∈ SGN.cps.toList) ∧ cs.length = j
theorem grows_one {c : Nat} (h : c ∈ LET.cps.toList) : grows 0 ⟨#[c]⟩ := ⟨c, [], rfl, h, fun _ h => (by cases h), rfl⟩
theorem app_list (a b : Str) : (a ++ b).cps.toList = a.cps.toList ++ b.cps.toList := by
  show (a.cps ++ b.cps).toList = _
  exact Array.toList_append ..
theorem grows_more {j : Nat} {w : Str} {c : Nat} (h : grows j w) (hc : c ∈ SGN.cps.toList) : grows (j + 1) (w ++ ⟨#[c]⟩) := by
  obtain ⟨c0, cs, e, h1, h2, h3⟩ := h
  refine ⟨c0, cs ++ [c], by rw [app_list, e]; rfl, h1, fun x hx => ?_, by rw [List.length_append, h3]; rfl⟩
  rcases List.mem_append.mp hx with hx | hx
  · exact h2 x hx
  · rw [List.mem_singleton.mp hx]; exact hc
theorem grows_len {j : Nat} {w : Str} (h : grows j w) : w.length = j + 1 := by
  obtain ⟨c0, cs, e, h1, h2, h3⟩ := h
  show w.cps.size = _
  rw [← Array.length_toList, e, List.length_cons, h3]
theorem grows_nm {j : Nat} {w : Str} (h : grows j w) (hj : j ≤ 7) : isNm w = true := by
  obtain ⟨c0, cs, e, h1, h2, h3⟩ := h
  unfold isNm
  rw [e]
  simp only [Bool.and_eq_true, decide_eq_true_eq]
  exact ⟨⟨List.contains_iff_mem.mpr h1, List.all_eq_true.mpr fun x hx => List.contains_iff_mem.mpr (h2 x hx)⟩, by omega⟩
def WRD : List Str := ["table", "key", "refer", "from", "keep", "join", "sort", "cut", "per", "all", "show"]
theorem wrd_nm : ∀ w, w ∈ WRD → isNm w = true := by
  have h : WRD.all isNm = true := by decide +kernel
  exact fun w hw => List.all_eq_true.mp h w hw
theorem name_loop {G : Gl} {C : CallF} (hT : CanTake C) {S : Store} {p : Nat} {a b c n : Int} {w : Str} {x1 x2 x3 x5 : Option PV} (hp : p < S.length) (hn : n ≤ 7) (hw : grows 0 w) :
    ∃ w' a' b' c' y5, forL (.v 5) (ex G C x_law_name_0) .non .non ((List.range n.toNat).map fun i => PV.int (i : Nat)) [some (.ref p), x1, x2, x3, some (.str w), x5] (put S p a b c) = .nx [some (.ref p), x1, x2, x3, some (.str w'), y5] (put S p a' b' c') ∧ isNm w' = true := by
  obtain ⟨env2, S2, ef, w', a', b', c', y5, rfl, rfl, hg⟩ := for_all (p := .v 5) (body := ex G C x_law_name_0) (gv := .non) (g0 := .non) (xs := (List.range n.toNat).map fun i => PV.int (i : Nat)) (I := fun j env S' => ∃ w' a' b' c' y5, env = [some (.ref p), x1, x2, x3, some (.str w'), y5] ∧ S' = put S p a' b' c' ∧ grows j w')
    (env := [some (.ref p), x1, x2, x3, some (.str w), x5]) (S := put S p a b c) ⟨w, a, b, c, x5, rfl, rfl, hw⟩ (fun _ _ _ _ => rfl) (fun j x env S' hx ⟨w1, a1, b1, c1, y5, e1, e2, hg⟩ => by
      subst e1 e2
      have hj : j < n.toNat := by
        have := (List.getElem?_eq_some_iff.mp hx).1
        simpa using this
      obtain ⟨d, a2, b2, c2, e2, d0, d1⟩ := hT S p 36 a1 b1 c1 hp (by decide) (by decide)
      obtain ⟨ch, e3, hc⟩ := sgn_at (S := put S p a2 b2 c2) d0 d1
      have e3 : idxV (put S p a2 b2 c2) (.str "abcdefghijklmnopqrstuvwxyz0123456789") (.int d) = some (.str ⟨#[ch]⟩) := e3
      have hl := grows_len hg
      have hsz : w1.length + (⟨#[ch]⟩ : Str).length ≤ sizeLine := by
        have h1 : (⟨#[ch]⟩ : Str).length = 1 := rfl
        rw [h1, hl]
        unfold sizeLine
        omega
      refine ⟨_, rfl, [some (.ref p), x1, x2, x3, some (.str (w1 ++ ⟨#[ch]⟩)), some x], put S p a2 b2 c2, ?_, w1 ++ ⟨#[ch]⟩, a2, b2, c2, some x, rfl, rfl, grows_more hg hc⟩
      simp only [x_law_name_0, ex, ev, evs, get0, getS, xR, Bool.false_eq_true, if_false, if_true, Out.bind_ok, ofOpt_some, thn_ok, Fl.bind_nx, Fl.bind_rt, List.append_nil, List.cons_append, List.nil_append, arrange, e2, e3, binR, hsz, bindP, List.set_cons_zero, List.set_cons_succ])
  refine ⟨w', a', b', c', y5, ef, grows_nm hg ?_⟩
  rw [List.length_map, List.length_range]
  omega
theorem name_ex {G : Gl} {C : CallF} (hT : CanTake C) {S : Store} {p : Nat} {a b c : Int} (hp : p < S.length) :
    ∃ w a' b' c', ex G C b_law_name [some (.ref p), none, none, none, none, none] (put S p a b c) = .rt (.str w) (put S p a' b' c') ∧ isNm w = true := by
  obtain ⟨way, a1, b1, c1, e1, w0, w1⟩ := hT S p 7 a b c hp (by decide) (by decide)
  obtain ⟨size, a2, b2, c2, e2, z0, z1⟩ := hT S p 8 a1 b1 c1 hp (by decide) (by decide)
  by_cases hw : way = 0
  · subst hw
    obtain ⟨d, a3, b3, c3, e3, d0, d1⟩ := hT S p 11 a2 b2 c2 hp (by decide) (by decide)
    obtain ⟨n, rfl⟩ := Int.eq_ofNat_of_zero_le d0
    have hn : n < WRD.length := by have : WRD.length = 11 := rfl; omega
    refine ⟨WRD[n], a3, b3, c3, ?_, wrd_nm _ (List.getElem_mem hn)⟩
    have hi : L2.atI (WRD.map PV.str) (n : Int) = some (.str WRD[n]) := by rw [atI_nat, List.getElem?_map, List.getElem?_eq_getElem hn]; rfl
    have hsz : (WRD.map PV.str).length ≤ sizeLine := by decide +kernel
    have hi2 : L2.atI [PV.str "table", .str "key", .str "refer", .str "from", .str "keep", .str "join", .str "sort", .str "cut", .str "per", .str "all", .str "show"] (n : Int) = some (.str WRD[n]) := hi
    have hsz2 : ([PV.str "table", .str "key", .str "refer", .str "from", .str "keep", .str "join", .str "sort", .str "cut", .str "per", .str "all", .str "show"]).length ≤ sizeLine := hsz
    simp only [b_law_name, ex, ev, evs, get0, getS, xR, Bool.false_eq_true, if_false, if_true, Out.bind_ok, ofOpt_some, thn_ok, Fl.bind_nx, Fl.bind_rt, List.append_nil, List.cons_append, List.nil_append, arrange, e1, e2, e3, setMany, cmpR', truthR, Option.map_some, bindP, idxR, hi2, hsz2, List.set_cons_zero, List.set_cons_succ, decide_true]
  · obtain ⟨d, a3, b3, c3, e3, d0, d1⟩ := hT S p 26 a2 b2 c2 hp (by decide) (by decide)
    obtain ⟨ch, e4, hc⟩ := let_at (S := put S p a3 b3 c3) d0 d1
    have e4 : idxV (put S p a3 b3 c3) (.str "abcdefghijklmnopqrstuvwxyz") (.int d) = some (.str ⟨#[ch]⟩) := e4
    by_cases h4 : way < 4
    · obtain ⟨w', a', b', c', y5, ef, hn⟩ := name_loop (G := G) hT (S := S) (p := p) (a := a3) (b := b3) (c := c3) (n := size) (x1 := some (.int way)) (x2 := some (.int size)) (x3 := none) (x5 := none) hp (by omega) (grows_one hc)
      refine ⟨w', a', b', c', ?_, hn⟩
      have hr := range1 (in62_of z0 (by omega))
      simp only [b_law_name, ex, ev, evs, get0, getS, xR, Bool.false_eq_true, if_false, if_true, Out.bind_ok, ofOpt_some, thn_ok, Fl.bind_nx, Fl.bind_rt, List.append_nil, List.cons_append, List.nil_append, arrange, e1, e2, e3, e4, setMany, cmpR', truthR, Option.map_some, bindP, idxR, List.set_cons_zero, List.set_cons_succ, decide_true, decide_false, hw, h4, hr, vwR, ef]
    · obtain ⟨w', a', b', c', y5, ef, hn⟩ := name_loop (G := G) hT (S := S) (p := p) (a := a3) (b := b3) (c := c3) (n := size / 3) (x1 := some (.int way)) (x2 := some (.int size)) (x3 := none) (x5 := none) hp (by omega) (grows_one hc)
      refine ⟨w', a', b', c', ?_, hn⟩
      have hr := range1 (n := size / 3) (in62_of (by omega) (by omega))
      simp only [b_law_name, ex, ev, evs, get0, getS, xR, Bool.false_eq_true, if_false, if_true, Out.bind_ok, ofOpt_some, thn_ok, Fl.bind_nx, Fl.bind_rt, List.append_nil, List.cons_append, List.nil_append, arrange, e1, e2, e3, e4, setMany, cmpR', truthR, Option.map_some, bindP, idxR, binR, List.set_cons_zero, List.set_cons_succ, decide_true, decide_false, hw, h4, hr, vwR, ef, Int.reduceLT, and_self]
def CanName (C : CallF) : Prop := ∀ (S : Store) (p : Nat) (a b c : Int), p < S.length → ∃ w a' b' c', C i_law_name [.ref p] (put S p a b c) = .ok (.str w) (put S p a' b' c') ∧ isNm w = true
theorem can_name (k : Nat) : CanName (call GG fns (k + 2)) := fun S p a b c hp => by
  obtain ⟨w, a', b', c', e, h⟩ := name_ex (G := GG) (can_take k) (a := a) (b := b) (c := c) hp
  refine ⟨w, a', b', c', ?_, h⟩
  rw [call_at fn_law_name rfl]
  show endF true (put S p a b c).length (ex GG (call GG fns (k + 1)) b_law_name [some (.ref p), none, none, none, none, none] (put S p a b c)) = _
  rw [e, end_rt rfl, put_all]
theorem first_out {α : Type} [DecidableEq α] : ∀ {l ws : List α}, l.Nodup → ws.length < l.length → ∃ x r, l.filter (fun x => decide (x ∉ ws)) = x :: r
  | [], ws, _, h => by cases h
  | a :: l, ws, hn, h => by
    by_cases ha : a ∈ ws
    · have hn2 := (List.nodup_cons.mp hn).2
      have ha2 := (List.nodup_cons.mp hn).1
      have hlt : (ws.erase a).length < l.length := by
        rw [List.length_erase_of_mem ha]
        rw [List.length_cons] at h
        have : 0 < ws.length := List.length_pos_of_mem ha
        omega
      obtain ⟨x, r, e⟩ := first_out hn2 hlt
      have e2 : l.filter (fun x => decide (x ∉ ws)) = l.filter (fun x => decide (x ∉ ws.erase a)) := List.filter_congr fun y hy => by
        have : y ≠ a := fun e => ha2 (e ▸ hy)
        simp [List.mem_erase_of_ne this]
      exact ⟨x, r, by rw [List.filter_cons_of_neg (by simp [ha]), e2, e]⟩
    · exact ⟨a, _, by rw [List.filter_cons_of_pos (by simp [ha])]⟩
end RF.K
namespace RF.K
open RF PySem
/-! drawn steps as values -/
abbrev kI : Enc.Its (Str × Str × List Str) := Enc.more Enc.str (Enc.more Enc.str (Enc.last sE))
abbrev jI : Enc.Its (Str × Str × List (List Str)) := Enc.more Enc.str (Enc.more Enc.str (Enc.last kE))
abbrev sI : Enc.Its (Str × List Str) := Enc.more Enc.str (Enc.last sE)
abbrev cI : Enc.Its (Str × Int × Option Int × List Str) := Enc.more Enc.str (Enc.more Enc.int (Enc.more Enc.oint (Enc.last sE)))
def actD : Stp → PyData
  | .keep t cols => (Enc.mix kI).pd ("keep", t, cols)
  | .join t prs => (Enc.mix jI).pd ("join", t, prs)
  | .sort cols => (Enc.mix sI).pd ("sort", cols)
  | .cut st cnt per => (Enc.mix cI).pd ("cut", st, cnt, per)
theorem eq_first {a b : Str} {x y : List PyData} (h : (a == b) = false) : PyData.eqv (.tuple (.str a :: x)) (.tuple (.str b :: y)) = false := by
  show ((a == b) && PyData.eqvAll x y) = false
  rw [h]; rfl
theorem words : (("keep" : Str) == "join") = false ∧ (("keep" : Str) == "sort") = false ∧ (("keep" : Str) == "cut") = false ∧ (("join" : Str) == "keep") = false ∧ (("join" : Str) == "sort") = false ∧ (("join" : Str) == "cut") = false ∧ (("sort" : Str) == "keep") = false ∧ (("sort" : Str) == "join") = false ∧ (("sort" : Str) == "cut") = false ∧ (("cut" : Str) == "keep") = false ∧ (("cut" : Str) == "join") = false ∧ (("cut" : Str) == "sort") = false := by decide +kernel
theorem strOk_of (s : String) : PyData.strOk (Str.ofString s) = true := okT_iff.mpr (okT_of s)
theorem keep_good {t : Str} {cols : List Str} (h : FineS (.keep t cols)) : (Enc.mix kI).good ("keep", t, cols) := ⟨strOk_of _, (isNm_okS h.1).1, okL_good (fine_ok h).2⟩
theorem join_good {t : Str} {cols : List (List Str)} (h : FineS (.join t cols)) : (Enc.mix jI).good ("join", t, cols) := ⟨strOk_of _, (isNm_okS h.1).1, okLL_good (fine_ok h).2⟩
theorem sort_good {cols : List Str} (h : FineS (.sort cols)) : (Enc.mix sI).good ("sort", cols) := ⟨strOk_of _, okL_good (fine_ok h)⟩
theorem cut_good {st : Int} {cnt : Option Int} {per : List Str} (h : FineS (.cut st cnt per)) : (Enc.mix cI).good ("cut", st, cnt, per) := ⟨strOk_of _, dig_short h.1, fine_cnt h, okL_good (fine_ok h)⟩
def aE : Enc Stp where
  pv := actV
  pd := actD
  good := FineS
  dp := 3
  toD s := by
    cases s with
    | keep t cols => exact (Enc.mix kI).toD ("keep", t, cols)
    | join t cols => exact (Enc.mix jI).toD ("join", t, cols)
    | sort cols => exact (Enc.mix sI).toD ("sort", cols)
    | cut a b c => exact (Enc.mix cI).toD ("cut", a, b, c)
  eqv a b := by
    cases a <;> cases b
    · exact ((Enc.mix kI).eqv _ _).trans (decide_eq_decide.mpr (by simp))
    · rw [decide_eq_false (by simp)]; exact eq_first words.1
    · rw [decide_eq_false (by simp)]; exact eq_first words.2.1
    · rw [decide_eq_false (by simp)]; exact eq_first words.2.2.1
    · rw [decide_eq_false (by simp)]; exact eq_first words.2.2.2.1
    · exact ((Enc.mix jI).eqv _ _).trans (decide_eq_decide.mpr (by simp))
    · rw [decide_eq_false (by simp)]; exact eq_first words.2.2.2.2.1
    · rw [decide_eq_false (by simp)]; exact eq_first words.2.2.2.2.2.1
    · rw [decide_eq_false (by simp)]; exact eq_first words.2.2.2.2.2.2.1
    · rw [decide_eq_false (by simp)]; exact eq_first words.2.2.2.2.2.2.2.1
    · exact ((Enc.mix sI).eqv _ _).trans (decide_eq_decide.mpr (by simp))
    · rw [decide_eq_false (by simp)]; exact eq_first words.2.2.2.2.2.2.2.2.1
    · rw [decide_eq_false (by simp)]; exact eq_first words.2.2.2.2.2.2.2.2.2.1
    · rw [decide_eq_false (by simp)]; exact eq_first words.2.2.2.2.2.2.2.2.2.2.1
    · rw [decide_eq_false (by simp)]; exact eq_first words.2.2.2.2.2.2.2.2.2.2.2
    · exact ((Enc.mix cI).eqv _ _).trans (decide_eq_decide.mpr (by simp))
  lay s h := by
    cases s
    · exact (Enc.mix kI).lay _ (keep_good h)
    · exact (Enc.mix jI).lay _ (join_good h)
    · exact (Enc.mix sI).lay _ (sort_good h)
    · exact (Enc.mix cI).lay _ (cut_good h)
  dep s := by
    cases s
    · exact Nat.le_trans ((Enc.mix kI).dep _) (by decide)
    · exact Nat.le_trans ((Enc.mix jI).dep _) (by decide)
    · exact Nat.le_trans ((Enc.mix sI).dep _) (by decide)
    · exact Nat.le_trans ((Enc.mix cI).dep _) (by decide)
  vw _ s := by cases s <;> rfl
  pure s := by
    cases s
    · exact (Enc.mix kI).pure ("keep", _, _)
    · exact (Enc.mix jI).pure ("join", _, _)
    · exact (Enc.mix sI).pure ("sort", _)
    · exact (Enc.mix cI).pure ("cut", _, _, _)
  sho s h := by
    cases s
    · exact (Enc.mix kI).sho _ (keep_good h)
    · exact (Enc.mix jI).sho _ (join_good h)
    · exact (Enc.mix sI).sho _ (sort_good h)
    · exact (Enc.mix cI).sho _ (cut_good h)
theorem dig_wt {i : Int} (h : digB i = true) : PyData.weight (.int i) ≤ 4 := by
  rcases dig_cases h with rfl | rfl | rfl | rfl | rfl | rfl | rfl | rfl | rfl | rfl <;> decide +kernel
theorem act_wt : ∀ {s : Stp}, FineS s → PyData.weight (aE.pd s) ≤ 1000
  | .keep t cols, ⟨h1, h2, h3, h4⟩ => by
    have g1 : PyData.weight (Enc.str.pd t) ≤ 8 := Enc.wt_str (nm_le h1)
    have g2 : PyData.weight (sE.pd cols) ≤ 4 * (17 + 1) := Enc.str.wt_tup (fun w hw => full_le (h4 w hw)) h3
    have g0 : PyData.weight (Enc.str.pd "keep") ≤ 8 := by decide +kernel
    show PyData.weight (Enc.str.pd "keep") + 1 + (PyData.weight (Enc.str.pd t) + 1 + (PyData.weight (sE.pd cols) + 1 + 0)) ≤ 1000
    omega
  | .join t prs, ⟨h1, h2, h3, h4, h5⟩ => by
    have g1 : PyData.weight (Enc.str.pd t) ≤ 8 := Enc.wt_str (nm_le h1)
    have g2 : PyData.weight (kE.pd prs) ≤ 4 * (2 * (17 + 1) + 1) := sE.wt_tup (fun p hp => by
      obtain ⟨a, b, rfl, ha, hb, _⟩ := pair_parts (h4 p hp)
      exact Enc.str.wt_tup (fun w hw => by
        rcases List.mem_cons.mp hw with rfl | hw
        · exact full_le ha
        · rw [List.mem_singleton.mp hw]; exact full_le hb) (Nat.le_refl 2)) h3
    have g0 : PyData.weight (Enc.str.pd "join") ≤ 8 := by decide +kernel
    show PyData.weight (Enc.str.pd "join") + 1 + (PyData.weight (Enc.str.pd t) + 1 + (PyData.weight (kE.pd prs) + 1 + 0)) ≤ 1000
    omega
  | .sort cols, ⟨h1, h2, h3, h4⟩ => by
    have g2 : PyData.weight (sE.pd cols) ≤ 20 * (18 + 1) := Enc.str.wt_tup (fun w hw => (bare_le (h3 w hw)).1) h2
    have g0 : PyData.weight (Enc.str.pd "sort") ≤ 8 := by decide +kernel
    show PyData.weight (Enc.str.pd "sort") + 1 + (PyData.weight (sE.pd cols) + 1 + 0) ≤ 1000
    omega
  | .cut st cnt per, ⟨h1, h2, h3, h4, h5⟩ => by
    have g1 : PyData.weight (Enc.int.pd st) ≤ 4 := dig_wt h1
    have g3 : PyData.weight (Enc.oint.pd cnt) ≤ 4 := by
      cases cnt with
      | none => exact Nat.zero_le _
      | some c => exact dig_wt (h2 c rfl)
    have g2 : PyData.weight (sE.pd per) ≤ 4 * (17 + 1) := Enc.str.wt_tup (fun w hw => full_le (h4 w hw)) h3
    have g0 : PyData.weight (Enc.str.pd "cut") ≤ 8 := by decide +kernel
    show PyData.weight (Enc.str.pd "cut") + 1 + (PyData.weight (Enc.int.pd st) + 1 + (PyData.weight (Enc.oint.pd cnt) + 1 + (PyData.weight (sE.pd per) + 1 + 0))) ≤ 1000
    omega
def shownS (s : Stp) : Str := (aE.pd s).shown
theorem repr_act {s : Stp} (h : FineS s) (S : Store) : bfnV S .repr [actV s] = some (.str (shownS s)) := reprS (aE.repr_ok S h (by decide) (Nat.le_trans (act_wt h) (by decide)))
def CanParts (C : CallF) : Prop := ∀ S s, FineS s → C i_law_parts [actV s, s.obj] S = .ok (.str (shownS s)) S
theorem can_parts (k : Nat) : CanParts (call GG fns (k + 1)) := fun S s h => by
  have h1 := repr_act h S
  cases s with
  | keep t cols =>
    have h1 : bfnV S .repr [.tup [.str "keep", .str t, strsV cols]] = some (.str (shownS (.keep t cols))) := h1
    have e : ex GG (call GG fns k) b_law_parts [some (.tup [.str "keep", .str t, strsV cols]), some (.obj k_Keep [.str t, strsV cols])] S = .rt (.str (shownS (.keep t cols))) S := by
      simp only [b_law_parts, obj_x, at3, kinds, attr_keep, h1, strsP_nil, strsP_cons, List.foldl_cons, List.foldl_nil, empty_app, kindR, bmtKR, ↓ex_seq_skip, szR, boolsP_mapf, boolsP_map, List.all_map, List.any_map, Function.comp_def, id_eq, ev_k, ev_v, ev_xattr, ev_tup, ev_lst, ev_lstR, ev_bin, ev_cmp, ev_chain, ev_neg, ev_not, ev_and, ev_or, ev_ite, ev_call, ev_bfn, ev_listR, ev_bmt, ev_mmt, ev_isI, ev_attr, ev_idx, ev_slc, ev_rev, ev_comp, ev_compR, ev_fmt, ev_one, ev_fstr, ev_ocmp, ev_ostr, ex_ite, ex_skip, ex_seq, ex_set, ex_par, ex_setT, ex_setAttr, ex_setIdx, ex_expr, ex_for, ex_ret, ex_raise, evs_nil, evs_cons, evs_star, evs_itV, evs_itR1, evs_itR2, evs_itEnum, setTs_nil, setTs_v, setTs_ix, get0, getS, xR, xD, Bool.false_eq_true, if_false, if_true, nBok, nBex, nOpt, nTok, nTex, nFnx, nFrt, nFxc, nMap, List.append_nil, List.cons_append, List.nil_append, arrange, bindP, setMany, wipeP, List.set_cons_zero, List.set_cons_succ, List.length_cons, List.length_nil, PV.pures, PV.pure, Bool.and_self, Bool.true_and, Bool.and_true, and_self, and_true, true_and, vwR, truthR, cmpR', inR, eqS, isR, itR, stR, nilR, partR, slcR, revR, binR, bfnR, idxR, ifT_some, cond_t, cond_f, orB, andB, thnB, bindB, flB, flNx, Bool.not_true, Bool.not_false, decide_true, decide_false, Int.reduceLT]
    show call GG fns (k + 1) i_law_parts [.tup [.str "keep", .str t, strsV cols], .obj k_Keep [.str t, strsV cols]] S = _
    rw [call_rt fn_law_parts rfl e rfl rfl rfl rfl, take_all]
  | join t cols =>
    have h1 : bfnV S .repr [.tup [.str "join", .str t, keysV cols]] = some (.str (shownS (.join t cols))) := h1
    have e : ex GG (call GG fns k) b_law_parts [some (.tup [.str "join", .str t, keysV cols]), some (.obj k_Join [.str t, keysV cols])] S = .rt (.str (shownS (.join t cols))) S := by
      simp only [b_law_parts, obj_x, at3, kinds, attr_join, h1, strsP_nil, strsP_cons, List.foldl_cons, List.foldl_nil, empty_app, kindR, bmtKR, ↓ex_seq_skip, szR, boolsP_mapf, boolsP_map, List.all_map, List.any_map, Function.comp_def, id_eq, ev_k, ev_v, ev_xattr, ev_tup, ev_lst, ev_lstR, ev_bin, ev_cmp, ev_chain, ev_neg, ev_not, ev_and, ev_or, ev_ite, ev_call, ev_bfn, ev_listR, ev_bmt, ev_mmt, ev_isI, ev_attr, ev_idx, ev_slc, ev_rev, ev_comp, ev_compR, ev_fmt, ev_one, ev_fstr, ev_ocmp, ev_ostr, ex_ite, ex_skip, ex_seq, ex_set, ex_par, ex_setT, ex_setAttr, ex_setIdx, ex_expr, ex_for, ex_ret, ex_raise, evs_nil, evs_cons, evs_star, evs_itV, evs_itR1, evs_itR2, evs_itEnum, setTs_nil, setTs_v, setTs_ix, get0, getS, xR, xD, Bool.false_eq_true, if_false, if_true, nBok, nBex, nOpt, nTok, nTex, nFnx, nFrt, nFxc, nMap, List.append_nil, List.cons_append, List.nil_append, arrange, bindP, setMany, wipeP, List.set_cons_zero, List.set_cons_succ, List.length_cons, List.length_nil, PV.pures, PV.pure, Bool.and_self, Bool.true_and, Bool.and_true, and_self, and_true, true_and, vwR, truthR, cmpR', inR, eqS, isR, itR, stR, nilR, partR, slcR, revR, binR, bfnR, idxR, ifT_some, cond_t, cond_f, orB, andB, thnB, bindB, flB, flNx, Bool.not_true, Bool.not_false, decide_true, decide_false, Int.reduceLT]
    show call GG fns (k + 1) i_law_parts [.tup [.str "join", .str t, keysV cols], .obj k_Join [.str t, keysV cols]] S = _
    rw [call_rt fn_law_parts rfl e rfl rfl rfl rfl, take_all]
  | sort cols =>
    have h1 : bfnV S .repr [.tup [.str "sort", strsV cols]] = some (.str (shownS (.sort cols))) := h1
    have e : ex GG (call GG fns k) b_law_parts [some (.tup [.str "sort", strsV cols]), some (.obj k_Sort [strsV cols])] S = .rt (.str (shownS (.sort cols))) S := by
      simp only [b_law_parts, obj_x, at2, kinds, attr_sort, h1, strsP_nil, strsP_cons, List.foldl_cons, List.foldl_nil, empty_app, kindR, bmtKR, ↓ex_seq_skip, szR, boolsP_mapf, boolsP_map, List.all_map, List.any_map, Function.comp_def, id_eq, ev_k, ev_v, ev_xattr, ev_tup, ev_lst, ev_lstR, ev_bin, ev_cmp, ev_chain, ev_neg, ev_not, ev_and, ev_or, ev_ite, ev_call, ev_bfn, ev_listR, ev_bmt, ev_mmt, ev_isI, ev_attr, ev_idx, ev_slc, ev_rev, ev_comp, ev_compR, ev_fmt, ev_one, ev_fstr, ev_ocmp, ev_ostr, ex_ite, ex_skip, ex_seq, ex_set, ex_par, ex_setT, ex_setAttr, ex_setIdx, ex_expr, ex_for, ex_ret, ex_raise, evs_nil, evs_cons, evs_star, evs_itV, evs_itR1, evs_itR2, evs_itEnum, setTs_nil, setTs_v, setTs_ix, get0, getS, xR, xD, Bool.false_eq_true, if_false, if_true, nBok, nBex, nOpt, nTok, nTex, nFnx, nFrt, nFxc, nMap, List.append_nil, List.cons_append, List.nil_append, arrange, bindP, setMany, wipeP, List.set_cons_zero, List.set_cons_succ, List.length_cons, List.length_nil, PV.pures, PV.pure, Bool.and_self, Bool.true_and, Bool.and_true, and_self, and_true, true_and, vwR, truthR, cmpR', inR, eqS, isR, itR, stR, nilR, partR, slcR, revR, binR, bfnR, idxR, ifT_some, cond_t, cond_f, orB, andB, thnB, bindB, flB, flNx, Bool.not_true, Bool.not_false, decide_true, decide_false, Int.reduceLT]
    show call GG fns (k + 1) i_law_parts [.tup [.str "sort", strsV cols], .obj k_Sort [strsV cols]] S = _
    rw [call_rt fn_law_parts rfl e rfl rfl rfl rfl, take_all]
  | cut st cnt per =>
    have h1 : bfnV S .repr [.tup [.str "cut", .int st, cntV cnt, strsV per]] = some (.str (shownS (.cut st cnt per))) := h1
    have e : ex GG (call GG fns k) b_law_parts [some (.tup [.str "cut", .int st, cntV cnt, strsV per]), some (.obj k_Cut [.int st, cntV cnt, strsV per])] S = .rt (.str (shownS (.cut st cnt per))) S := by
      simp only [b_law_parts, obj_x, at4, kinds, attr_cut, h1, strsP_nil, strsP_cons, List.foldl_cons, List.foldl_nil, empty_app, kindR, bmtKR, ↓ex_seq_skip, szR, boolsP_mapf, boolsP_map, List.all_map, List.any_map, Function.comp_def, id_eq, ev_k, ev_v, ev_xattr, ev_tup, ev_lst, ev_lstR, ev_bin, ev_cmp, ev_chain, ev_neg, ev_not, ev_and, ev_or, ev_ite, ev_call, ev_bfn, ev_listR, ev_bmt, ev_mmt, ev_isI, ev_attr, ev_idx, ev_slc, ev_rev, ev_comp, ev_compR, ev_fmt, ev_one, ev_fstr, ev_ocmp, ev_ostr, ex_ite, ex_skip, ex_seq, ex_set, ex_par, ex_setT, ex_setAttr, ex_setIdx, ex_expr, ex_for, ex_ret, ex_raise, evs_nil, evs_cons, evs_star, evs_itV, evs_itR1, evs_itR2, evs_itEnum, setTs_nil, setTs_v, setTs_ix, get0, getS, xR, xD, Bool.false_eq_true, if_false, if_true, nBok, nBex, nOpt, nTok, nTex, nFnx, nFrt, nFxc, nMap, List.append_nil, List.cons_append, List.nil_append, arrange, bindP, setMany, wipeP, List.set_cons_zero, List.set_cons_succ, List.length_cons, List.length_nil, PV.pures, PV.pure, Bool.and_self, Bool.true_and, Bool.and_true, and_self, and_true, true_and, vwR, truthR, cmpR', inR, eqS, isR, itR, stR, nilR, partR, slcR, revR, binR, bfnR, idxR, ifT_some, cond_t, cond_f, orB, andB, thnB, bindB, flB, flNx, Bool.not_true, Bool.not_false, decide_true, decide_false, Int.reduceLT]
    show call GG fns (k + 1) i_law_parts [.tup [.str "cut", .int st, cntV cnt, strsV per], .obj k_Cut [.int st, cntV cnt, strsV per]] S = _
    rw [call_rt fn_law_parts rfl e rfl rfl rfl rfl, take_all]
/-! the program's steps, made -/
theorem gc_step (S : Store) (c : Nat) (l : List PV) : gcV S.length (.ref S.length) (S ++ [.inst c l]) = .ok (.obj c l) S := by
  have e : (S ++ [SO.inst c l])[S.length]? = some (.inst c l) := by
    rw [List.getElem?_append_right (Nat.le_refl _), Nat.sub_self]; rfl
  unfold gcV
  simp only [e, Nat.lt_irrefl, if_false]
  rw [List.take_left' rfl]
theorem obj_pure (s : Stp) : s.obj.pure = true := by
  cases s with
  | keep t cols => exact (Enc.mix (Enc.more Enc.str (Enc.last sE))).pure (t, cols)
  | join t cols => exact (Enc.mix (Enc.more Enc.str (Enc.last kE))).pure (t, cols)
  | sort cols => exact (Enc.mix (Enc.last sE)).pure cols
  | cut a b c => exact (Enc.mix (Enc.more Enc.int (Enc.more Enc.oint (Enc.last sE)))).pure (a, b, c)
theorem empty_strs {l : List Str} (h : okL l) (S : Store) : cmpV S .eq (.tup (l.map .str)) (.tup []) = some l.isEmpty := (sE.cmp_eq S (a := l) (b := []) (okL_good h) (fun _ h => (by cases h)) (by decide)).trans (by cases l <;> rfl)
theorem cls_init : ci_Keep.init = i_Keep_init ∧ ci_Keep.frozen = true ∧ ci_Join.init = i_Join_init ∧ ci_Join.frozen = true ∧ ci_Sort.init = i_Sort_init ∧ ci_Sort.frozen = true ∧ ci_Cut.init = i_Cut_init ∧ ci_Cut.frozen = true := ⟨rfl, rfl, rfl, rfl, rfl, rfl, rfl, rfl⟩
def CanAct (C : CallF) : Prop := ∀ (S : Store) (p : Nat) (a b c : Int) s, p < S.length → FineS s → ∃ a' b' c', C i_law_act [.ref p, actV s] (put S p a b c) = .ok s.obj (put S p a' b' c')
theorem can_act (k : Nat) : CanAct (call GG fns (k + 5)) := fun S p a b c s hp h => by
  obtain ⟨way, a1, b1, c1, e1, l1, u1⟩ := can_take (k + 3) S p 3 a b c hp (by decide) (by decide)
  have ok := fine_ok h
  have hn := fine_none h
  have hg := gc_step (put S p a1 b1 c1)
  have done : ex GG (call GG fns (k + 4)) b_law_act [some (.ref p), some (actV s), none, none] (put S p a b c) = .rt s.obj (put S p a1 b1 c1) → ∃ a' b' c', call GG fns (k + 5) i_law_act [.ref p, actV s] (put S p a b c) = .ok s.obj (put S p a' b' c') := fun e =>
    ⟨a1, b1, c1, by rw [call_rt fn_law_act rfl e rfl rfl (obj_pure s) rfl, put_all]⟩
  refine done ?_
  cases s with
  | keep t cols =>
    have hT := can_keep (k + 1) (put S p a1 b1 c1) t cols ok.1 ok.2
    rw [hn] at hT
    simp only [madeE] at hT
    simp only [actV, Stp.obj, Stp.cls, Stp.flds]
    by_cases q : 0 < way <;> simp only [b_law_act, e1, at3, q, kinds, ev_new, cls_Keep, cls_init, hT, hg, strsP_nil, strsP_cons, List.foldl_cons, List.foldl_nil, empty_app, kindR, bmtKR, ↓ex_seq_skip, szR, boolsP_mapf, boolsP_map, List.all_map, List.any_map, Function.comp_def, id_eq, ev_k, ev_v, ev_xattr, ev_tup, ev_lst, ev_lstR, ev_bin, ev_cmp, ev_chain, ev_neg, ev_not, ev_and, ev_or, ev_ite, ev_call, ev_bfn, ev_listR, ev_bmt, ev_mmt, ev_isI, ev_attr, ev_idx, ev_slc, ev_rev, ev_comp, ev_compR, ev_fmt, ev_one, ev_fstr, ev_ocmp, ev_ostr, ex_ite, ex_skip, ex_seq, ex_set, ex_par, ex_setT, ex_setAttr, ex_setIdx, ex_expr, ex_for, ex_ret, ex_raise, evs_nil, evs_cons, evs_star, evs_itV, evs_itR1, evs_itR2, evs_itEnum, setTs_nil, setTs_v, setTs_ix, get0, getS, xR, xD, Bool.false_eq_true, if_false, if_true, nBok, nBex, nOpt, nTok, nTex, nFnx, nFrt, nFxc, nMap, List.append_nil, List.cons_append, List.nil_append, arrange, bindP, setMany, wipeP, List.set_cons_zero, List.set_cons_succ, List.length_cons, List.length_nil, PV.pures, PV.pure, Bool.and_self, Bool.true_and, Bool.and_true, and_self, and_true, true_and, vwR, truthR, cmpR', inR, eqS, isR, itR, stR, nilR, partR, slcR, revR, binR, bfnR, idxR, ifT_some, cond_t, cond_f, orB, andB, thnB, bindB, flB, flNx, Bool.not_true, Bool.not_false, decide_true, decide_false, Int.reduceLT]
  | join t cols =>
    have hT := can_join k (put S p a1 b1 c1) t cols ok.1 ok.2
    rw [hn] at hT
    simp only [madeE] at hT
    simp only [actV, Stp.obj, Stp.cls, Stp.flds]
    by_cases q : 0 < way <;> simp only [b_law_act, e1, at3, q, kinds, ev_new, cls_Join, cls_init, hT, hg, strsP_nil, strsP_cons, List.foldl_cons, List.foldl_nil, empty_app, kindR, bmtKR, ↓ex_seq_skip, szR, boolsP_mapf, boolsP_map, List.all_map, List.any_map, Function.comp_def, id_eq, ev_k, ev_v, ev_xattr, ev_tup, ev_lst, ev_lstR, ev_bin, ev_cmp, ev_chain, ev_neg, ev_not, ev_and, ev_or, ev_ite, ev_call, ev_bfn, ev_listR, ev_bmt, ev_mmt, ev_isI, ev_attr, ev_idx, ev_slc, ev_rev, ev_comp, ev_compR, ev_fmt, ev_one, ev_fstr, ev_ocmp, ev_ostr, ex_ite, ex_skip, ex_seq, ex_set, ex_par, ex_setT, ex_setAttr, ex_setIdx, ex_expr, ex_for, ex_ret, ex_raise, evs_nil, evs_cons, evs_star, evs_itV, evs_itR1, evs_itR2, evs_itEnum, setTs_nil, setTs_v, setTs_ix, get0, getS, xR, xD, Bool.false_eq_true, if_false, if_true, nBok, nBex, nOpt, nTok, nTex, nFnx, nFrt, nFxc, nMap, List.append_nil, List.cons_append, List.nil_append, arrange, bindP, setMany, wipeP, List.set_cons_zero, List.set_cons_succ, List.length_cons, List.length_nil, PV.pures, PV.pure, Bool.and_self, Bool.true_and, Bool.and_true, and_self, and_true, true_and, vwR, truthR, cmpR', inR, eqS, isR, itR, stR, nilR, partR, slcR, revR, binR, bfnR, idxR, ifT_some, cond_t, cond_f, orB, andB, thnB, bindB, flB, flNx, Bool.not_true, Bool.not_false, decide_true, decide_false, Int.reduceLT]
  | sort cols =>
    have hT := can_sort (k + 1) (put S p a1 b1 c1) cols ok
    rw [hn] at hT
    simp only [madeE] at hT
    simp only [actV, Stp.obj, Stp.cls, Stp.flds]
    by_cases q : 0 < way <;> simp only [b_law_act, e1, at2, q, kinds, ev_new, cls_Sort, cls_init, hT, hg, strsP_nil, strsP_cons, List.foldl_cons, List.foldl_nil, empty_app, kindR, bmtKR, ↓ex_seq_skip, szR, boolsP_mapf, boolsP_map, List.all_map, List.any_map, Function.comp_def, id_eq, ev_k, ev_v, ev_xattr, ev_tup, ev_lst, ev_lstR, ev_bin, ev_cmp, ev_chain, ev_neg, ev_not, ev_and, ev_or, ev_ite, ev_call, ev_bfn, ev_listR, ev_bmt, ev_mmt, ev_isI, ev_attr, ev_idx, ev_slc, ev_rev, ev_comp, ev_compR, ev_fmt, ev_one, ev_fstr, ev_ocmp, ev_ostr, ex_ite, ex_skip, ex_seq, ex_set, ex_par, ex_setT, ex_setAttr, ex_setIdx, ex_expr, ex_for, ex_ret, ex_raise, evs_nil, evs_cons, evs_star, evs_itV, evs_itR1, evs_itR2, evs_itEnum, setTs_nil, setTs_v, setTs_ix, get0, getS, xR, xD, Bool.false_eq_true, if_false, if_true, nBok, nBex, nOpt, nTok, nTex, nFnx, nFrt, nFxc, nMap, List.append_nil, List.cons_append, List.nil_append, arrange, bindP, setMany, wipeP, List.set_cons_zero, List.set_cons_succ, List.length_cons, List.length_nil, PV.pures, PV.pure, Bool.and_self, Bool.true_and, Bool.and_true, and_self, and_true, true_and, vwR, truthR, cmpR', inR, eqS, isR, itR, stR, nilR, partR, slcR, revR, binR, bfnR, idxR, ifT_some, cond_t, cond_f, orB, andB, thnB, bindB, flB, flNx, Bool.not_true, Bool.not_false, decide_true, decide_false, Int.reduceLT]
  | cut st cnt per =>
    have hT := can_cut (k + 1) (put S p a1 b1 c1) st cnt per ok
    rw [hn] at hT
    simp only [madeE] at hT
    have h1 := empty_strs ok (put S p a1 b1 c1)
    have d10 : decide ((1 : Int) = 0) = false := rfl
    simp only [actV, Stp.obj, Stp.cls, Stp.flds]
    by_cases q0 : way = 0
    · simp only [b_law_act, e1, at4, q0, kinds, ev_new, cls_Cut, cls_init, hT, hg, strsP_nil, strsP_cons, List.foldl_cons, List.foldl_nil, empty_app, kindR, bmtKR, ↓ex_seq_skip, szR, boolsP_mapf, boolsP_map, List.all_map, List.any_map, Function.comp_def, id_eq, ev_k, ev_v, ev_xattr, ev_tup, ev_lst, ev_lstR, ev_bin, ev_cmp, ev_chain, ev_neg, ev_not, ev_and, ev_or, ev_ite, ev_call, ev_bfn, ev_listR, ev_bmt, ev_mmt, ev_isI, ev_attr, ev_idx, ev_slc, ev_rev, ev_comp, ev_compR, ev_fmt, ev_one, ev_fstr, ev_ocmp, ev_ostr, ex_ite, ex_skip, ex_seq, ex_set, ex_par, ex_setT, ex_setAttr, ex_setIdx, ex_expr, ex_for, ex_ret, ex_raise, evs_nil, evs_cons, evs_star, evs_itV, evs_itR1, evs_itR2, evs_itEnum, setTs_nil, setTs_v, setTs_ix, get0, getS, xR, xD, Bool.false_eq_true, if_false, if_true, nBok, nBex, nOpt, nTok, nTex, nFnx, nFrt, nFxc, nMap, List.append_nil, List.cons_append, List.nil_append, arrange, bindP, setMany, wipeP, List.set_cons_zero, List.set_cons_succ, List.length_cons, List.length_nil, PV.pures, PV.pure, Bool.and_self, Bool.true_and, Bool.and_true, and_self, and_true, true_and, vwR, truthR, cmpR', inR, eqS, isR, itR, stR, nilR, partR, slcR, revR, binR, bfnR, idxR, ifT_some, cond_t, cond_f, orB, andB, thnB, bindB, flB, flNx, Bool.not_true, Bool.not_false, decide_true, decide_false, Int.reduceLT]
    · by_cases q1 : way = 1
      · cases hp : per.isEmpty with
        | true =>
          obtain rfl := List.isEmpty_iff.mp hp
          rw [hp] at h1
          simp only [List.map_nil, strsV] at hT hg h1 ⊢
          cases cnt with
          | none =>
            have hT : call GG fns (k + 4) i_Cut_init [.ref (put S p a1 b1 c1).length, .int st, .non, .tup []] (put S p a1 b1 c1 ++ [.inst k_Cut []]) = .ok .non (put S p a1 b1 c1 ++ [.inst k_Cut [.int st, cntV none, .tup []]]) := hT
            simp only [b_law_act, e1, at4, q0, q1, d10, h1, isn_cnt, kinds, ev_new, cls_Cut, cls_init, hT, hg, strsP_nil, strsP_cons, List.foldl_cons, List.foldl_nil, empty_app, kindR, bmtKR, ↓ex_seq_skip, szR, boolsP_mapf, boolsP_map, List.all_map, List.any_map, Function.comp_def, id_eq, ev_k, ev_v, ev_xattr, ev_tup, ev_lst, ev_lstR, ev_bin, ev_cmp, ev_chain, ev_neg, ev_not, ev_and, ev_or, ev_ite, ev_call, ev_bfn, ev_listR, ev_bmt, ev_mmt, ev_isI, ev_attr, ev_idx, ev_slc, ev_rev, ev_comp, ev_compR, ev_fmt, ev_one, ev_fstr, ev_ocmp, ev_ostr, ex_ite, ex_skip, ex_seq, ex_set, ex_par, ex_setT, ex_setAttr, ex_setIdx, ex_expr, ex_for, ex_ret, ex_raise, evs_nil, evs_cons, evs_star, evs_itV, evs_itR1, evs_itR2, evs_itEnum, setTs_nil, setTs_v, setTs_ix, get0, getS, xR, xD, Bool.false_eq_true, if_false, if_true, nBok, nBex, nOpt, nTok, nTex, nFnx, nFrt, nFxc, nMap, List.append_nil, List.cons_append, List.nil_append, arrange, bindP, setMany, wipeP, List.set_cons_zero, List.set_cons_succ, List.length_cons, List.length_nil, PV.pures, PV.pure, Bool.and_self, Bool.true_and, Bool.and_true, and_self, and_true, true_and, vwR, truthR, cmpR', inR, eqS, isR, itR, stR, nilR, partR, slcR, revR, binR, bfnR, idxR, ifT_some, cond_t, cond_f, orB, andB, thnB, bindB, flB, flNx, Bool.not_true, Bool.not_false, decide_true, decide_false, Int.reduceLT]
          | some n => simp only [b_law_act, e1, at4, q0, q1, d10, h1, isn_cnt, kinds, ev_new, cls_Cut, cls_init, hT, hg, strsP_nil, strsP_cons, List.foldl_cons, List.foldl_nil, empty_app, kindR, bmtKR, ↓ex_seq_skip, szR, boolsP_mapf, boolsP_map, List.all_map, List.any_map, Function.comp_def, id_eq, ev_k, ev_v, ev_xattr, ev_tup, ev_lst, ev_lstR, ev_bin, ev_cmp, ev_chain, ev_neg, ev_not, ev_and, ev_or, ev_ite, ev_call, ev_bfn, ev_listR, ev_bmt, ev_mmt, ev_isI, ev_attr, ev_idx, ev_slc, ev_rev, ev_comp, ev_compR, ev_fmt, ev_one, ev_fstr, ev_ocmp, ev_ostr, ex_ite, ex_skip, ex_seq, ex_set, ex_par, ex_setT, ex_setAttr, ex_setIdx, ex_expr, ex_for, ex_ret, ex_raise, evs_nil, evs_cons, evs_star, evs_itV, evs_itR1, evs_itR2, evs_itEnum, setTs_nil, setTs_v, setTs_ix, get0, getS, xR, xD, Bool.false_eq_true, if_false, if_true, nBok, nBex, nOpt, nTok, nTex, nFnx, nFrt, nFxc, nMap, List.append_nil, List.cons_append, List.nil_append, arrange, bindP, setMany, wipeP, List.set_cons_zero, List.set_cons_succ, List.length_cons, List.length_nil, PV.pures, PV.pure, Bool.and_self, Bool.true_and, Bool.and_true, and_self, and_true, true_and, vwR, truthR, cmpR', inR, eqS, isR, itR, stR, nilR, partR, slcR, revR, binR, bfnR, idxR, ifT_some, cond_t, cond_f, orB, andB, thnB, bindB, flB, flNx, Bool.not_true, Bool.not_false, decide_true, decide_false, Int.reduceLT]
        | false =>
          rw [hp] at h1
          cases cnt with
          | none =>
            have hT : call GG fns (k + 4) i_Cut_init [.ref (put S p a1 b1 c1).length, .int st, .non, strsV per] (put S p a1 b1 c1 ++ [.inst k_Cut []]) = .ok .non (put S p a1 b1 c1 ++ [.inst k_Cut [.int st, cntV none, strsV per]]) := hT
            simp only [b_law_act, e1, at4, q0, q1, d10, h1, isn_cnt, kinds, ev_new, cls_Cut, cls_init, hT, hg, strsP_nil, strsP_cons, List.foldl_cons, List.foldl_nil, empty_app, kindR, bmtKR, ↓ex_seq_skip, szR, boolsP_mapf, boolsP_map, List.all_map, List.any_map, Function.comp_def, id_eq, ev_k, ev_v, ev_xattr, ev_tup, ev_lst, ev_lstR, ev_bin, ev_cmp, ev_chain, ev_neg, ev_not, ev_and, ev_or, ev_ite, ev_call, ev_bfn, ev_listR, ev_bmt, ev_mmt, ev_isI, ev_attr, ev_idx, ev_slc, ev_rev, ev_comp, ev_compR, ev_fmt, ev_one, ev_fstr, ev_ocmp, ev_ostr, ex_ite, ex_skip, ex_seq, ex_set, ex_par, ex_setT, ex_setAttr, ex_setIdx, ex_expr, ex_for, ex_ret, ex_raise, evs_nil, evs_cons, evs_star, evs_itV, evs_itR1, evs_itR2, evs_itEnum, setTs_nil, setTs_v, setTs_ix, get0, getS, xR, xD, Bool.false_eq_true, if_false, if_true, nBok, nBex, nOpt, nTok, nTex, nFnx, nFrt, nFxc, nMap, List.append_nil, List.cons_append, List.nil_append, arrange, bindP, setMany, wipeP, List.set_cons_zero, List.set_cons_succ, List.length_cons, List.length_nil, PV.pures, PV.pure, Bool.and_self, Bool.true_and, Bool.and_true, and_self, and_true, true_and, vwR, truthR, cmpR', inR, eqS, isR, itR, stR, nilR, partR, slcR, revR, binR, bfnR, idxR, ifT_some, cond_t, cond_f, orB, andB, thnB, bindB, flB, flNx, Bool.not_true, Bool.not_false, decide_true, decide_false, Int.reduceLT]
          | some n => simp only [b_law_act, e1, at4, q0, q1, d10, h1, isn_cnt, kinds, ev_new, cls_Cut, cls_init, hT, hg, strsP_nil, strsP_cons, List.foldl_cons, List.foldl_nil, empty_app, kindR, bmtKR, ↓ex_seq_skip, szR, boolsP_mapf, boolsP_map, List.all_map, List.any_map, Function.comp_def, id_eq, ev_k, ev_v, ev_xattr, ev_tup, ev_lst, ev_lstR, ev_bin, ev_cmp, ev_chain, ev_neg, ev_not, ev_and, ev_or, ev_ite, ev_call, ev_bfn, ev_listR, ev_bmt, ev_mmt, ev_isI, ev_attr, ev_idx, ev_slc, ev_rev, ev_comp, ev_compR, ev_fmt, ev_one, ev_fstr, ev_ocmp, ev_ostr, ex_ite, ex_skip, ex_seq, ex_set, ex_par, ex_setT, ex_setAttr, ex_setIdx, ex_expr, ex_for, ex_ret, ex_raise, evs_nil, evs_cons, evs_star, evs_itV, evs_itR1, evs_itR2, evs_itEnum, setTs_nil, setTs_v, setTs_ix, get0, getS, xR, xD, Bool.false_eq_true, if_false, if_true, nBok, nBex, nOpt, nTok, nTex, nFnx, nFrt, nFxc, nMap, List.append_nil, List.cons_append, List.nil_append, arrange, bindP, setMany, wipeP, List.set_cons_zero, List.set_cons_succ, List.length_cons, List.length_nil, PV.pures, PV.pure, Bool.and_self, Bool.true_and, Bool.and_true, and_self, and_true, true_and, vwR, truthR, cmpR', inR, eqS, isR, itR, stR, nilR, partR, slcR, revR, binR, bfnR, idxR, ifT_some, cond_t, cond_f, orB, andB, thnB, bindB, flB, flNx, Bool.not_true, Bool.not_false, decide_true, decide_false, Int.reduceLT]
      · simp only [b_law_act, e1, at4, q0, q1, kinds, ev_new, cls_Cut, cls_init, hT, hg, strsP_nil, strsP_cons, List.foldl_cons, List.foldl_nil, empty_app, kindR, bmtKR, ↓ex_seq_skip, szR, boolsP_mapf, boolsP_map, List.all_map, List.any_map, Function.comp_def, id_eq, ev_k, ev_v, ev_xattr, ev_tup, ev_lst, ev_lstR, ev_bin, ev_cmp, ev_chain, ev_neg, ev_not, ev_and, ev_or, ev_ite, ev_call, ev_bfn, ev_listR, ev_bmt, ev_mmt, ev_isI, ev_attr, ev_idx, ev_slc, ev_rev, ev_comp, ev_compR, ev_fmt, ev_one, ev_fstr, ev_ocmp, ev_ostr, ex_ite, ex_skip, ex_seq, ex_set, ex_par, ex_setT, ex_setAttr, ex_setIdx, ex_expr, ex_for, ex_ret, ex_raise, evs_nil, evs_cons, evs_star, evs_itV, evs_itR1, evs_itR2, evs_itEnum, setTs_nil, setTs_v, setTs_ix, get0, getS, xR, xD, Bool.false_eq_true, if_false, if_true, nBok, nBex, nOpt, nTok, nTex, nFnx, nFrt, nFxc, nMap, List.append_nil, List.cons_append, List.nil_append, arrange, bindP, setMany, wipeP, List.set_cons_zero, List.set_cons_succ, List.length_cons, List.length_nil, PV.pures, PV.pure, Bool.and_self, Bool.true_and, Bool.and_true, and_self, and_true, true_and, vwR, truthR, cmpR', inR, eqS, isR, itR, stR, nilR, partR, slcR, revR, binR, bfnR, idxR, ifT_some, cond_t, cond_f, orB, andB, thnB, bindB, flB, flNx, Bool.not_true, Bool.not_false, decide_true, decide_false, Int.reduceLT]
end RF.K
namespace RF.K
open RF PySem
/-! full columns drawn -/
def CanLFull (C : CallF) : Prop := ∀ (S : Store) (p : Nat) (a b c : Int), p < S.length → ∃ (w : Str) (a' b' c' : Int), C i_law_full [.ref p] (put S p a b c) = .ok (.str w) (put S p a' b' c') ∧ isFullB w = true
theorem can_lfull (k : Nat) : CanLFull (call GG fns (k + 3)) := fun S p a b c hp => by
  obtain ⟨x, a1, b1, c1, e1, h1⟩ := can_name k S p a b c hp
  obtain ⟨y, a2, b2, c2, e2, h2⟩ := can_name k S p a1 b1 c1 hp
  have n1 := nm_le h1
  have n2 := nm_le h2
  have hl : ("." : Str).length = 1 := by decide +kernel
  have q1 := addR (x := x) (y := ".") (put S p a1 b1 c1) (by omega) (by omega)
  have q2 := addR (x := x ++ ".") (y := y) (put S p a2 b2 c2) (by rw [strLen_append]; omega) (by omega)
  have e : ex GG (call GG fns (k + 2)) b_law_full [some (.ref p)] (put S p a b c) = .rt (.str (x ++ "." ++ y)) (put S p a2 b2 c2) := by
    simp only [b_law_full, e1, e2, q1, q2, strsP_nil, strsP_cons, List.foldl_cons, List.foldl_nil, empty_app, kindR, bmtKR, ↓ex_seq_skip, szR, boolsP_mapf, boolsP_map, List.all_map, List.any_map, Function.comp_def, id_eq, ev_k, ev_v, ev_xattr, ev_tup, ev_lst, ev_lstR, ev_bin, ev_cmp, ev_chain, ev_neg, ev_not, ev_and, ev_or, ev_ite, ev_call, ev_bfn, ev_listR, ev_bmt, ev_mmt, ev_isI, ev_attr, ev_idx, ev_slc, ev_rev, ev_comp, ev_compR, ev_fmt, ev_one, ev_fstr, ev_ocmp, ev_ostr, ex_ite, ex_skip, ex_seq, ex_set, ex_par, ex_setT, ex_setAttr, ex_setIdx, ex_expr, ex_for, ex_ret, ex_raise, evs_nil, evs_cons, evs_star, evs_itV, evs_itR1, evs_itR2, evs_itEnum, setTs_nil, setTs_v, setTs_ix, get0, getS, xR, xD, Bool.false_eq_true, if_false, if_true, nBok, nBex, nOpt, nTok, nTex, nFnx, nFrt, nFxc, nMap, List.append_nil, List.cons_append, List.nil_append, arrange, bindP, setMany, wipeP, List.set_cons_zero, List.set_cons_succ, List.length_cons, List.length_nil, PV.pures, PV.pure, Bool.and_self, Bool.true_and, Bool.and_true, and_self, and_true, true_and, vwR, truthR, cmpR', inR, eqS, isR, itR, stR, nilR, partR, slcR, revR, binR, bfnR, idxR, ifT_some, cond_t, cond_f, orB, andB, thnB, bindB, flB, flNx, Bool.not_true, Bool.not_false, decide_true, decide_false, Int.reduceLT]
  exact ⟨_, a2, b2, c2, by rw [call_rt fn_law_full rfl e rfl rfl rfl rfl, put_all], (isFull_of h1 h2).1⟩
def CANDS : List Str := (List.range 21).map fun j => "a.c" ++ digT (j : Nat)
theorem cands_full : ∀ w, w ∈ CANDS → isFullB w = true := by
  have h : CANDS.all isFullB = true := by decide +kernel
  exact fun w hw => List.all_eq_true.mp h w hw
theorem cands_nd : CANDS.Nodup := by decide +kernel
theorem cands_len : CANDS.length = 21 := by decide +kernel
theorem nat_str (j : Nat) (h : j < 1000) (C : CallF) (S : Store) : ostrO GG C f_str (.int (j : Nat)) S = .ok (.str (digT (j : Nat))) S := by
  show ofOpt S (if (j : Int).natAbs.log2 < 1920 then some (PV.str (toString (j : Int))) else none) = _
  rw [if_pos (Nat.lt_of_le_of_lt (Nat.log2_le_self _) (by omega))]; rfl
theorem digT_le {j : Nat} (h : j < 21) : (digT (j : Nat)).length ≤ 2 := by
  have : ∀ i, i < 21 → (digT (i : Nat)).length ≤ 2 := by decide +kernel
  exact this j h
def CanFulls (C : CallF) : Prop := ∀ (S : Store) (p : Nat) (a b c : Int) (n : Nat), p < S.length → n ≤ 20 → ∃ (ws : List Str) (a' b' c' : Int), C i_law_fulls [.ref p, .int (n : Nat)] (put S p a b c) = .ok (.lst (ws.map .str)) (put S p a' b' c') ∧ ws.length = n ∧ ws.Nodup ∧ ∀ w, w ∈ ws → isFullB w = true
theorem can_fulls (k : Nat) : CanFulls (call GG fns (k + 4)) := fun S p a b c n hp hn => by
  obtain ⟨env2, ws, a', b', c', ef, ⟨x3, x4, rfl⟩, hl, hnd, hf⟩ := for_grow (body := ex GG (call GG fns (k + 3)) x_law_fulls_3) (v := 3) (n := n) (S := S) (p := p) (a := a) (b := b) (c := c) PV.str
    (fun j l => l.length = j ∧ l.Nodup ∧ ∀ w, w ∈ l → isFullB w = true) (fun env => ∃ x3 x4, env = [some (.ref p), some (.int (n : Nat)), some (.ref S.length), x3, x4, none, none])
    (env := [some (.ref p), some (.int (n : Nat)), some (.ref S.length), none, none, none, none]) ⟨rfl, List.nodup_nil, fun _ h => (by cases h)⟩ ⟨_, _, rfl⟩ fun j l env a b c hj ⟨hl, hnd, hf⟩ ⟨x3, x4, e⟩ => by
      subst e
      have hp2 : p < (S ++ [SO.lst (l.map .str)]).length := by rw [List.length_append]; omega
      obtain ⟨w, a1, b1, c1, e1, hw⟩ := can_lfull k (S ++ [.lst (l.map .str)]) p a b c hp2
      have hv := vw_last (S := S) (p := p) (a := a1) (b := b1) (c := c1) (l := l.map PV.str) hp
      have good : ∀ z, isFullB z = true → Enc.str.good z := fun z hz => (full_okS hz).1
      have hin : inD (put (S ++ [.lst (l.map .str)]) p a1 b1 c1) (.str w) (.ref S.length) = some (decide (w ∈ l)) := Enc.str.in_lst _ (a := w) (l := l) hv (good w hw) (fun z hz => good z (hf z hz)) (by decide)
      have hsz : (l.map PV.str).length < sizeLine := by rw [List.length_map]; unfold sizeLine; omega
      have hk := kind_lst hv
      by_cases hm : w ∈ l
      · obtain ⟨y, r, ey⟩ := first_out (l := CANDS) (ws := l) cands_nd (by rw [cands_len]; omega)
        have hy : y ∈ CANDS ∧ y ∉ l := by
          have : y ∈ CANDS.filter (fun x => decide (x ∉ l)) := by rw [ey]; exact List.mem_cons_self ..
          rw [List.mem_filter] at this
          exact ⟨this.1, of_decide_eq_true this.2⟩
        have ei : compL (.v 6) (ev GG (call GG fns (k + 3)) x_law_fulls_0) (ev GG (call GG fns (k + 3)) IR.yes) .non .non [some (.ref p), some (.int (n : Nat)), some (.ref S.length), some (.int (j : Nat)), some (.str w), none, none] ((List.range 21).map fun i => .int (i : Nat)) [] (put (S ++ [.lst (l.map .str)]) p a1 b1 c1) = .ok (CANDS.map .str) (put (S ++ [.lst (l.map .str)]) p a1 b1 c1) := by
          have := comp_map (p := .v 6) (elt := ev GG (call GG fns (k + 3)) x_law_fulls_0) (cond := ev GG (call GG fns (k + 3)) IR.yes) (gv := .non) (g0 := .non) (env := [some (.ref p), some (.int (n : Nat)), some (.ref S.length), some (.int (j : Nat)), some (.str w), none, none]) (S := put (S ++ [.lst (l.map .str)]) p a1 b1 c1) (fun i : Nat => PV.int i) (fun i => .str ("a.c" ++ digT (i : Nat))) (List.range 21) rfl (by decide +kernel) fun i z hz => ⟨_, rfl, rfl, by
            have hz : z < 21 := List.mem_range.mp (List.mem_of_getElem? hz)
            have s1 := nat_str z (by omega) (call GG fns (k + 3)) (put (S ++ [.lst (l.map .str)]) p a1 b1 c1)
            have s2 := digT_le hz
            have q1 := addR (x := "a.c") (y := digT (z : Nat)) (put (S ++ [.lst (l.map .str)]) p a1 b1 c1) (by decide +kernel) (by omega)
            simp only [x_law_fulls_0, s1, q1, strsP_nil, strsP_cons, List.foldl_cons, List.foldl_nil, empty_app, kindR, bmtKR, ↓ex_seq_skip, szR, boolsP_mapf, boolsP_map, List.all_map, List.any_map, Function.comp_def, id_eq, ev_k, ev_v, ev_xattr, ev_tup, ev_lst, ev_lstR, ev_bin, ev_cmp, ev_chain, ev_neg, ev_not, ev_and, ev_or, ev_ite, ev_call, ev_bfn, ev_listR, ev_bmt, ev_mmt, ev_isI, ev_attr, ev_idx, ev_slc, ev_rev, ev_comp, ev_compR, ev_fmt, ev_one, ev_fstr, ev_ocmp, ev_ostr, ex_ite, ex_skip, ex_seq, ex_set, ex_par, ex_setT, ex_setAttr, ex_setIdx, ex_expr, ex_for, ex_ret, ex_raise, evs_nil, evs_cons, evs_star, evs_itV, evs_itR1, evs_itR2, evs_itEnum, setTs_nil, setTs_v, setTs_ix, get0, getS, xR, xD, Bool.false_eq_true, if_false, if_true, nBok, nBex, nOpt, nTok, nTex, nFnx, nFrt, nFxc, nMap, List.append_nil, List.cons_append, List.nil_append, arrange, bindP, setMany, wipeP, List.set_cons_zero, List.set_cons_succ, List.length_cons, List.length_nil, PV.pures, PV.pure, Bool.and_self, Bool.true_and, Bool.and_true, and_self, and_true, true_and, vwR, truthR, cmpR', inR, eqS, isR, itR, stR, nilR, partR, slcR, revR, binR, bfnR, idxR, ifT_some, cond_t, cond_f, orB, andB, thnB, bindB, flB, flNx, Bool.not_true, Bool.not_false, decide_true, decide_false, Int.reduceLT]⟩
          rw [this]
          unfold CANDS
          rw [List.map_map]; rfl
        have eo : compL (.v 5) (ev GG (call GG fns (k + 3)) x_law_fulls_1) (ev GG (call GG fns (k + 3)) x_law_fulls_2) (.lst (CANDS.map .str)) (.lst (CANDS.map .str)) [some (.ref p), some (.int (n : Nat)), some (.ref S.length), some (.int (j : Nat)), some (.str w), none, none] (CANDS.map .str) [] (put (S ++ [.lst (l.map .str)]) p a1 b1 c1) = .ok ((y :: r).map .str) (put (S ++ [.lst (l.map .str)]) p a1 b1 c1) := by
          rw [← ey]
          exact comp_filter PV.str PV.str (fun x => decide (x ∉ l)) CANDS rfl (by decide +kernel) fun i z hz => ⟨_, rfl, by
            have hi2 : inD (put (S ++ [.lst (l.map .str)]) p a1 b1 c1) (.str z) (.ref S.length) = some (decide (z ∈ l)) := Enc.str.in_lst _ (a := z) (l := l) hv (good z (cands_full z (List.mem_of_getElem? hz))) (fun z hz => good z (hf z hz)) (by decide)
            simp only [x_law_fulls_2, hi2, decide_not, strsP_nil, strsP_cons, List.foldl_cons, List.foldl_nil, empty_app, kindR, bmtKR, ↓ex_seq_skip, szR, boolsP_mapf, boolsP_map, List.all_map, List.any_map, Function.comp_def, id_eq, ev_k, ev_v, ev_xattr, ev_tup, ev_lst, ev_lstR, ev_bin, ev_cmp, ev_chain, ev_neg, ev_not, ev_and, ev_or, ev_ite, ev_call, ev_bfn, ev_listR, ev_bmt, ev_mmt, ev_isI, ev_attr, ev_idx, ev_slc, ev_rev, ev_comp, ev_compR, ev_fmt, ev_one, ev_fstr, ev_ocmp, ev_ostr, ex_ite, ex_skip, ex_seq, ex_set, ex_par, ex_setT, ex_setAttr, ex_setIdx, ex_expr, ex_for, ex_ret, ex_raise, evs_nil, evs_cons, evs_star, evs_itV, evs_itR1, evs_itR2, evs_itEnum, setTs_nil, setTs_v, setTs_ix, get0, getS, xR, xD, Bool.false_eq_true, if_false, if_true, nBok, nBex, nOpt, nTok, nTex, nFnx, nFrt, nFxc, nMap, List.append_nil, List.cons_append, List.nil_append, arrange, bindP, setMany, wipeP, List.set_cons_zero, List.set_cons_succ, List.length_cons, List.length_nil, PV.pures, PV.pure, Bool.and_self, Bool.true_and, Bool.and_true, and_self, and_true, true_and, vwR, truthR, cmpR', inR, eqS, isR, itR, stR, nilR, partR, slcR, revR, binR, bfnR, idxR, ifT_some, cond_t, cond_f, orB, andB, thnB, bindB, flB, flNx, Bool.not_true, Bool.not_false, decide_true, decide_false, Int.reduceLT], fun _ => by simp only [x_law_fulls_1, strsP_nil, strsP_cons, List.foldl_cons, List.foldl_nil, empty_app, kindR, bmtKR, ↓ex_seq_skip, szR, boolsP_mapf, boolsP_map, List.all_map, List.any_map, Function.comp_def, id_eq, ev_k, ev_v, ev_xattr, ev_tup, ev_lst, ev_lstR, ev_bin, ev_cmp, ev_chain, ev_neg, ev_not, ev_and, ev_or, ev_ite, ev_call, ev_bfn, ev_listR, ev_bmt, ev_mmt, ev_isI, ev_attr, ev_idx, ev_slc, ev_rev, ev_comp, ev_compR, ev_fmt, ev_one, ev_fstr, ev_ocmp, ev_ostr, ex_ite, ex_skip, ex_seq, ex_set, ex_par, ex_setT, ex_setAttr, ex_setIdx, ex_expr, ex_for, ex_ret, ex_raise, evs_nil, evs_cons, evs_star, evs_itV, evs_itR1, evs_itR2, evs_itEnum, setTs_nil, setTs_v, setTs_ix, get0, getS, xR, xD, Bool.false_eq_true, if_false, if_true, nBok, nBex, nOpt, nTok, nTex, nFnx, nFrt, nFxc, nMap, List.append_nil, List.cons_append, List.nil_append, arrange, bindP, setMany, wipeP, List.set_cons_zero, List.set_cons_succ, List.length_cons, List.length_nil, PV.pures, PV.pure, Bool.and_self, Bool.true_and, Bool.and_true, and_self, and_true, true_and, vwR, truthR, cmpR', inR, eqS, isR, itR, stR, nilR, partR, slcR, revR, binR, bfnR, idxR, ifT_some, cond_t, cond_f, orB, andB, thnB, bindB, flB, flNx, Bool.not_true, Bool.not_false, decide_true, decide_false, Int.reduceLT]⟩
        have hx0 : L2.atI (PV.str y :: r.map PV.str) 0 = some (.str y) := atI_nat (PV.str y :: r.map PV.str) 0
        have hap := app_last (S := S) (p := p) (a := a1) (b := b1) (c := c1) (l := l.map PV.str) (y := .str y) hp rfl hsz
        have hr21 : rangeV [.int 21] = some ((List.range 21).map fun i => .int (i : Nat)) := rfl
        refine ⟨_, l ++ [y], a1, b1, c1, ?_, ⟨some (.int j), some (.str y), rfl⟩, by rw [List.length_append, hl]; rfl, ?_, ?_⟩
        · simp only [x_law_fulls_3, e1, hin, hm, hr21, ei, eo, hx0, hk, hap, List.map_append, List.map_cons, List.map_nil, strsP_nil, strsP_cons, List.foldl_cons, List.foldl_nil, empty_app, kindR, bmtKR, ↓ex_seq_skip, szR, boolsP_mapf, boolsP_map, List.all_map, List.any_map, Function.comp_def, id_eq, ev_k, ev_v, ev_xattr, ev_tup, ev_lst, ev_lstR, ev_bin, ev_cmp, ev_chain, ev_neg, ev_not, ev_and, ev_or, ev_ite, ev_call, ev_bfn, ev_listR, ev_bmt, ev_mmt, ev_isI, ev_attr, ev_idx, ev_slc, ev_rev, ev_comp, ev_compR, ev_fmt, ev_one, ev_fstr, ev_ocmp, ev_ostr, ex_ite, ex_skip, ex_seq, ex_set, ex_par, ex_setT, ex_setAttr, ex_setIdx, ex_expr, ex_for, ex_ret, ex_raise, evs_nil, evs_cons, evs_star, evs_itV, evs_itR1, evs_itR2, evs_itEnum, setTs_nil, setTs_v, setTs_ix, get0, getS, xR, xD, Bool.false_eq_true, if_false, if_true, nBok, nBex, nOpt, nTok, nTex, nFnx, nFrt, nFxc, nMap, List.append_nil, List.cons_append, List.nil_append, arrange, bindP, setMany, wipeP, List.set_cons_zero, List.set_cons_succ, List.length_cons, List.length_nil, PV.pures, PV.pure, Bool.and_self, Bool.true_and, Bool.and_true, and_self, and_true, true_and, vwR, truthR, cmpR', inR, eqS, isR, itR, stR, nilR, partR, slcR, revR, binR, bfnR, idxR, ifT_some, cond_t, cond_f, orB, andB, thnB, bindB, flB, flNx, Bool.not_true, Bool.not_false, decide_true, decide_false, Int.reduceLT]
        · exact List.nodup_append.mpr ⟨hnd, by simp, fun u hu v hv e => by rw [List.mem_singleton] at hv; subst hv; exact hy.2 (e ▸ hu)⟩
        · intro z hz
          rcases List.mem_append.mp hz with hz | hz
          · exact hf z hz
          · rw [List.mem_singleton.mp hz]; exact cands_full _ hy.1
      · have hap := app_last (S := S) (p := p) (a := a1) (b := b1) (c := c1) (l := l.map PV.str) (y := .str w) hp rfl hsz
        refine ⟨_, l ++ [w], a1, b1, c1, ?_, ⟨some (.int j), some (.str w), rfl⟩, by rw [List.length_append, hl]; rfl, ?_, ?_⟩
        · simp only [x_law_fulls_3, e1, hin, hm, hk, hap, List.map_append, List.map_cons, List.map_nil, strsP_nil, strsP_cons, List.foldl_cons, List.foldl_nil, empty_app, kindR, bmtKR, ↓ex_seq_skip, szR, boolsP_mapf, boolsP_map, List.all_map, List.any_map, Function.comp_def, id_eq, ev_k, ev_v, ev_xattr, ev_tup, ev_lst, ev_lstR, ev_bin, ev_cmp, ev_chain, ev_neg, ev_not, ev_and, ev_or, ev_ite, ev_call, ev_bfn, ev_listR, ev_bmt, ev_mmt, ev_isI, ev_attr, ev_idx, ev_slc, ev_rev, ev_comp, ev_compR, ev_fmt, ev_one, ev_fstr, ev_ocmp, ev_ostr, ex_ite, ex_skip, ex_seq, ex_set, ex_par, ex_setT, ex_setAttr, ex_setIdx, ex_expr, ex_for, ex_ret, ex_raise, evs_nil, evs_cons, evs_star, evs_itV, evs_itR1, evs_itR2, evs_itEnum, setTs_nil, setTs_v, setTs_ix, get0, getS, xR, xD, Bool.false_eq_true, if_false, if_true, nBok, nBex, nOpt, nTok, nTex, nFnx, nFrt, nFxc, nMap, List.append_nil, List.cons_append, List.nil_append, arrange, bindP, setMany, wipeP, List.set_cons_zero, List.set_cons_succ, List.length_cons, List.length_nil, PV.pures, PV.pure, Bool.and_self, Bool.true_and, Bool.and_true, and_self, and_true, true_and, vwR, truthR, cmpR', inR, eqS, isR, itR, stR, nilR, partR, slcR, revR, binR, bfnR, idxR, ifT_some, cond_t, cond_f, orB, andB, thnB, bindB, flB, flNx, Bool.not_true, Bool.not_false, decide_true, decide_false, Int.reduceLT]
        · exact List.nodup_append.mpr ⟨hnd, by simp, fun u hu v hv e => by rw [List.mem_singleton] at hv; subst hv; exact hm (e ▸ hu)⟩
        · intro z hz
          rcases List.mem_append.mp hz with hz | hz
          · exact hf z hz
          · rw [List.mem_singleton.mp hz]; exact hw
  refine ⟨ws, a', b', c', ?_, hl, hnd, hf⟩
  rw [call_at fn_law_fulls rfl]
  have e : ex GG (call GG fns (k + 3)) b_law_fulls [some (.ref p), some (.int (n : Nat)), none, none, none, none, none] (put S p a b c) = .rt (.ref S.length) (put (S ++ [.lst (ws.map .str)]) p a' b' c') := by
    simp only [b_law_fulls, put_len, put_app hp, rangeN (show n ≤ 1000000 by omega), ef, strsP_nil, strsP_cons, List.foldl_cons, List.foldl_nil, empty_app, kindR, bmtKR, ↓ex_seq_skip, szR, boolsP_mapf, boolsP_map, List.all_map, List.any_map, Function.comp_def, id_eq, ev_k, ev_v, ev_xattr, ev_tup, ev_lst, ev_lstR, ev_bin, ev_cmp, ev_chain, ev_neg, ev_not, ev_and, ev_or, ev_ite, ev_call, ev_bfn, ev_listR, ev_bmt, ev_mmt, ev_isI, ev_attr, ev_idx, ev_slc, ev_rev, ev_comp, ev_compR, ev_fmt, ev_one, ev_fstr, ev_ocmp, ev_ostr, ex_ite, ex_skip, ex_seq, ex_set, ex_par, ex_setT, ex_setAttr, ex_setIdx, ex_expr, ex_for, ex_ret, ex_raise, evs_nil, evs_cons, evs_star, evs_itV, evs_itR1, evs_itR2, evs_itEnum, setTs_nil, setTs_v, setTs_ix, get0, getS, xR, xD, Bool.false_eq_true, if_false, if_true, nBok, nBex, nOpt, nTok, nTex, nFnx, nFrt, nFxc, nMap, List.append_nil, List.cons_append, List.nil_append, arrange, bindP, setMany, wipeP, List.set_cons_zero, List.set_cons_succ, List.length_cons, List.length_nil, PV.pures, PV.pure, Bool.and_self, Bool.true_and, Bool.and_true, and_self, and_true, true_and, vwR, truthR, cmpR', inR, eqS, isR, itR, stR, nilR, partR, slcR, revR, binR, bfnR, idxR, ifT_some, cond_t, cond_f, orB, andB, thnB, bindB, flB, flNx, Bool.not_true, Bool.not_false, decide_true, decide_false, Int.reduceLT]
  show endF true (put S p a b c).length (ex GG (call GG fns (k + 3)) b_law_fulls [some (.ref p), some (.int (n : Nat)), none, none, none, none, none] (put S p a b c)) = _
  have hl : (put (S ++ [SO.lst (ws.map PV.str)]) p a' b' c')[S.length]? = some (.lst (ws.map PV.str)) := by
    rw [put_ne (by omega), List.getElem?_append_right (Nat.le_refl _), Nat.sub_self]; rfl
  rw [e, put_len, end_lst hl (Nat.le_refl _), take_put hp]
end RF.K
namespace RF.K
open RF PySem
/-! steps drawn -/
/-- turns that draw, one value behind another -/
theorem comp_grow {p : Pat} {elt cond : PEnv → Store → Out PV} {gv g0 : PV} {env : PEnv} {S : Store} {q : Nat} {a b c : Int} {xs : List PV} (J : Nat → List PV → Prop) (h0 : J 0 [])
    (hv : ∀ a b c, vw (put S q a b c) gv = g0) (hl : xs.length ≤ sizeLine) (h : ∀ (j : Nat) x acc a b c, xs[j]? = some x → J j acc → ∃ env', bindP p x env = some env' ∧ cond env' (put S q a b c) = .ok (.bl true) (put S q a b c) ∧ ∃ y a' b' c', elt env' (put S q a b c) = .ok y (put S q a' b' c') ∧ J (j + 1) (acc ++ [y])) :
    ∃ ys a' b' c', compL p elt cond gv g0 env xs [] (put S q a b c) = .ok ys (put S q a' b' c') ∧ J xs.length ys := by
  obtain ⟨ys, S2, e, hn, a', b', c', rfl⟩ := comp_rule (p := p) (elt := elt) (cond := cond) (gv := gv) (g0 := g0) (env := env) (xs := xs) (acc := []) (i := 0) (S := put S q a b c)
    (I := fun j acc S' => J j acc ∧ ∃ a b c, S' = put S q a b c) ⟨h0, a, b, c, rfl⟩ (by simpa using hl) (fun _ _ _ ⟨_, a, b, c, h⟩ => by rw [h]; exact hv a b c) (fun j x acc S' hx ⟨e1, a, b, c, e2⟩ => by
      subst e2
      rw [Nat.zero_add] at *
      obtain ⟨env', h1, h2, y, a', b', c', h3, h4⟩ := h j x acc a b c hx e1
      exact ⟨env', h1, .bl true, _, h2, .inr ⟨rfl, y, _, h3, h4, a', b', c', rfl⟩⟩)
  rw [Nat.zero_add] at hn
  exact ⟨ys, a', b', c', e, hn⟩
theorem ref_ne {α : Type} [DecidableEq α] (E : Enc α) {S : Store} {n : Nat} {a b : α} (hv : vw S (.ref n) = E.pv a) (ha : E.good a) (hb : E.good b) (hd : E.dp ≤ 64) : cmpV S .ne (.ref n) (E.pv b) = some (!decide (a = b)) := by
  have e : eqD S (.ref n) (E.pv b) = some (decide (a = b)) := by
    unfold eqD
    rw [hv, E.vw]
    simp only [E.toD, E.shaped hd ha, E.shaped hd hb, Bool.and_self, if_true, E.eqv]
  show (eqT S (.ref n) (E.pv b)).map (!·) = _
  have e2 : eqT S (.ref n) (E.pv b) = eqD S (.ref n) (E.pv b) := rfl
  rw [e2, e]; rfl
def CanStep (C : CallF) : Prop := ∀ (S : Store) (p : Nat) (a b c : Int), p < S.length → ∃ (s : Stp) (a' b' c' : Int), C i_law_step [.ref p] (put S p a b c) = .ok (actV s) (put S p a' b' c') ∧ FineS s
theorem step_keep {C : CallF} (hF : CanLFull C) {S : Store} {p : Nat} {a b c : Int} {n : Nat} {env : PEnv} (he : env[0]? = some (some (.ref p))) (hl : env.length = 13) (hp : p < S.length) (hn : n ≤ 4) :
    ∃ (ws : List Str) (a' b' c' : Int), compL (.v 7) (ev GG C x_law_step_2) (ev GG C IR.yes) .non .non env ((List.range n).map fun i => .int (i : Nat)) [] (put S p a b c) = .ok (ws.map .str) (put S p a' b' c') ∧ ws.length = n ∧ ∀ w, w ∈ ws → isFullB w = true := by
  obtain ⟨ys, a', b', c', e, h1, h2⟩ := comp_draw (p := .v 7) (elt := ev GG C x_law_step_2) (cond := ev GG C IR.yes) (gv := .non) (g0 := .non) (env := env) (S := S) (q := p) (a := a) (b := b) (c := c) (xs := (List.range n).map fun i => .int (i : Nat)) (fun y => ∃ w, y = PV.str w ∧ isFullB w = true) (fun _ _ _ => rfl) (by rw [List.length_map, List.length_range]; exact size_ok (by omega)) fun j x a b c hx => by
    obtain ⟨w, a1, b1, c1, e1, hw⟩ := hF S p a b c hp
    have hg : (env.set 7 (some x))[0]? = some (some (.ref p)) := by rw [List.getElem?_set_ne (by decide)]; exact he
    refine ⟨env.set 7 (some x), rfl, rfl, .str w, a1, b1, c1, ?_, w, rfl, hw⟩
    simp only [x_law_step_2, ev_call, evs_cons, evs_nil, ev_v, hg, xR, Bool.false_eq_true, if_false, nBok, List.append_nil, List.nil_append, List.cons_append, arrange, get0, getS, e1]
  obtain ⟨ws, rfl, hw⟩ := pick (f := PV.str) (P := fun w => isFullB w = true) h2
  rw [List.length_map, List.length_map, List.length_range] at h1
  exact ⟨ws, a', b', c', e, h1, hw⟩
theorem small2 {n : Int} (h0 : 0 ≤ n) (h : n < 2) : n = 0 ∨ n = 1 := by omega
theorem small4 {n : Int} (h0 : 0 ≤ n) (h : n < 4) : n = 0 ∨ n = 1 ∨ n = 2 ∨ n = 3 := by omega
/-- columns of a sort, risen or fallen -/
theorem step_sort {C : CallF} (hT : CanTake C) {S : Store} {p : Nat} {a b c : Int} {ws : List Str} {env : PEnv} (he : env[0]? = some (some (.ref p))) (hl : env.length = 13) (hp : p < S.length) (hn : ws.length ≤ 20) (hw : ∀ w, w ∈ ws → isFullB w = true) :
    ∃ (ys : List Str) (a' b' c' : Int), compL (.v 12) (ev GG C x_law_step_0) (ev GG C IR.yes) (.lst (ws.map .str)) (.lst (ws.map .str)) env (ws.map .str) [] (put S p a b c) = .ok (ys.map .str) (put S p a' b' c') ∧ ys.map bare = ws := by
  obtain ⟨ys, a', b', c', e, zs, rfl, h2⟩ := comp_grow (p := .v 12) (elt := ev GG C x_law_step_0) (cond := ev GG C IR.yes) (gv := .lst (ws.map .str)) (g0 := .lst (ws.map .str)) (env := env) (S := S) (q := p) (a := a) (b := b) (c := c) (xs := ws.map .str) (fun j acc => ∃ zs : List Str, acc = zs.map .str ∧ zs.map bare = ws.take j) ⟨[], rfl, rfl⟩ (fun _ _ _ => rfl) (by rw [List.length_map]; exact size_ok (by omega)) fun j x acc a b c hx ⟨zs, e1, e2⟩ => by
    subst e1
    rw [List.getElem?_map] at hx
    cases hs : ws[j]? with
    | none => rw [hs] at hx; cases hx
    | some w =>
      rw [hs] at hx
      obtain rfl : PV.str w = x := Option.some.inj hx
      have hf := hw w (List.mem_of_getElem? hs)
      have hwl := full_le hf
      obtain ⟨d, a1, b1, c1, e1, l1, u1⟩ := hT S p 2 a b c hp (by decide) (by decide)
      have hg : (env.set 12 (some (.str w)))[0]? = some (some (.ref p)) := by rw [List.getElem?_set_ne (by decide)]; exact he
      have hg2 : (env.set 12 (some (.str w)))[12]? = some (some (.str w)) := by rw [List.getElem?_set_self (by omega)]
      have key : ∃ pre : Str, L2.atI [PV.str "", .str "-"] d = some (.str pre) ∧ pre.length ≤ 1 ∧ bare (pre ++ w) = w := by
        rcases small2 l1 u1 with rfl | rfl
        · exact ⟨"", rfl, by decide +kernel, by rw [show (("" : Str) ++ w) = w from empty_app w]; exact bare_full hf⟩
        · exact ⟨"-", rfl, by decide +kernel, bare_minus w⟩
      obtain ⟨pre, g1, g2, g3⟩ := key
      have q1 := addR (x := pre) (y := w) (put S p a1 b1 c1) (by omega) (by omega)
      refine ⟨env.set 12 (some (.str w)), rfl, rfl, .str (pre ++ w), a1, b1, c1, ?_, zs ++ [pre ++ w], by rw [List.map_append]; rfl, ?_⟩
      · simp only [x_law_step_0, ev_bin, ev_idx, ev_lst, ev_k, ev_call, evs_cons, evs_nil, ev_v, hg, hg2, xR, Bool.false_eq_true, if_false, if_true, nBok, nOpt, List.append_nil, List.nil_append, List.cons_append, List.length_cons, List.length_nil, szR, arrange, get0, getS, e1, idxR, g1, q1]
      · rw [List.map_append, e2, List.take_succ, hs, List.map_cons, List.map_nil, g3]; rfl
  rw [List.length_map, List.take_length] at h2
  exact ⟨zs, a', b', c', e, h2⟩
end RF.K
namespace RF.K
open RF PySem
theorem pair_good {t : Str} {p : List Str} (h : isPairB t p = true) : okL p := by
  obtain ⟨a, b, rfl, ha, hb, _⟩ := pair_parts h
  exact ⟨Nat.le_trans (show 2 ≤ 4 by decide) (by decide), fun w hw => by
    rcases List.mem_cons.mp hw with rfl | hw
    · exact full_okS ha
    · rw [List.mem_singleton.mp hw]; exact full_okS hb⟩
abbrev lkE : Enc (List (List Str)) := Enc.lst sE
abbrev kv (k : List Str) : PV := PV.tup (k.map .str)
theorem join_loop {k : Nat} {S : Store} {p : Nat} {a b c : Int} {n : Nat} {t : Str} {x1 x2 x4 x5 x10 x11 x12 : Option PV} (ht : isNm t = true) (hp : p < S.length) (hn : n ≤ 4) :
    ∃ (l : List (List Str)) (a' b' c' : Int) (env2 : PEnv), forL (.v 7) (ex GG (call GG fns (k + 4)) x_law_step_1) .non .non ((List.range n).map fun i => .int (i : Nat)) [some (.ref p), x1, x2, some (.str t), x4, x5, some (.ref S.length), none, none, none, x10, x11, x12] (put (S ++ [.lst []]) p a b c)
      = .nx env2 (put (S ++ [.lst (l.map kv)]) p a' b' c') ∧ (∃ x7 x8 x9, env2 = [some (.ref p), x1, x2, some (.str t), x4, x5, some (.ref S.length), x7, x8, x9, x10, x11, x12]) ∧ l.length ≤ n ∧ (∀ x, x ∈ l → isPairB t x = true) ∧ l.Nodup := by
  obtain ⟨env2, l, a', b', c', ef, hF, hle, hok, hnd⟩ := for_grow (body := ex GG (call GG fns (k + 4)) x_law_step_1) (v := 7) (n := n) (S := S) (p := p) (a := a) (b := b) (c := c) kv
    (fun j l => l.length ≤ j ∧ (∀ x, x ∈ l → isPairB t x = true) ∧ l.Nodup) (fun env => ∃ x7 x8 x9, env = [some (.ref p), x1, x2, some (.str t), x4, x5, some (.ref S.length), x7, x8, x9, x10, x11, x12])
    (env := [some (.ref p), x1, x2, some (.str t), x4, x5, some (.ref S.length), none, none, none, x10, x11, x12]) ⟨Nat.le_refl _, fun _ h => (by cases h), List.nodup_nil⟩ ⟨_, _, _, rfl⟩ fun j l env a b c hj ⟨hle, hok, hnd⟩ ⟨x7, x8, x9, e⟩ => by
      subst e
      have hp2 : p < (S ++ [SO.lst (l.map kv)]).length := by rw [List.length_append]; omega
      obtain ⟨old, a1, b1, c1, e1, ho⟩ := can_lfull (k + 1) (S ++ [.lst (l.map kv)]) p a b c hp2
      obtain ⟨nm, a2, b2, c2, e2, hm⟩ := can_name (k + 2) (S ++ [.lst (l.map kv)]) p a1 b1 c1 hp2
      have n1 := nm_le ht
      have n2 := nm_le hm
      have hl1 : ("." : Str).length = 1 := by decide +kernel
      have q1 := addR (x := t) (y := ".") (put (S ++ [.lst (l.map kv)]) p a1 b1 c1) (by omega) (by omega)
      have q2 := addR (x := t ++ ".") (y := nm) (put (S ++ [.lst (l.map kv)]) p a2 b2 c2) (by rw [strLen_append]; omega) (by omega)
      have hnew := isFull_of ht hm
      -- what is behind the first choice
      have tail : ∀ (o : Str) (a3 b3 c3 : Int), isFullB o = true → ∃ (env2 : PEnv) (l' : List (List Str)) (a' b' c' : Int), ex GG (call GG fns (k + 4)) (.ite (.and (.cmp .ne (.idx (.bmt .split (.var 8) (.cons (.k (.str ".")) .nil)) (.k (.int 0))) (.var 3)) (.cmp .nin (.tup (.cons (.var 8) (.cons (.var 9) .nil))) (.var 6))) (.seq (.expr (.mmt .append (.var 6) (.cons (.tup (.cons (.var 8) (.cons (.var 9) .nil))) .nil))) .skip) .skip)
          [some (.ref p), x1, x2, some (.str t), x4, x5, some (.ref S.length), some (.int j), some (.str o), some (.str (t ++ "." ++ nm)), x10, x11, x12] (put (S ++ [.lst (l.map kv)]) p a3 b3 c3) = .nx env2 (put (S ++ [.lst (l'.map kv)]) p a' b' c') ∧ (∃ x7 x8 x9, env2 = [some (.ref p), x1, x2, some (.str t), x4, x5, some (.ref S.length), x7, x8, x9, x10, x11, x12]) ∧ l'.length ≤ j + 1 ∧ (∀ x, x ∈ l' → isPairB t x = true) ∧ l'.Nodup := fun o a3 b3 c3 hof => by
        obtain ⟨u, v, eu, _, _, tu⟩ := full_two hof
        have s1 := split_dot (full_okS hof) (put (S ++ [.lst (l.map kv)]) p a3 b3 c3)
        rw [eu] at s1
        have j0 : ∀ x y : Str, L2.atI [PV.str x, .str y] 0 = some (.str x) := fun _ _ => rfl
        have hv := vw_last (S := S) (p := p) (a := a3) (b := b3) (c := c3) (l := l.map kv) hp
        have hin : inD (put (S ++ [.lst (l.map kv)]) p a3 b3 c3) (.tup [.str o, .str (t ++ "." ++ nm)]) (.ref S.length) = some (decide ([o, t ++ "." ++ nm] ∈ l)) :=
          (sE.in_lst _ (a := [o, t ++ "." ++ nm]) (l := l) hv (fun x hx => by
            rcases List.mem_cons.mp hx with rfl | hx
            · exact (full_okS hof).1
            · rw [List.mem_singleton.mp hx]; exact (full_okS hnew.1).1) (fun b hb => okL_good (pair_good (hok b hb))) (by decide)).trans (by congr)
        have hap := app_last (S := S) (p := p) (a := a3) (b := b3) (c := c3) (l := l.map kv) (y := .tup [.str o, .str (t ++ "." ++ nm)]) hp rfl (by rw [List.length_map]; unfold sizeLine; omega)
        by_cases h1 : u = t
        · refine ⟨_, l, a3, b3, c3, ?_, ⟨some (.int j), some (.str o), some (.str (t ++ "." ++ nm)), rfl⟩, by omega, hok, hnd⟩
          simp only [s1, List.map_cons, List.map_nil, j0, h1, strsP_nil, strsP_cons, List.foldl_cons, List.foldl_nil, empty_app, kindR, bmtKR, ↓ex_seq_skip, szR, boolsP_mapf, boolsP_map, List.all_map, List.any_map, Function.comp_def, id_eq, ev_k, ev_v, ev_xattr, ev_tup, ev_lst, ev_lstR, ev_bin, ev_cmp, ev_chain, ev_neg, ev_not, ev_and, ev_or, ev_ite, ev_call, ev_bfn, ev_listR, ev_bmt, ev_mmt, ev_isI, ev_attr, ev_idx, ev_slc, ev_rev, ev_comp, ev_compR, ev_fmt, ev_one, ev_fstr, ev_ocmp, ev_ostr, ex_ite, ex_skip, ex_seq, ex_set, ex_par, ex_setT, ex_setAttr, ex_setIdx, ex_expr, ex_for, ex_ret, ex_raise, evs_nil, evs_cons, evs_star, evs_itV, evs_itR1, evs_itR2, evs_itEnum, setTs_nil, setTs_v, setTs_ix, get0, getS, xR, xD, Bool.false_eq_true, if_false, if_true, nBok, nBex, nOpt, nTok, nTex, nFnx, nFrt, nFxc, nMap, List.append_nil, List.cons_append, List.nil_append, arrange, bindP, setMany, wipeP, List.set_cons_zero, List.set_cons_succ, List.length_cons, List.length_nil, PV.pures, PV.pure, Bool.and_self, Bool.true_and, Bool.and_true, and_self, and_true, true_and, vwR, truthR, cmpR', inR, eqS, isR, itR, stR, nilR, partR, slcR, revR, binR, bfnR, idxR, ifT_some, cond_t, cond_f, orB, andB, thnB, bindB, flB, flNx, Bool.not_true, Bool.not_false, decide_true, decide_false, Int.reduceLT]
        · by_cases h2 : [o, t ++ "." ++ nm] ∈ l
          · refine ⟨_, l, a3, b3, c3, ?_, ⟨some (.int j), some (.str o), some (.str (t ++ "." ++ nm)), rfl⟩, by omega, hok, hnd⟩
            simp only [s1, List.map_cons, List.map_nil, j0, h1, hin, h2, strsP_nil, strsP_cons, List.foldl_cons, List.foldl_nil, empty_app, kindR, bmtKR, ↓ex_seq_skip, szR, boolsP_mapf, boolsP_map, List.all_map, List.any_map, Function.comp_def, id_eq, ev_k, ev_v, ev_xattr, ev_tup, ev_lst, ev_lstR, ev_bin, ev_cmp, ev_chain, ev_neg, ev_not, ev_and, ev_or, ev_ite, ev_call, ev_bfn, ev_listR, ev_bmt, ev_mmt, ev_isI, ev_attr, ev_idx, ev_slc, ev_rev, ev_comp, ev_compR, ev_fmt, ev_one, ev_fstr, ev_ocmp, ev_ostr, ex_ite, ex_skip, ex_seq, ex_set, ex_par, ex_setT, ex_setAttr, ex_setIdx, ex_expr, ex_for, ex_ret, ex_raise, evs_nil, evs_cons, evs_star, evs_itV, evs_itR1, evs_itR2, evs_itEnum, setTs_nil, setTs_v, setTs_ix, get0, getS, xR, xD, Bool.false_eq_true, if_false, if_true, nBok, nBex, nOpt, nTok, nTex, nFnx, nFrt, nFxc, nMap, List.append_nil, List.cons_append, List.nil_append, arrange, bindP, setMany, wipeP, List.set_cons_zero, List.set_cons_succ, List.length_cons, List.length_nil, PV.pures, PV.pure, Bool.and_self, Bool.true_and, Bool.and_true, and_self, and_true, true_and, vwR, truthR, cmpR', inR, eqS, isR, itR, stR, nilR, partR, slcR, revR, binR, bfnR, idxR, ifT_some, cond_t, cond_f, orB, andB, thnB, bindB, flB, flNx, Bool.not_true, Bool.not_false, decide_true, decide_false, Int.reduceLT]
          · have hpair : isPairB t [o, t ++ "." ++ nm] = true := by
              show ((isFullB o && isFullB (t ++ "." ++ nm)) && (!decide (tabOf o = t) && decide (tabOf (t ++ "." ++ nm) = t))) = true
              rw [hof, hnew.1, hnew.2, tu, decide_eq_false h1, decide_eq_true rfl]; rfl
            refine ⟨_, l ++ [[o, t ++ "." ++ nm]], a3, b3, c3, ?_, ⟨some (.int j), some (.str o), some (.str (t ++ "." ++ nm)), rfl⟩, by rw [List.length_append]; simp; omega, fun x hx => ?_, ?_⟩
            · simp only [s1, List.map_cons, List.map_nil, j0, h1, hin, h2, kind_lst hv, hap, List.map_append, strsP_nil, strsP_cons, List.foldl_cons, List.foldl_nil, empty_app, kindR, bmtKR, ↓ex_seq_skip, szR, boolsP_mapf, boolsP_map, List.all_map, List.any_map, Function.comp_def, id_eq, ev_k, ev_v, ev_xattr, ev_tup, ev_lst, ev_lstR, ev_bin, ev_cmp, ev_chain, ev_neg, ev_not, ev_and, ev_or, ev_ite, ev_call, ev_bfn, ev_listR, ev_bmt, ev_mmt, ev_isI, ev_attr, ev_idx, ev_slc, ev_rev, ev_comp, ev_compR, ev_fmt, ev_one, ev_fstr, ev_ocmp, ev_ostr, ex_ite, ex_skip, ex_seq, ex_set, ex_par, ex_setT, ex_setAttr, ex_setIdx, ex_expr, ex_for, ex_ret, ex_raise, evs_nil, evs_cons, evs_star, evs_itV, evs_itR1, evs_itR2, evs_itEnum, setTs_nil, setTs_v, setTs_ix, get0, getS, xR, xD, Bool.false_eq_true, if_false, if_true, nBok, nBex, nOpt, nTok, nTex, nFnx, nFrt, nFxc, nMap, List.append_nil, List.cons_append, List.nil_append, arrange, bindP, setMany, wipeP, List.set_cons_zero, List.set_cons_succ, List.length_cons, List.length_nil, PV.pures, PV.pure, Bool.and_self, Bool.true_and, Bool.and_true, and_self, and_true, true_and, vwR, truthR, cmpR', inR, eqS, isR, itR, stR, nilR, partR, slcR, revR, binR, bfnR, idxR, ifT_some, cond_t, cond_f, orB, andB, thnB, bindB, flB, flNx, Bool.not_true, Bool.not_false, decide_true, decide_false, Int.reduceLT]
              rfl
            · rcases List.mem_append.mp hx with hx | hx
              · exact hok x hx
              · rw [List.mem_singleton.mp hx]; exact hpair
            · exact List.nodup_append.mpr ⟨hnd, by simp, fun u hu v hv e => by rw [List.mem_singleton] at hv; subst hv; exact h2 (e ▸ hu)⟩
      have hv2 := vw_last (S := S) (p := p) (a := a2) (b := b2) (c := c2) (l := l.map kv) hp
      have hne : cmpV (put (S ++ [.lst (l.map kv)]) p a2 b2 c2) .ne (.ref S.length) (.lst []) = some (!decide (l = [])) := (ref_ne lkE (a := l) (b := []) hv2 (fun b hb => okL_good (pair_good (hok b hb))) (fun _ h => (by cases h)) (by decide)).trans (by congr)
      by_cases hemp : l = []
      · obtain ⟨env2, l', a', b', c', e, hF⟩ := tail old a2 b2 c2 ho
        refine ⟨env2, l', a', b', c', ?_, hF.1, hF.2⟩
        simp only [hemp, decide_true] at hne
        rw [← e]
        simp only [hemp] at e1 e2 q1 q2 ⊢
        simp only [x_law_step_1, e1, e2, q1, q2, hne, strsP_nil, strsP_cons, List.foldl_cons, List.foldl_nil, empty_app, kindR, bmtKR, ↓ex_seq_skip, szR, boolsP_mapf, boolsP_map, List.all_map, List.any_map, Function.comp_def, id_eq, ev_k, ev_v, ev_xattr, ev_tup, ev_lst, ev_lstR, ev_bin, ev_cmp, ev_chain, ev_neg, ev_not, ev_and, ev_or, ev_ite, ev_call, ev_bfn, ev_listR, ev_bmt, ev_mmt, ev_isI, ev_attr, ev_idx, ev_slc, ev_rev, ev_comp, ev_compR, ev_fmt, ev_one, ev_fstr, ev_ocmp, ev_ostr, ex_ite, ex_skip, ex_seq, ex_set, ex_par, ex_setT, ex_setAttr, ex_setIdx, ex_expr, ex_for, ex_ret, ex_raise, evs_nil, evs_cons, evs_star, evs_itV, evs_itR1, evs_itR2, evs_itEnum, setTs_nil, setTs_v, setTs_ix, get0, getS, xR, xD, Bool.false_eq_true, if_false, if_true, nBok, nBex, nOpt, nTok, nTex, nFnx, nFrt, nFxc, nMap, List.append_nil, List.cons_append, List.nil_append, arrange, bindP, setMany, wipeP, List.set_cons_zero, List.set_cons_succ, List.length_cons, List.length_nil, PV.pures, PV.pure, Bool.and_self, Bool.true_and, Bool.and_true, and_self, and_true, true_and, vwR, truthR, cmpR', inR, eqS, isR, itR, stR, nilR, partR, slcR, revR, binR, bfnR, idxR, ifT_some, cond_t, cond_f, orB, andB, thnB, bindB, flB, flNx, Bool.not_true, Bool.not_false, decide_true, decide_false, Int.reduceLT]
      · obtain ⟨d, a3, b3, c3, e3, l3, u3⟩ := can_take (k + 3) (S ++ [.lst (l.map kv)]) p 3 a2 b2 c2 hp2 (by decide) (by decide)
        by_cases hd : d = 0
        · subst hd
          obtain ⟨x, l0, rfl⟩ := List.exists_cons_of_ne_nil hemp
          obtain ⟨u, v, rfl, hu, hv, _⟩ := pair_parts (hok x (List.mem_cons_self ..))
          obtain ⟨env2, l', a', b', c', e, hF⟩ := tail u a3 b3 c3 hu
          refine ⟨env2, l', a', b', c', ?_, hF.1, hF.2⟩
          rw [← e]
          have hv3 := vw_last (S := S) (p := p) (a := a3) (b := b3) (c := c3) (l := ([u, v] :: l0).map kv) hp
          have hi : idxV (put (S ++ [.lst (([u, v] :: l0).map kv)]) p a3 b3 c3) (.ref S.length) (.int 0) = some (kv [u, v]) := by
            unfold idxV
            rw [hv3]
            exact atI_nat (([u, v] :: l0).map kv) 0
          have hi2 : idxV (put (S ++ [.lst (([u, v] :: l0).map kv)]) p a3 b3 c3) (kv [u, v]) (.int 0) = some (.str u) := rfl
          have hx : (kv [u, v]).isExc = false := rfl
          rw [decide_eq_false hemp] at hne
          simp only [x_law_step_1, e1, e2, q1, q2, hne, e3, hi, hi2, strsP_nil, strsP_cons, List.foldl_cons, List.foldl_nil, empty_app, kindR, bmtKR, ↓ex_seq_skip, szR, boolsP_mapf, boolsP_map, List.all_map, List.any_map, Function.comp_def, id_eq, ev_k, ev_v, ev_xattr, ev_tup, ev_lst, ev_lstR, ev_bin, ev_cmp, ev_chain, ev_neg, ev_not, ev_and, ev_or, ev_ite, ev_call, ev_bfn, ev_listR, ev_bmt, ev_mmt, ev_isI, ev_attr, ev_idx, ev_slc, ev_rev, ev_comp, ev_compR, ev_fmt, ev_one, ev_fstr, ev_ocmp, ev_ostr, ex_ite, ex_skip, ex_seq, ex_set, ex_par, ex_setT, ex_setAttr, ex_setIdx, ex_expr, ex_for, ex_ret, ex_raise, evs_nil, evs_cons, evs_star, evs_itV, evs_itR1, evs_itR2, evs_itEnum, setTs_nil, setTs_v, setTs_ix, get0, getS, xR, xD, Bool.false_eq_true, if_false, if_true, nBok, nBex, nOpt, nTok, nTex, nFnx, nFrt, nFxc, nMap, List.append_nil, List.cons_append, List.nil_append, arrange, bindP, setMany, wipeP, List.set_cons_zero, List.set_cons_succ, List.length_cons, List.length_nil, PV.pures, PV.pure, Bool.and_self, Bool.true_and, Bool.and_true, and_self, and_true, true_and, vwR, truthR, cmpR', inR, eqS, isR, itR, stR, nilR, partR, slcR, revR, binR, bfnR, idxR, ifT_some, cond_t, cond_f, orB, andB, thnB, bindB, flB, flNx, Bool.not_true, Bool.not_false, decide_true, decide_false, Int.reduceLT]
        · obtain ⟨env2, l', a', b', c', e, hF⟩ := tail old a3 b3 c3 ho
          refine ⟨env2, l', a', b', c', ?_, hF.1, hF.2⟩
          rw [← e]
          rw [decide_eq_false hemp] at hne
          simp only [x_law_step_1, e1, e2, q1, q2, hne, e3, hd, strsP_nil, strsP_cons, List.foldl_cons, List.foldl_nil, empty_app, kindR, bmtKR, ↓ex_seq_skip, szR, boolsP_mapf, boolsP_map, List.all_map, List.any_map, Function.comp_def, id_eq, ev_k, ev_v, ev_xattr, ev_tup, ev_lst, ev_lstR, ev_bin, ev_cmp, ev_chain, ev_neg, ev_not, ev_and, ev_or, ev_ite, ev_call, ev_bfn, ev_listR, ev_bmt, ev_mmt, ev_isI, ev_attr, ev_idx, ev_slc, ev_rev, ev_comp, ev_compR, ev_fmt, ev_one, ev_fstr, ev_ocmp, ev_ostr, ex_ite, ex_skip, ex_seq, ex_set, ex_par, ex_setT, ex_setAttr, ex_setIdx, ex_expr, ex_for, ex_ret, ex_raise, evs_nil, evs_cons, evs_star, evs_itV, evs_itR1, evs_itR2, evs_itEnum, setTs_nil, setTs_v, setTs_ix, get0, getS, xR, xD, Bool.false_eq_true, if_false, if_true, nBok, nBex, nOpt, nTok, nTex, nFnx, nFrt, nFxc, nMap, List.append_nil, List.cons_append, List.nil_append, arrange, bindP, setMany, wipeP, List.set_cons_zero, List.set_cons_succ, List.length_cons, List.length_nil, PV.pures, PV.pure, Bool.and_self, Bool.true_and, Bool.and_true, and_self, and_true, true_and, vwR, truthR, cmpR', inR, eqS, isR, itR, stR, nilR, partR, slcR, revR, binR, bfnR, idxR, ifT_some, cond_t, cond_f, orB, andB, thnB, bindB, flB, flNx, Bool.not_true, Bool.not_false, decide_true, decide_false, Int.reduceLT]
  exact ⟨l, a', b', c', env2, ef, hF, hle, hok, hnd⟩
end RF.K
namespace RF.K
open RF PySem
theorem suf : isFullB "b.x" = true ∧ isFullB "a.x" = true ∧ tabOf "b.x" = "b" ∧ tabOf "a.x" = "a" ∧ isNm "y" = true ∧ (("b" : Str) ++ ".x") = ("b.x" : Str) ∧ (("a" : Str) ++ ".x") = ("a.x" : Str) ∧ (".y" : Str) = "." ++ "y" ∧ (("b" : Str) ≠ "a") := by decide +kernel
theorem app_assoc3 (t a b : Str) : t ++ (a ++ b) = t ++ a ++ b := str_ext (by simp only [app_list, List.append_assoc])
theorem act_pure (s : Stp) : (actV s).pure = true := aE.pure s
theorem can_step (k : Nat) : CanStep (call GG fns (k + 6)) := fun S p a b c hp => by
  obtain ⟨way, a1, b1, c1, e1, l1, u1⟩ := can_take (k + 4) S p 4 a b c hp (by decide) (by decide)
  obtain ⟨m, a2, b2, c2, e2, l2, u2⟩ := can_take (k + 4) S p 4 a1 b1 c1 hp (by decide) (by decide)
  obtain ⟨t, a3, b3, c3, e3, ht⟩ := can_name (k + 3) S p a2 b2 c2 hp
  obtain ⟨m, rfl⟩ := Int.eq_ofNat_of_zero_le l2
  have hr : rangeV [.int (1 + (m : Int))] = some ((List.range (1 + m)).map fun i => .int (i : Nat)) := by
    rw [show (1 + (m : Int)) = ((1 + m : Nat) : Int) by omega]; exact rangeN (by omega)
  have fin1 : ∀ (s : Stp) (a' b' c' : Int), FineS s → ex GG (call GG fns (k + 5)) b_law_step [some (.ref p), none, none, none, none, none, none, none, none, none, none, none, none] (put S p a b c) = .rt (actV s) (put S p a' b' c') → ∃ (s : Stp) (a' b' c' : Int), call GG fns (k + 6) i_law_step [.ref p] (put S p a b c) = .ok (actV s) (put S p a' b' c') ∧ FineS s := fun s a' b' c' hs e =>
    ⟨s, a', b', c', by rw [call_rt fn_law_step rfl e rfl rfl (act_pure s) rfl, put_all], hs⟩
  have fin2 : ∀ (s : Stp) (R : Store) (a' b' c' : Int), FineS s → ex GG (call GG fns (k + 5)) b_law_step [some (.ref p), none, none, none, none, none, none, none, none, none, none, none, none] (put S p a b c) = .rt (actV s) (put (S ++ R) p a' b' c') → ∃ (s : Stp) (a' b' c' : Int), call GG fns (k + 6) i_law_step [.ref p] (put S p a b c) = .ok (actV s) (put S p a' b' c') ∧ FineS s := fun s R a' b' c' hs e =>
    ⟨s, a', b', c', by rw [call_rt fn_law_step rfl e rfl rfl (act_pure s) rfl, take_last hp], hs⟩
  have d10 : decide ((1 : Int) = 0) = false := rfl
  have d20 : decide ((2 : Int) = 0) = false := rfl
  have d21 : decide ((2 : Int) = 1) = false := rfl
  have d30 : decide ((3 : Int) = 0) = false := rfl
  have d31 : decide ((3 : Int) = 1) = false := rfl
  have d32 : decide ((3 : Int) = 2) = false := rfl
  rcases small4 l1 u1 with rfl | rfl | rfl | rfl
  · obtain ⟨ws, a4, b4, c4, e4, hl, hf⟩ := step_keep (can_lfull (k + 2)) (S := S) (p := p) (a := a3) (b := b3) (c := c3) (n := 1 + m) (env := [some (.ref p), some (.int 0), some (.int (1 + (m : Int))), some (.str t), none, none, none, none, none, none, none, none, none]) rfl rfl hp (by omega)
    have hne : ws ≠ [] := by intro e; subst e; simp at hl; omega
    have hz : ws.length + min 1 ws.length ≤ sizeLine := size_ok (by omega)
    by_cases hm : (1 + (m : Int)) < 4
    · obtain ⟨d, a5, b5, c5, e5, l5, u5⟩ := can_take (k + 4) S p 3 a4 b4 c4 hp (by decide) (by decide)
      by_cases hd : d = 0
      · subst hd
        refine fin1 (.keep t (ws ++ ws.take 1)) a5 b5 c5 ⟨ht, by simp [hne], by rw [List.length_append, List.length_take]; omega, fun w hw => ?_⟩ ?_
        · rcases List.mem_append.mp hw with hw | hw
          · exact hf w hw
          · exact hf w (List.mem_of_mem_take hw)
        · simp only [actV, strsV, List.map_append, List.map_take]
          simp only [b_law_step, e1, e2, e3, hr, e4, hm, e5, cut1, List.length_map, List.length_take, hz, strsP_nil, strsP_cons, List.foldl_cons, List.foldl_nil, empty_app, kindR, bmtKR, ↓ex_seq_skip, szR, boolsP_mapf, boolsP_map, List.all_map, List.any_map, Function.comp_def, id_eq, ev_k, ev_v, ev_xattr, ev_tup, ev_lst, ev_lstR, ev_bin, ev_cmp, ev_chain, ev_neg, ev_not, ev_and, ev_or, ev_ite, ev_call, ev_bfn, ev_listR, ev_bmt, ev_mmt, ev_isI, ev_attr, ev_idx, ev_slc, ev_rev, ev_comp, ev_compR, ev_fmt, ev_one, ev_fstr, ev_ocmp, ev_ostr, ex_ite, ex_skip, ex_seq, ex_set, ex_par, ex_setT, ex_setAttr, ex_setIdx, ex_expr, ex_for, ex_ret, ex_raise, evs_nil, evs_cons, evs_star, evs_itV, evs_itR1, evs_itR2, evs_itEnum, setTs_nil, setTs_v, setTs_ix, get0, getS, xR, xD, Bool.false_eq_true, if_false, if_true, nBok, nBex, nOpt, nTok, nTex, nFnx, nFrt, nFxc, nMap, List.append_nil, List.cons_append, List.nil_append, arrange, bindP, setMany, wipeP, List.set_cons_zero, List.set_cons_succ, List.length_cons, List.length_nil, PV.pures, PV.pure, Bool.and_self, Bool.true_and, Bool.and_true, and_self, and_true, true_and, vwR, truthR, cmpR', inR, eqS, isR, itR, stR, nilR, partR, slcR, revR, binR, bfnR, idxR, ifT_some, cond_t, cond_f, orB, andB, thnB, bindB, flB, flNx, Bool.not_true, Bool.not_false, decide_true, decide_false, Int.reduceLT]
      · refine fin1 (.keep t ws) a5 b5 c5 ⟨ht, hne, by omega, hf⟩ ?_
        simp only [actV]
        simp only [b_law_step, e1, e2, e3, hr, e4, hm, e5, hd, strsP_nil, strsP_cons, List.foldl_cons, List.foldl_nil, empty_app, kindR, bmtKR, ↓ex_seq_skip, szR, boolsP_mapf, boolsP_map, List.all_map, List.any_map, Function.comp_def, id_eq, ev_k, ev_v, ev_xattr, ev_tup, ev_lst, ev_lstR, ev_bin, ev_cmp, ev_chain, ev_neg, ev_not, ev_and, ev_or, ev_ite, ev_call, ev_bfn, ev_listR, ev_bmt, ev_mmt, ev_isI, ev_attr, ev_idx, ev_slc, ev_rev, ev_comp, ev_compR, ev_fmt, ev_one, ev_fstr, ev_ocmp, ev_ostr, ex_ite, ex_skip, ex_seq, ex_set, ex_par, ex_setT, ex_setAttr, ex_setIdx, ex_expr, ex_for, ex_ret, ex_raise, evs_nil, evs_cons, evs_star, evs_itV, evs_itR1, evs_itR2, evs_itEnum, setTs_nil, setTs_v, setTs_ix, get0, getS, xR, xD, Bool.false_eq_true, if_false, if_true, nBok, nBex, nOpt, nTok, nTex, nFnx, nFrt, nFxc, nMap, List.append_nil, List.cons_append, List.nil_append, arrange, bindP, setMany, wipeP, List.set_cons_zero, List.set_cons_succ, List.length_cons, List.length_nil, PV.pures, PV.pure, Bool.and_self, Bool.true_and, Bool.and_true, and_self, and_true, true_and, vwR, truthR, cmpR', inR, eqS, isR, itR, stR, nilR, partR, slcR, revR, binR, bfnR, idxR, ifT_some, cond_t, cond_f, orB, andB, thnB, bindB, flB, flNx, Bool.not_true, Bool.not_false, decide_true, decide_false, Int.reduceLT]
    · refine fin1 (.keep t ws) a4 b4 c4 ⟨ht, hne, by omega, hf⟩ ?_
      simp only [actV]
      simp only [b_law_step, e1, e2, e3, hr, e4, hm, strsP_nil, strsP_cons, List.foldl_cons, List.foldl_nil, empty_app, kindR, bmtKR, ↓ex_seq_skip, szR, boolsP_mapf, boolsP_map, List.all_map, List.any_map, Function.comp_def, id_eq, ev_k, ev_v, ev_xattr, ev_tup, ev_lst, ev_lstR, ev_bin, ev_cmp, ev_chain, ev_neg, ev_not, ev_and, ev_or, ev_ite, ev_call, ev_bfn, ev_listR, ev_bmt, ev_mmt, ev_isI, ev_attr, ev_idx, ev_slc, ev_rev, ev_comp, ev_compR, ev_fmt, ev_one, ev_fstr, ev_ocmp, ev_ostr, ex_ite, ex_skip, ex_seq, ex_set, ex_par, ex_setT, ex_setAttr, ex_setIdx, ex_expr, ex_for, ex_ret, ex_raise, evs_nil, evs_cons, evs_star, evs_itV, evs_itR1, evs_itR2, evs_itEnum, setTs_nil, setTs_v, setTs_ix, get0, getS, xR, xD, Bool.false_eq_true, if_false, if_true, nBok, nBex, nOpt, nTok, nTex, nFnx, nFrt, nFxc, nMap, List.append_nil, List.cons_append, List.nil_append, arrange, bindP, setMany, wipeP, List.set_cons_zero, List.set_cons_succ, List.length_cons, List.length_nil, PV.pures, PV.pure, Bool.and_self, Bool.true_and, Bool.and_true, and_self, and_true, true_and, vwR, truthR, cmpR', inR, eqS, isR, itR, stR, nilR, partR, slcR, revR, binR, bfnR, idxR, ifT_some, cond_t, cond_f, orB, andB, thnB, bindB, flB, flNx, Bool.not_true, Bool.not_false, decide_true, decide_false, Int.reduceLT]
  · obtain ⟨l, a4, b4, c4, env2, e4, ⟨x7, x8, x9, rfl⟩, hle, hok, hnd⟩ := join_loop (k := k + 1) (S := S) (p := p) (a := a3) (b := b3) (c := c3) (n := 1 + m) (t := t) (x1 := some (.int 1)) (x2 := some (.int (1 + (m : Int)))) (x4 := none) (x5 := some (.str (if t = "a" then "b" else "a"))) (x10 := none) (x11 := none) (x12 := none) ht hp (by omega)
    have hite : (bif decide (t = ("a" : Str)) then Out.ok (PV.str "b") (put S p a3 b3 c3) else Out.ok (PV.str "a") (put S p a3 b3 c3)) = Out.ok (PV.str (if t = "a" then "b" else "a")) (put S p a3 b3 c3) := by
      by_cases h : t = "a" <;> simp [h]
    have hap0 : put S p a3 b3 c3 ++ [SO.lst []] = put (S ++ [.lst []]) p a3 b3 c3 := put_app hp
    have hv := vw_last (S := S) (p := p) (a := a4) (b := b4) (c := c4) (l := l.map kv) hp
    have hne : cmpV (put (S ++ [.lst (l.map kv)]) p a4 b4 c4) .ne (.ref S.length) (.lst []) = some (!decide (l = [])) := (ref_ne lkE (a := l) (b := []) hv (fun b hb => okL_good (pair_good (hok b hb))) (fun _ h => (by cases h)) (by decide)).trans (by congr)
    have htl := tuple_last (S := S) (p := p) (a := a4) (b := b4) (c := c4) (l := l.map kv) hp
    have nt := nm_le ht
    by_cases hemp : l = []
    · subst hemp
      have ho : ∃ o : Str, o = (if t = ("a" : Str) then ("b" : Str) else ("a" : Str)) ++ ".x" ∧ isFullB o = true ∧ tabOf o ≠ t ∧ (if t = ("a" : Str) then ("b" : Str) else ("a" : Str)).length ≤ 10 := by
        by_cases h : t = "a"
        · rw [if_pos h]; exact ⟨_, rfl, by rw [suf.2.2.2.2.2.1]; exact suf.1, by rw [suf.2.2.2.2.2.1, suf.2.2.1, h]; exact suf.2.2.2.2.2.2.2.2, by decide +kernel⟩
        · rw [if_neg h]; exact ⟨_, rfl, by rw [suf.2.2.2.2.2.2.1]; exact suf.2.1, by rw [suf.2.2.2.2.2.2.1, suf.2.2.2.1]; exact fun e => h e.symm, by decide +kernel⟩
      obtain ⟨o, eo, ho1, ho2, ho3⟩ := ho
      have hnew := isFull_of ht suf.2.2.2.2.1
      have ey : t ++ ".y" = t ++ "." ++ "y" := by rw [suf.2.2.2.2.2.2.2.1, app_assoc3]
      have q1 := addR (x := (if t = ("a" : Str) then ("b" : Str) else ("a" : Str))) (y := ".x") (put (S ++ [.lst (([] : List (List Str)).map kv)]) p a4 b4 c4) (by omega) (by decide +kernel)
      have q2 := addR (x := t) (y := ".y") (put (S ++ [.lst (([] : List (List Str)).map kv)]) p a4 b4 c4) (by omega) (by decide +kernel)
      rw [← eo] at q1
      rw [ey] at q2
      refine fin2 (.join t [[o, t ++ "." ++ "y"]]) [.lst []] a4 b4 c4 ⟨ht, by simp, by simp, fun w hw => ?_, by simp⟩ ?_
      · rw [List.mem_singleton.mp hw]
        show ((isFullB o && isFullB (t ++ "." ++ "y")) && (!decide (tabOf o = t) && decide (tabOf (t ++ "." ++ "y") = t))) = true
        rw [ho1, hnew.1, hnew.2, decide_eq_false ho2, decide_eq_true rfl]; rfl
      · simp only [actV, keysV, List.map_cons, List.map_nil]
        simp only [List.map_nil, decide_true] at e4 hne q1 q2
        simp only [b_law_step, e1, e2, e3, d10, hite, put_len, hap0, hr, e4, hne, q1, q2, strsP_nil, strsP_cons, List.foldl_cons, List.foldl_nil, empty_app, kindR, bmtKR, ↓ex_seq_skip, szR, boolsP_mapf, boolsP_map, List.all_map, List.any_map, Function.comp_def, id_eq, ev_k, ev_v, ev_xattr, ev_tup, ev_lst, ev_lstR, ev_bin, ev_cmp, ev_chain, ev_neg, ev_not, ev_and, ev_or, ev_ite, ev_call, ev_bfn, ev_listR, ev_bmt, ev_mmt, ev_isI, ev_attr, ev_idx, ev_slc, ev_rev, ev_comp, ev_compR, ev_fmt, ev_one, ev_fstr, ev_ocmp, ev_ostr, ex_ite, ex_skip, ex_seq, ex_set, ex_par, ex_setT, ex_setAttr, ex_setIdx, ex_expr, ex_for, ex_ret, ex_raise, evs_nil, evs_cons, evs_star, evs_itV, evs_itR1, evs_itR2, evs_itEnum, setTs_nil, setTs_v, setTs_ix, get0, getS, xR, xD, Bool.false_eq_true, if_false, if_true, nBok, nBex, nOpt, nTok, nTex, nFnx, nFrt, nFxc, nMap, List.append_nil, List.cons_append, List.nil_append, arrange, bindP, setMany, wipeP, List.set_cons_zero, List.set_cons_succ, List.length_cons, List.length_nil, PV.pures, PV.pure, Bool.and_self, Bool.true_and, Bool.and_true, and_self, and_true, true_and, vwR, truthR, cmpR', inR, eqS, isR, itR, stR, nilR, partR, slcR, revR, binR, bfnR, idxR, ifT_some, cond_t, cond_f, orB, andB, thnB, bindB, flB, flNx, Bool.not_true, Bool.not_false, decide_true, decide_false, Int.reduceLT]
    · rw [decide_eq_false hemp] at hne
      refine fin2 (.join t l) [.lst (l.map kv)] a4 b4 c4 ⟨ht, hemp, by omega, hok, hnd⟩ ?_
      simp only [actV]
      simp only [b_law_step, e1, e2, e3, d10, hite, put_len, hap0, hr, e4, hne, htl, strsP_nil, strsP_cons, List.foldl_cons, List.foldl_nil, empty_app, kindR, bmtKR, ↓ex_seq_skip, szR, boolsP_mapf, boolsP_map, List.all_map, List.any_map, Function.comp_def, id_eq, ev_k, ev_v, ev_xattr, ev_tup, ev_lst, ev_lstR, ev_bin, ev_cmp, ev_chain, ev_neg, ev_not, ev_and, ev_or, ev_ite, ev_call, ev_bfn, ev_listR, ev_bmt, ev_mmt, ev_isI, ev_attr, ev_idx, ev_slc, ev_rev, ev_comp, ev_compR, ev_fmt, ev_one, ev_fstr, ev_ocmp, ev_ostr, ex_ite, ex_skip, ex_seq, ex_set, ex_par, ex_setT, ex_setAttr, ex_setIdx, ex_expr, ex_for, ex_ret, ex_raise, evs_nil, evs_cons, evs_star, evs_itV, evs_itR1, evs_itR2, evs_itEnum, setTs_nil, setTs_v, setTs_ix, get0, getS, xR, xD, Bool.false_eq_true, if_false, if_true, nBok, nBex, nOpt, nTok, nTex, nFnx, nFrt, nFxc, nMap, List.append_nil, List.cons_append, List.nil_append, arrange, bindP, setMany, wipeP, List.set_cons_zero, List.set_cons_succ, List.length_cons, List.length_nil, PV.pures, PV.pure, Bool.and_self, Bool.true_and, Bool.and_true, and_self, and_true, true_and, vwR, truthR, cmpR', inR, eqS, isR, itR, stR, nilR, partR, slcR, revR, binR, bfnR, idxR, ifT_some, cond_t, cond_f, orB, andB, thnB, bindB, flB, flNx, Bool.not_true, Bool.not_false, decide_true, decide_false, Int.reduceLT]
  · obtain ⟨d, a4, b4, c4, e4, l4, u4⟩ := can_take (k + 4) S p 4 a3 b3 c3 hp (by decide) (by decide)
    have hn : ∃ n : Nat, 1 ≤ n ∧ n ≤ 20 ∧ L2.atI [PV.int 1, .int 2, .int (1 + (m : Int)), .int 20] d = some (.int (n : Nat)) := by
      rcases small4 l4 u4 with rfl | rfl | rfl | rfl
      · exact ⟨1, by omega, by omega, rfl⟩
      · exact ⟨2, by omega, by omega, rfl⟩
      · exact ⟨1 + m, by omega, by omega, by rw [show ((1 + m : Nat) : Int) = 1 + (m : Int) by omega]; rfl⟩
      · exact ⟨20, by omega, by omega, rfl⟩
    obtain ⟨n, hn1, hn2, hi⟩ := hn
    obtain ⟨ws, a5, b5, c5, e5, hl, hnd, hf⟩ := can_fulls (k + 1) S p a4 b4 c4 n hp hn2
    obtain ⟨ys, a6, b6, c6, e6, hb⟩ := step_sort (can_take (k + 4)) (S := S) (p := p) (a := a5) (b := b5) (c := c5) (ws := ws) (env := [some (.ref p), some (.int 2), some (.int (1 + (m : Int))), some (.str t), some (.lst (ws.map .str)), none, none, none, none, none, none, none, none]) rfl rfl hp (by omega) hf
    have hyl : ys.length = n := by rw [← hl, ← hb, List.length_map]
    refine fin1 (.sort ys) a6 b6 c6 ⟨by intro e; subst e; simp at hyl; omega, by omega, fun w hw => ?_, by rw [hb]; exact hnd⟩ ?_
    · exact hf _ (by rw [← hb]; exact List.mem_map_of_mem hw)
    · simp only [actV]
      simp only [b_law_step, e1, e2, e3, d20, d21, e4, hi, e5, e6, strsP_nil, strsP_cons, List.foldl_cons, List.foldl_nil, empty_app, kindR, bmtKR, ↓ex_seq_skip, szR, boolsP_mapf, boolsP_map, List.all_map, List.any_map, Function.comp_def, id_eq, ev_k, ev_v, ev_xattr, ev_tup, ev_lst, ev_lstR, ev_bin, ev_cmp, ev_chain, ev_neg, ev_not, ev_and, ev_or, ev_ite, ev_call, ev_bfn, ev_listR, ev_bmt, ev_mmt, ev_isI, ev_attr, ev_idx, ev_slc, ev_rev, ev_comp, ev_compR, ev_fmt, ev_one, ev_fstr, ev_ocmp, ev_ostr, ex_ite, ex_skip, ex_seq, ex_set, ex_par, ex_setT, ex_setAttr, ex_setIdx, ex_expr, ex_for, ex_ret, ex_raise, evs_nil, evs_cons, evs_star, evs_itV, evs_itR1, evs_itR2, evs_itEnum, setTs_nil, setTs_v, setTs_ix, get0, getS, xR, xD, Bool.false_eq_true, if_false, if_true, nBok, nBex, nOpt, nTok, nTex, nFnx, nFrt, nFxc, nMap, List.append_nil, List.cons_append, List.nil_append, arrange, bindP, setMany, wipeP, List.set_cons_zero, List.set_cons_succ, List.length_cons, List.length_nil, PV.pures, PV.pure, Bool.and_self, Bool.true_and, Bool.and_true, and_self, and_true, true_and, vwR, truthR, cmpR', inR, eqS, isR, itR, stR, nilR, partR, slcR, revR, binR, bfnR, idxR, ifT_some, cond_t, cond_f, orB, andB, thnB, bindB, flB, flNx, Bool.not_true, Bool.not_false, decide_true, decide_false, Int.reduceLT]
  · obtain ⟨low, a4, b4, c4, e4, l4, u4⟩ := can_take (k + 4) S p 10 a3 b3 c3 hp (by decide) (by decide)
    obtain ⟨lst, a5, b5, c5, e5, l5, u5⟩ := can_take (k + 4) S p 14 a4 b4 c4 hp (by decide) (by decide)
    obtain ⟨n, a6, b6, c6, e6, l6, u6⟩ := can_take (k + 4) S p 5 a5 b5 c5 hp (by decide) (by decide)
    obtain ⟨n, rfl⟩ := Int.eq_ofNat_of_zero_le l6
    obtain ⟨ws, a7, b7, c7, e7, hl, hnd, hf⟩ := can_fulls (k + 1) S p a6 b6 c6 n hp (by omega)
    have hdig : ∀ i : Int, 0 ≤ i → i ≤ 9 → digB i = true := fun i h0 h9 => by
      unfold digB
      rw [decide_eq_true h0, decide_eq_true h9]; rfl
    by_cases h9 : 9 < lst
    · refine fin1 (.cut low none ws) a7 b7 c7 ⟨hdig low l4 (by omega), fun _ h => (by cases h), by omega, hf, hnd⟩ ?_
      simp only [actV]
      simp only [b_law_step, e1, e2, e3, d30, d31, d32, e4, e5, h9, e6, e7, strsP_nil, strsP_cons, List.foldl_cons, List.foldl_nil, empty_app, kindR, bmtKR, ↓ex_seq_skip, szR, boolsP_mapf, boolsP_map, List.all_map, List.any_map, Function.comp_def, id_eq, ev_k, ev_v, ev_xattr, ev_tup, ev_lst, ev_lstR, ev_bin, ev_cmp, ev_chain, ev_neg, ev_not, ev_and, ev_or, ev_ite, ev_call, ev_bfn, ev_listR, ev_bmt, ev_mmt, ev_isI, ev_attr, ev_idx, ev_slc, ev_rev, ev_comp, ev_compR, ev_fmt, ev_one, ev_fstr, ev_ocmp, ev_ostr, ex_ite, ex_skip, ex_seq, ex_set, ex_par, ex_setT, ex_setAttr, ex_setIdx, ex_expr, ex_for, ex_ret, ex_raise, evs_nil, evs_cons, evs_star, evs_itV, evs_itR1, evs_itR2, evs_itEnum, setTs_nil, setTs_v, setTs_ix, get0, getS, xR, xD, Bool.false_eq_true, if_false, if_true, nBok, nBex, nOpt, nTok, nTex, nFnx, nFrt, nFxc, nMap, List.append_nil, List.cons_append, List.nil_append, arrange, bindP, setMany, wipeP, List.set_cons_zero, List.set_cons_succ, List.length_cons, List.length_nil, PV.pures, PV.pure, Bool.and_self, Bool.true_and, Bool.and_true, and_self, and_true, true_and, vwR, truthR, cmpR', inR, eqS, isR, itR, stR, nilR, partR, slcR, revR, binR, bfnR, idxR, ifT_some, cond_t, cond_f, orB, andB, thnB, bindB, flB, flNx, Bool.not_true, Bool.not_false, decide_true, decide_false, Int.reduceLT]
      rfl
    · refine fin1 (.cut low (some lst) ws) a7 b7 c7 ⟨hdig low l4 (by omega), fun c h => (by cases h; exact hdig lst l5 (by omega)), by omega, hf, hnd⟩ ?_
      simp only [actV]
      simp only [b_law_step, e1, e2, e3, d30, d31, d32, e4, e5, h9, e6, e7, strsP_nil, strsP_cons, List.foldl_cons, List.foldl_nil, empty_app, kindR, bmtKR, ↓ex_seq_skip, szR, boolsP_mapf, boolsP_map, List.all_map, List.any_map, Function.comp_def, id_eq, ev_k, ev_v, ev_xattr, ev_tup, ev_lst, ev_lstR, ev_bin, ev_cmp, ev_chain, ev_neg, ev_not, ev_and, ev_or, ev_ite, ev_call, ev_bfn, ev_listR, ev_bmt, ev_mmt, ev_isI, ev_attr, ev_idx, ev_slc, ev_rev, ev_comp, ev_compR, ev_fmt, ev_one, ev_fstr, ev_ocmp, ev_ostr, ex_ite, ex_skip, ex_seq, ex_set, ex_par, ex_setT, ex_setAttr, ex_setIdx, ex_expr, ex_for, ex_ret, ex_raise, evs_nil, evs_cons, evs_star, evs_itV, evs_itR1, evs_itR2, evs_itEnum, setTs_nil, setTs_v, setTs_ix, get0, getS, xR, xD, Bool.false_eq_true, if_false, if_true, nBok, nBex, nOpt, nTok, nTex, nFnx, nFrt, nFxc, nMap, List.append_nil, List.cons_append, List.nil_append, arrange, bindP, setMany, wipeP, List.set_cons_zero, List.set_cons_succ, List.length_cons, List.length_nil, PV.pures, PV.pure, Bool.and_self, Bool.true_and, Bool.and_true, and_self, and_true, true_and, vwR, truthR, cmpR', inR, eqS, isR, itR, stR, nilR, partR, slcR, revR, binR, bfnR, idxR, ifT_some, cond_t, cond_f, orB, andB, thnB, bindB, flB, flNx, Bool.not_true, Bool.not_false, decide_true, decide_false, Int.reduceLT]
      rfl
end RF.K
namespace RF.K
open RF PySem
/-! steps bent -/
def flip (w : Str) : Str := if L2.cutS w none (some 1) = "-" then L2.cutS w (some 1) none else "-" ++ w
theorem flip_bare {w : Str} (h : isFullB (bare w) = true) : bare (flip w) = bare w := by
  unfold flip
  rcases bare_cases w with ⟨e, hc⟩ | ⟨e, hc⟩
  · rw [if_neg hc, bare_minus, e]
  · rw [if_pos hc]
    have : bare w = L2.cutS w (some 1) none := by unfold bare; rw [if_pos hc]
    rw [← this]
    exact bare_full h
theorem nd_rev {α : Type} {l : List α} (h : l.Nodup) : l.reverse.Nodup := (List.reverse_perm l).symm.nodup h
theorem small3 {n : Int} (h0 : 0 ≤ n) (h : n < 3) : n = 0 ∨ n = 1 ∨ n = 2 := by omega
def CanBent (C : CallF) : Prop := ∀ (S : Store) (p : Nat) (a b c : Int) s, p < S.length → FineS s → ∃ (s' : Stp) (a' b' c' : Int), C i_law_bent [.ref p, actV s] (put S p a b c) = .ok (actV s') (put S p a' b' c') ∧ FineS s'
theorem drop1 (l : List PV) : cutP l (some 1) none = l.drop 1 := cut_drop l 1
theorem can_bent (k : Nat) : CanBent (call GG fns (k + 4)) := fun S p a b c s hp h => by
  obtain ⟨way, a1, b1, c1, e1, l1, u1⟩ := can_take (k + 2) S p 3 a b c hp (by decide) (by decide)
  have fin : ∀ (s' : Stp) (a' b' c' : Int), FineS s' → ex GG (call GG fns (k + 3)) b_law_bent [some (.ref p), some (actV s), none, none, none, none, none, none] (put S p a b c) = .rt (actV s') (put S p a' b' c') → ∃ (s' : Stp) (a' b' c' : Int), call GG fns (k + 4) i_law_bent [.ref p, actV s] (put S p a b c) = .ok (actV s') (put S p a' b' c') ∧ FineS s' := fun s' a' b' c' hs e =>
    ⟨s', a', b', c', by rw [call_rt fn_law_bent rfl e rfl rfl (act_pure s') rfl, put_all], hs⟩
  have t0 : ∀ a b c : PV, L2.atI [a, b, c] 0 = some a := fun _ _ _ => rfl
  have t1 : ∀ a b c : PV, L2.atI [a, b, c] 1 = some b := fun _ _ _ => rfl
  have t2 : ∀ a b c : PV, L2.atI [a, b, c] 2 = some c := fun _ _ _ => rfl
  have d02 : decide ((0 : Int) = 2) = false := rfl
  have d12 : decide ((1 : Int) = 2) = false := rfl
  cases s with
  | cut st cnt per =>
    obtain ⟨h1, h2, h3, h4, h5⟩ := h
    have h1' : 0 ≤ st ∧ st ≤ 9 := by
      unfold digB at h1
      simpa only [Bool.and_eq_true, decide_eq_true_eq] using h1
    have hd : digB (9 - st) = true := by
      unfold digB
      rw [decide_eq_true (show 0 ≤ 9 - st by omega), decide_eq_true (show 9 - st ≤ 9 by omega)]; rfl
    rcases small3 l1 u1 with rfl | rfl | rfl
    · cases cnt with
      | none =>
        refine fin (.cut st (some 9) per) a1 b1 c1 ⟨h1, fun c h => (by cases h; rfl), h3, h4, h5⟩ ?_
        simp only [actV]
        simp only [b_law_bent, e1, at4, isn_cnt, t0, strsP_nil, strsP_cons, List.foldl_cons, List.foldl_nil, empty_app, kindR, bmtKR, ↓ex_seq_skip, szR, boolsP_mapf, boolsP_map, List.all_map, List.any_map, Function.comp_def, id_eq, ev_k, ev_v, ev_xattr, ev_tup, ev_lst, ev_lstR, ev_bin, ev_cmp, ev_chain, ev_neg, ev_not, ev_and, ev_or, ev_ite, ev_call, ev_bfn, ev_listR, ev_bmt, ev_mmt, ev_isI, ev_attr, ev_idx, ev_slc, ev_rev, ev_comp, ev_compR, ev_fmt, ev_one, ev_fstr, ev_ocmp, ev_ostr, ex_ite, ex_skip, ex_seq, ex_set, ex_par, ex_setT, ex_setAttr, ex_setIdx, ex_expr, ex_for, ex_ret, ex_raise, evs_nil, evs_cons, evs_star, evs_itV, evs_itR1, evs_itR2, evs_itEnum, setTs_nil, setTs_v, setTs_ix, get0, getS, xR, xD, Bool.false_eq_true, if_false, if_true, nBok, nBex, nOpt, nTok, nTex, nFnx, nFrt, nFxc, nMap, List.append_nil, List.cons_append, List.nil_append, arrange, bindP, setMany, wipeP, List.set_cons_zero, List.set_cons_succ, List.length_cons, List.length_nil, PV.pures, PV.pure, Bool.and_self, Bool.true_and, Bool.and_true, and_self, and_true, true_and, vwR, truthR, cmpR', inR, eqS, isR, itR, stR, nilR, partR, slcR, revR, binR, bfnR, idxR, ifT_some, cond_t, cond_f, orB, andB, thnB, bindB, flB, flNx, Bool.not_true, Bool.not_false, decide_true, decide_false, Int.reduceLT]
        rfl
      | some n =>
        refine fin (.cut st none per) a1 b1 c1 ⟨h1, fun _ h => (by cases h), h3, h4, h5⟩ ?_
        simp only [actV]
        simp only [b_law_bent, e1, at4, isn_cnt, t0, strsP_nil, strsP_cons, List.foldl_cons, List.foldl_nil, empty_app, kindR, bmtKR, ↓ex_seq_skip, szR, boolsP_mapf, boolsP_map, List.all_map, List.any_map, Function.comp_def, id_eq, ev_k, ev_v, ev_xattr, ev_tup, ev_lst, ev_lstR, ev_bin, ev_cmp, ev_chain, ev_neg, ev_not, ev_and, ev_or, ev_ite, ev_call, ev_bfn, ev_listR, ev_bmt, ev_mmt, ev_isI, ev_attr, ev_idx, ev_slc, ev_rev, ev_comp, ev_compR, ev_fmt, ev_one, ev_fstr, ev_ocmp, ev_ostr, ex_ite, ex_skip, ex_seq, ex_set, ex_par, ex_setT, ex_setAttr, ex_setIdx, ex_expr, ex_for, ex_ret, ex_raise, evs_nil, evs_cons, evs_star, evs_itV, evs_itR1, evs_itR2, evs_itEnum, setTs_nil, setTs_v, setTs_ix, get0, getS, xR, xD, Bool.false_eq_true, if_false, if_true, nBok, nBex, nOpt, nTok, nTex, nFnx, nFrt, nFxc, nMap, List.append_nil, List.cons_append, List.nil_append, arrange, bindP, setMany, wipeP, List.set_cons_zero, List.set_cons_succ, List.length_cons, List.length_nil, PV.pures, PV.pure, Bool.and_self, Bool.true_and, Bool.and_true, and_self, and_true, true_and, vwR, truthR, cmpR', inR, eqS, isR, itR, stR, nilR, partR, slcR, revR, binR, bfnR, idxR, ifT_some, cond_t, cond_f, orB, andB, thnB, bindB, flB, flNx, Bool.not_true, Bool.not_false, decide_true, decide_false, Int.reduceLT]
        rfl
    · refine fin (.cut (9 - st) cnt per) a1 b1 c1 ⟨hd, h2, h3, h4, h5⟩ ?_
      simp only [actV]
      cases cnt <;> simp only [b_law_bent, e1, at4, isn_cnt, t1, strsP_nil, strsP_cons, List.foldl_cons, List.foldl_nil, empty_app, kindR, bmtKR, ↓ex_seq_skip, szR, boolsP_mapf, boolsP_map, List.all_map, List.any_map, Function.comp_def, id_eq, ev_k, ev_v, ev_xattr, ev_tup, ev_lst, ev_lstR, ev_bin, ev_cmp, ev_chain, ev_neg, ev_not, ev_and, ev_or, ev_ite, ev_call, ev_bfn, ev_listR, ev_bmt, ev_mmt, ev_isI, ev_attr, ev_idx, ev_slc, ev_rev, ev_comp, ev_compR, ev_fmt, ev_one, ev_fstr, ev_ocmp, ev_ostr, ex_ite, ex_skip, ex_seq, ex_set, ex_par, ex_setT, ex_setAttr, ex_setIdx, ex_expr, ex_for, ex_ret, ex_raise, evs_nil, evs_cons, evs_star, evs_itV, evs_itR1, evs_itR2, evs_itEnum, setTs_nil, setTs_v, setTs_ix, get0, getS, xR, xD, Bool.false_eq_true, if_false, if_true, nBok, nBex, nOpt, nTok, nTex, nFnx, nFrt, nFxc, nMap, List.append_nil, List.cons_append, List.nil_append, arrange, bindP, setMany, wipeP, List.set_cons_zero, List.set_cons_succ, List.length_cons, List.length_nil, PV.pures, PV.pure, Bool.and_self, Bool.true_and, Bool.and_true, and_self, and_true, true_and, vwR, truthR, cmpR', inR, eqS, isR, itR, stR, nilR, partR, slcR, revR, binR, bfnR, idxR, ifT_some, cond_t, cond_f, orB, andB, thnB, bindB, flB, flNx, Bool.not_true, Bool.not_false, decide_true, decide_false, Int.reduceLT]
    · refine fin (.cut st cnt per.reverse) a1 b1 c1 ⟨h1, h2, by rw [List.length_reverse]; exact h3, fun w hw => h4 w (List.mem_reverse.mp hw), nd_rev h5⟩ ?_
      simp only [actV, strsV, List.map_reverse]
      cases cnt <;> simp only [b_law_bent, e1, at4, isn_cnt, t2, strsP_nil, strsP_cons, List.foldl_cons, List.foldl_nil, empty_app, kindR, bmtKR, ↓ex_seq_skip, szR, boolsP_mapf, boolsP_map, List.all_map, List.any_map, Function.comp_def, id_eq, ev_k, ev_v, ev_xattr, ev_tup, ev_lst, ev_lstR, ev_bin, ev_cmp, ev_chain, ev_neg, ev_not, ev_and, ev_or, ev_ite, ev_call, ev_bfn, ev_listR, ev_bmt, ev_mmt, ev_isI, ev_attr, ev_idx, ev_slc, ev_rev, ev_comp, ev_compR, ev_fmt, ev_one, ev_fstr, ev_ocmp, ev_ostr, ex_ite, ex_skip, ex_seq, ex_set, ex_par, ex_setT, ex_setAttr, ex_setIdx, ex_expr, ex_for, ex_ret, ex_raise, evs_nil, evs_cons, evs_star, evs_itV, evs_itR1, evs_itR2, evs_itEnum, setTs_nil, setTs_v, setTs_ix, get0, getS, xR, xD, Bool.false_eq_true, if_false, if_true, nBok, nBex, nOpt, nTok, nTex, nFnx, nFrt, nFxc, nMap, List.append_nil, List.cons_append, List.nil_append, arrange, bindP, setMany, wipeP, List.set_cons_zero, List.set_cons_succ, List.length_cons, List.length_nil, PV.pures, PV.pure, Bool.and_self, Bool.true_and, Bool.and_true, and_self, and_true, true_and, vwR, truthR, cmpR', inR, eqS, isR, itR, stR, nilR, partR, slcR, revR, binR, bfnR, idxR, ifT_some, cond_t, cond_f, orB, andB, thnB, bindB, flB, flNx, Bool.not_true, Bool.not_false, decide_true, decide_false, Int.reduceLT]
  | sort cols =>
    obtain ⟨h1, h2, h3, h4⟩ := h
    obtain ⟨c0, cs, rfl⟩ := List.exists_cons_of_ne_nil h1
    have hc0 := h3 c0 (List.mem_cons_self ..)
    have lc0 := bare_le hc0
    have s1 := slc_str (S := put S p a1 b1 c1) lc0.2 none (some 1)
    have s2 := slc_str (S := put S p a1 b1 c1) lc0.2 (some 1) none
    have q1 := addR (x := "-") (y := c0) (put S p a1 b1 c1) (by decide +kernel) (by omega)
    have hfl : (bif decide (L2.cutS c0 none (some 1) = "-") then Out.ok (PV.str (L2.cutS c0 (some 1) none)) (put S p a1 b1 c1) else Out.ok (PV.str ("-" ++ c0)) (put S p a1 b1 c1)) = Out.ok (PV.str (flip c0)) (put S p a1 b1 c1) := by
      unfold flip
      by_cases h : L2.cutS c0 none (some 1) = "-" <;> simp [h]
    have i0 : L2.atI (PV.str c0 :: cs.map PV.str) 0 = some (.str c0) := atI_0 _ _
    have z1 : (0 + 1) + cs.length ≤ sizeLine := size_ok (by rw [List.length_cons] at h2; omega)
    have dr : (PV.str c0 :: cs.map PV.str).drop 1 = cs.map PV.str := rfl
    have tk : (PV.str c0 :: cs.map PV.str).take 1 = [PV.str c0] := rfl
    rcases small3 l1 u1 with rfl | rfl | rfl
    · refine fin (.sort (flip c0 :: cs)) a1 b1 c1 ⟨by simp, h2, fun w hw => ?_, ?_⟩ ?_
      · rcases List.mem_cons.mp hw with rfl | hw
        · rw [flip_bare hc0]; exact hc0
        · exact h3 w (List.mem_cons_of_mem _ hw)
      · rw [List.map_cons, flip_bare hc0]; exact h4
      · simp only [actV, strsV, List.map_cons]
        simp only [b_law_bent, e1, at2, kinds, i0, s1, s2, q1, hfl, drop1, cut1, dr, tk, List.length_map, z1, t0, strsP_nil, strsP_cons, List.foldl_cons, List.foldl_nil, empty_app, kindR, bmtKR, ↓ex_seq_skip, szR, boolsP_mapf, boolsP_map, List.all_map, List.any_map, Function.comp_def, id_eq, ev_k, ev_v, ev_xattr, ev_tup, ev_lst, ev_lstR, ev_bin, ev_cmp, ev_chain, ev_neg, ev_not, ev_and, ev_or, ev_ite, ev_call, ev_bfn, ev_listR, ev_bmt, ev_mmt, ev_isI, ev_attr, ev_idx, ev_slc, ev_rev, ev_comp, ev_compR, ev_fmt, ev_one, ev_fstr, ev_ocmp, ev_ostr, ex_ite, ex_skip, ex_seq, ex_set, ex_par, ex_setT, ex_setAttr, ex_setIdx, ex_expr, ex_for, ex_ret, ex_raise, evs_nil, evs_cons, evs_star, evs_itV, evs_itR1, evs_itR2, evs_itEnum, setTs_nil, setTs_v, setTs_ix, get0, getS, xR, xD, Bool.false_eq_true, if_false, if_true, nBok, nBex, nOpt, nTok, nTex, nFnx, nFrt, nFxc, nMap, List.append_nil, List.cons_append, List.nil_append, arrange, bindP, setMany, wipeP, List.set_cons_zero, List.set_cons_succ, List.length_cons, List.length_nil, PV.pures, PV.pure, Bool.and_self, Bool.true_and, Bool.and_true, and_self, and_true, true_and, vwR, truthR, cmpR', inR, eqS, isR, itR, stR, nilR, partR, slcR, revR, binR, bfnR, idxR, ifT_some, cond_t, cond_f, orB, andB, thnB, bindB, flB, flNx, Bool.not_true, Bool.not_false, decide_true, decide_false, Int.reduceLT]
    · refine fin (.sort (c0 :: cs).reverse) a1 b1 c1 ⟨by simp, by rw [List.length_reverse]; exact h2, fun w hw => h3 w (List.mem_reverse.mp hw), by rw [List.map_reverse]; exact nd_rev h4⟩ ?_
      simp only [actV, strsV, List.map_reverse, List.map_cons]
      simp only [b_law_bent, e1, at2, kinds, i0, s1, s2, q1, hfl, drop1, cut1, dr, tk, List.length_map, z1, t1, strsP_nil, strsP_cons, List.foldl_cons, List.foldl_nil, empty_app, kindR, bmtKR, ↓ex_seq_skip, szR, boolsP_mapf, boolsP_map, List.all_map, List.any_map, Function.comp_def, id_eq, ev_k, ev_v, ev_xattr, ev_tup, ev_lst, ev_lstR, ev_bin, ev_cmp, ev_chain, ev_neg, ev_not, ev_and, ev_or, ev_ite, ev_call, ev_bfn, ev_listR, ev_bmt, ev_mmt, ev_isI, ev_attr, ev_idx, ev_slc, ev_rev, ev_comp, ev_compR, ev_fmt, ev_one, ev_fstr, ev_ocmp, ev_ostr, ex_ite, ex_skip, ex_seq, ex_set, ex_par, ex_setT, ex_setAttr, ex_setIdx, ex_expr, ex_for, ex_ret, ex_raise, evs_nil, evs_cons, evs_star, evs_itV, evs_itR1, evs_itR2, evs_itEnum, setTs_nil, setTs_v, setTs_ix, get0, getS, xR, xD, Bool.false_eq_true, if_false, if_true, nBok, nBex, nOpt, nTok, nTex, nFnx, nFrt, nFxc, nMap, List.append_nil, List.cons_append, List.nil_append, arrange, bindP, setMany, wipeP, List.set_cons_zero, List.set_cons_succ, List.length_cons, List.length_nil, PV.pures, PV.pure, Bool.and_self, Bool.true_and, Bool.and_true, and_self, and_true, true_and, vwR, truthR, cmpR', inR, eqS, isR, itR, stR, nilR, partR, slcR, revR, binR, bfnR, idxR, ifT_some, cond_t, cond_f, orB, andB, thnB, bindB, flB, flNx, Bool.not_true, Bool.not_false, decide_true, decide_false, Int.reduceLT]
    · refine fin (.sort [c0]) a1 b1 c1 ⟨by simp, by simp, fun w hw => by rw [List.mem_singleton.mp hw]; exact hc0, by simp⟩ ?_
      simp only [actV, strsV, List.map_cons, List.map_nil]
      simp only [b_law_bent, e1, at2, kinds, i0, s1, s2, q1, hfl, drop1, cut1, dr, tk, List.length_map, z1, t2, strsP_nil, strsP_cons, List.foldl_cons, List.foldl_nil, empty_app, kindR, bmtKR, ↓ex_seq_skip, szR, boolsP_mapf, boolsP_map, List.all_map, List.any_map, Function.comp_def, id_eq, ev_k, ev_v, ev_xattr, ev_tup, ev_lst, ev_lstR, ev_bin, ev_cmp, ev_chain, ev_neg, ev_not, ev_and, ev_or, ev_ite, ev_call, ev_bfn, ev_listR, ev_bmt, ev_mmt, ev_isI, ev_attr, ev_idx, ev_slc, ev_rev, ev_comp, ev_compR, ev_fmt, ev_one, ev_fstr, ev_ocmp, ev_ostr, ex_ite, ex_skip, ex_seq, ex_set, ex_par, ex_setT, ex_setAttr, ex_setIdx, ex_expr, ex_for, ex_ret, ex_raise, evs_nil, evs_cons, evs_star, evs_itV, evs_itR1, evs_itR2, evs_itEnum, setTs_nil, setTs_v, setTs_ix, get0, getS, xR, xD, Bool.false_eq_true, if_false, if_true, nBok, nBex, nOpt, nTok, nTex, nFnx, nFrt, nFxc, nMap, List.append_nil, List.cons_append, List.nil_append, arrange, bindP, setMany, wipeP, List.set_cons_zero, List.set_cons_succ, List.length_cons, List.length_nil, PV.pures, PV.pure, Bool.and_self, Bool.true_and, Bool.and_true, and_self, and_true, true_and, vwR, truthR, cmpR', inR, eqS, isR, itR, stR, nilR, partR, slcR, revR, binR, bfnR, idxR, ifT_some, cond_t, cond_f, orB, andB, thnB, bindB, flB, flNx, Bool.not_true, Bool.not_false, decide_true, decide_false, Int.reduceLT]
  | keep t cols =>
    obtain ⟨h1, h2, h3, h4⟩ := h
    rcases small3 l1 u1 with rfl | rfl | rfl
    · refine fin (.keep t cols.reverse) a1 b1 c1 ⟨h1, by simp [h2], by rw [List.length_reverse]; exact h3, fun w hw => h4 w (List.mem_reverse.mp hw)⟩ ?_
      simp only [actV, strsV, List.map_reverse]
      simp only [b_law_bent, e1, at3, kinds, d02, cut1, t0, strsP_nil, strsP_cons, List.foldl_cons, List.foldl_nil, empty_app, kindR, bmtKR, ↓ex_seq_skip, szR, boolsP_mapf, boolsP_map, List.all_map, List.any_map, Function.comp_def, id_eq, ev_k, ev_v, ev_xattr, ev_tup, ev_lst, ev_lstR, ev_bin, ev_cmp, ev_chain, ev_neg, ev_not, ev_and, ev_or, ev_ite, ev_call, ev_bfn, ev_listR, ev_bmt, ev_mmt, ev_isI, ev_attr, ev_idx, ev_slc, ev_rev, ev_comp, ev_compR, ev_fmt, ev_one, ev_fstr, ev_ocmp, ev_ostr, ex_ite, ex_skip, ex_seq, ex_set, ex_par, ex_setT, ex_setAttr, ex_setIdx, ex_expr, ex_for, ex_ret, ex_raise, evs_nil, evs_cons, evs_star, evs_itV, evs_itR1, evs_itR2, evs_itEnum, setTs_nil, setTs_v, setTs_ix, get0, getS, xR, xD, Bool.false_eq_true, if_false, if_true, nBok, nBex, nOpt, nTok, nTex, nFnx, nFrt, nFxc, nMap, List.append_nil, List.cons_append, List.nil_append, arrange, bindP, setMany, wipeP, List.set_cons_zero, List.set_cons_succ, List.length_cons, List.length_nil, PV.pures, PV.pure, Bool.and_self, Bool.true_and, Bool.and_true, and_self, and_true, true_and, vwR, truthR, cmpR', inR, eqS, isR, itR, stR, nilR, partR, slcR, revR, binR, bfnR, idxR, ifT_some, cond_t, cond_f, orB, andB, thnB, bindB, flB, flNx, Bool.not_true, Bool.not_false, decide_true, decide_false, Int.reduceLT]
    · refine fin (.keep t (cols.take 1)) a1 b1 c1 ⟨h1, by simp [h2], by rw [List.length_take]; omega, fun w hw => h4 w (List.mem_of_mem_take hw)⟩ ?_
      simp only [actV, strsV, List.map_take]
      simp only [b_law_bent, e1, at3, kinds, d12, cut1, t1, strsP_nil, strsP_cons, List.foldl_cons, List.foldl_nil, empty_app, kindR, bmtKR, ↓ex_seq_skip, szR, boolsP_mapf, boolsP_map, List.all_map, List.any_map, Function.comp_def, id_eq, ev_k, ev_v, ev_xattr, ev_tup, ev_lst, ev_lstR, ev_bin, ev_cmp, ev_chain, ev_neg, ev_not, ev_and, ev_or, ev_ite, ev_call, ev_bfn, ev_listR, ev_bmt, ev_mmt, ev_isI, ev_attr, ev_idx, ev_slc, ev_rev, ev_comp, ev_compR, ev_fmt, ev_one, ev_fstr, ev_ocmp, ev_ostr, ex_ite, ex_skip, ex_seq, ex_set, ex_par, ex_setT, ex_setAttr, ex_setIdx, ex_expr, ex_for, ex_ret, ex_raise, evs_nil, evs_cons, evs_star, evs_itV, evs_itR1, evs_itR2, evs_itEnum, setTs_nil, setTs_v, setTs_ix, get0, getS, xR, xD, Bool.false_eq_true, if_false, if_true, nBok, nBex, nOpt, nTok, nTex, nFnx, nFrt, nFxc, nMap, List.append_nil, List.cons_append, List.nil_append, arrange, bindP, setMany, wipeP, List.set_cons_zero, List.set_cons_succ, List.length_cons, List.length_nil, PV.pures, PV.pure, Bool.and_self, Bool.true_and, Bool.and_true, and_self, and_true, true_and, vwR, truthR, cmpR', inR, eqS, isR, itR, stR, nilR, partR, slcR, revR, binR, bfnR, idxR, ifT_some, cond_t, cond_f, orB, andB, thnB, bindB, flB, flNx, Bool.not_true, Bool.not_false, decide_true, decide_false, Int.reduceLT]
    · obtain ⟨w, a2, b2, c2, e2, hw⟩ := can_name (k + 1) S p a1 b1 c1 hp
      refine fin (.keep w cols) a2 b2 c2 ⟨hw, h2, h3, h4⟩ ?_
      simp only [actV]
      simp only [b_law_bent, e1, e2, at3, kinds, cut1, t2, strsP_nil, strsP_cons, List.foldl_cons, List.foldl_nil, empty_app, kindR, bmtKR, ↓ex_seq_skip, szR, boolsP_mapf, boolsP_map, List.all_map, List.any_map, Function.comp_def, id_eq, ev_k, ev_v, ev_xattr, ev_tup, ev_lst, ev_lstR, ev_bin, ev_cmp, ev_chain, ev_neg, ev_not, ev_and, ev_or, ev_ite, ev_call, ev_bfn, ev_listR, ev_bmt, ev_mmt, ev_isI, ev_attr, ev_idx, ev_slc, ev_rev, ev_comp, ev_compR, ev_fmt, ev_one, ev_fstr, ev_ocmp, ev_ostr, ex_ite, ex_skip, ex_seq, ex_set, ex_par, ex_setT, ex_setAttr, ex_setIdx, ex_expr, ex_for, ex_ret, ex_raise, evs_nil, evs_cons, evs_star, evs_itV, evs_itR1, evs_itR2, evs_itEnum, setTs_nil, setTs_v, setTs_ix, get0, getS, xR, xD, Bool.false_eq_true, if_false, if_true, nBok, nBex, nOpt, nTok, nTex, nFnx, nFrt, nFxc, nMap, List.append_nil, List.cons_append, List.nil_append, arrange, bindP, setMany, wipeP, List.set_cons_zero, List.set_cons_succ, List.length_cons, List.length_nil, PV.pures, PV.pure, Bool.and_self, Bool.true_and, Bool.and_true, and_self, and_true, true_and, vwR, truthR, cmpR', inR, eqS, isR, itR, stR, nilR, partR, slcR, revR, binR, bfnR, idxR, ifT_some, cond_t, cond_f, orB, andB, thnB, bindB, flB, flNx, Bool.not_true, Bool.not_false, decide_true, decide_false, Int.reduceLT]
  | join t prs =>
    obtain ⟨h1, h2, h3, h4, h5⟩ := h
    rcases small3 l1 u1 with rfl | rfl | rfl
    · refine fin (.join t prs.reverse) a1 b1 c1 ⟨h1, by simp [h2], by rw [List.length_reverse]; exact h3, fun w hw => h4 w (List.mem_reverse.mp hw), nd_rev h5⟩ ?_
      simp only [actV, keysV, List.map_reverse]
      simp only [b_law_bent, e1, at3, kinds, cut1, t0, strsP_nil, strsP_cons, List.foldl_cons, List.foldl_nil, empty_app, kindR, bmtKR, ↓ex_seq_skip, szR, boolsP_mapf, boolsP_map, List.all_map, List.any_map, Function.comp_def, id_eq, ev_k, ev_v, ev_xattr, ev_tup, ev_lst, ev_lstR, ev_bin, ev_cmp, ev_chain, ev_neg, ev_not, ev_and, ev_or, ev_ite, ev_call, ev_bfn, ev_listR, ev_bmt, ev_mmt, ev_isI, ev_attr, ev_idx, ev_slc, ev_rev, ev_comp, ev_compR, ev_fmt, ev_one, ev_fstr, ev_ocmp, ev_ostr, ex_ite, ex_skip, ex_seq, ex_set, ex_par, ex_setT, ex_setAttr, ex_setIdx, ex_expr, ex_for, ex_ret, ex_raise, evs_nil, evs_cons, evs_star, evs_itV, evs_itR1, evs_itR2, evs_itEnum, setTs_nil, setTs_v, setTs_ix, get0, getS, xR, xD, Bool.false_eq_true, if_false, if_true, nBok, nBex, nOpt, nTok, nTex, nFnx, nFrt, nFxc, nMap, List.append_nil, List.cons_append, List.nil_append, arrange, bindP, setMany, wipeP, List.set_cons_zero, List.set_cons_succ, List.length_cons, List.length_nil, PV.pures, PV.pure, Bool.and_self, Bool.true_and, Bool.and_true, and_self, and_true, true_and, vwR, truthR, cmpR', inR, eqS, isR, itR, stR, nilR, partR, slcR, revR, binR, bfnR, idxR, ifT_some, cond_t, cond_f, orB, andB, thnB, bindB, flB, flNx, Bool.not_true, Bool.not_false, decide_true, decide_false, Int.reduceLT]
    · refine fin (.join t (prs.take 1)) a1 b1 c1 ⟨h1, by simp [h2], by rw [List.length_take]; omega, fun w hw => h4 w (List.mem_of_mem_take hw), h5.sublist (List.take_sublist ..)⟩ ?_
      simp only [actV, keysV, List.map_take]
      simp only [b_law_bent, e1, at3, kinds, cut1, t1, strsP_nil, strsP_cons, List.foldl_cons, List.foldl_nil, empty_app, kindR, bmtKR, ↓ex_seq_skip, szR, boolsP_mapf, boolsP_map, List.all_map, List.any_map, Function.comp_def, id_eq, ev_k, ev_v, ev_xattr, ev_tup, ev_lst, ev_lstR, ev_bin, ev_cmp, ev_chain, ev_neg, ev_not, ev_and, ev_or, ev_ite, ev_call, ev_bfn, ev_listR, ev_bmt, ev_mmt, ev_isI, ev_attr, ev_idx, ev_slc, ev_rev, ev_comp, ev_compR, ev_fmt, ev_one, ev_fstr, ev_ocmp, ev_ostr, ex_ite, ex_skip, ex_seq, ex_set, ex_par, ex_setT, ex_setAttr, ex_setIdx, ex_expr, ex_for, ex_ret, ex_raise, evs_nil, evs_cons, evs_star, evs_itV, evs_itR1, evs_itR2, evs_itEnum, setTs_nil, setTs_v, setTs_ix, get0, getS, xR, xD, Bool.false_eq_true, if_false, if_true, nBok, nBex, nOpt, nTok, nTex, nFnx, nFrt, nFxc, nMap, List.append_nil, List.cons_append, List.nil_append, arrange, bindP, setMany, wipeP, List.set_cons_zero, List.set_cons_succ, List.length_cons, List.length_nil, PV.pures, PV.pure, Bool.and_self, Bool.true_and, Bool.and_true, and_self, and_true, true_and, vwR, truthR, cmpR', inR, eqS, isR, itR, stR, nilR, partR, slcR, revR, binR, bfnR, idxR, ifT_some, cond_t, cond_f, orB, andB, thnB, bindB, flB, flNx, Bool.not_true, Bool.not_false, decide_true, decide_false, Int.reduceLT]
    · refine fin (.join t prs) a1 b1 c1 ⟨h1, h2, h3, h4, h5⟩ ?_
      simp only [actV]
      simp only [b_law_bent, e1, at3, kinds, cut1, t2, strsP_nil, strsP_cons, List.foldl_cons, List.foldl_nil, empty_app, kindR, bmtKR, ↓ex_seq_skip, szR, boolsP_mapf, boolsP_map, List.all_map, List.any_map, Function.comp_def, id_eq, ev_k, ev_v, ev_xattr, ev_tup, ev_lst, ev_lstR, ev_bin, ev_cmp, ev_chain, ev_neg, ev_not, ev_and, ev_or, ev_ite, ev_call, ev_bfn, ev_listR, ev_bmt, ev_mmt, ev_isI, ev_attr, ev_idx, ev_slc, ev_rev, ev_comp, ev_compR, ev_fmt, ev_one, ev_fstr, ev_ocmp, ev_ostr, ex_ite, ex_skip, ex_seq, ex_set, ex_par, ex_setT, ex_setAttr, ex_setIdx, ex_expr, ex_for, ex_ret, ex_raise, evs_nil, evs_cons, evs_star, evs_itV, evs_itR1, evs_itR2, evs_itEnum, setTs_nil, setTs_v, setTs_ix, get0, getS, xR, xD, Bool.false_eq_true, if_false, if_true, nBok, nBex, nOpt, nTok, nTex, nFnx, nFrt, nFxc, nMap, List.append_nil, List.cons_append, List.nil_append, arrange, bindP, setMany, wipeP, List.set_cons_zero, List.set_cons_succ, List.length_cons, List.length_nil, PV.pures, PV.pure, Bool.and_self, Bool.true_and, Bool.and_true, and_self, and_true, true_and, vwR, truthR, cmpR', inR, eqS, isR, itR, stR, nilR, partR, slcR, revR, binR, bfnR, idxR, ifT_some, cond_t, cond_f, orB, andB, thnB, bindB, flB, flNx, Bool.not_true, Bool.not_false, decide_true, decide_false, Int.reduceLT]
end RF.K
namespace RF.K
open RF PySem
/-! cells, purses -/
def CanCell (C : CallF) : Prop := ∀ S (ns : List Int) (k : Nat), k < 1000 → ∃ v, C i_law_cell [.scr (ns.map .int), .int (k : Nat)] S = .ok (.int v) S
theorem cell_loop {C : CallF} {S : Store} {ns l : List Int} {k t : Int} :
    ∃ t' x3, forL (.v 3) (ex GG C x_law_cell_0) (.lst (l.map .int)) (.lst (l.map .int)) (l.map .int) [some (.scr (ns.map .int)), some (.int k), some (.int t), none] S = .nx [some (.scr (ns.map .int)), some (.int k), some (.int t'), x3] S := by
  obtain ⟨env2, S2, ef, t', x3, rfl, rfl⟩ := for_all (p := .v 3) (body := ex GG C x_law_cell_0) (gv := .lst (l.map .int)) (g0 := .lst (l.map .int)) (xs := l.map .int)
    (I := fun j env S' => ∃ t x3, env = [some (.scr (ns.map .int)), some (.int k), some (.int t), x3] ∧ S' = S) (env := [some (.scr (ns.map .int)), some (.int k), some (.int t), none]) (S := S) ⟨t, none, rfl, rfl⟩ (fun _ _ _ _ => rfl) (fun j x env S' hx ⟨t, x3, e1, e2⟩ => by
      subst e1 e2
      rw [List.getElem?_map] at hx
      cases hs : l[j]? with
      | none => rw [hs] at hx; cases hx
      | some i =>
        rw [hs] at hx
        obtain rfl : PV.int i = x := Option.some.inj hx
        have hq : inI64 50021 = true := rfl
        refine ⟨_, rfl, _, S', ?_, (t * 50021 + i) % 2147483629, some (.int i), rfl, rfl⟩
        simp only [x_law_cell_0, hq, Bool.or_true, strsP_nil, strsP_cons, List.foldl_cons, List.foldl_nil, empty_app, kindR, bmtKR, ↓ex_seq_skip, szR, boolsP_mapf, boolsP_map, List.all_map, List.any_map, Function.comp_def, id_eq, ev_k, ev_v, ev_xattr, ev_tup, ev_lst, ev_lstR, ev_bin, ev_cmp, ev_chain, ev_neg, ev_not, ev_and, ev_or, ev_ite, ev_call, ev_bfn, ev_listR, ev_bmt, ev_mmt, ev_isI, ev_attr, ev_idx, ev_slc, ev_rev, ev_comp, ev_compR, ev_fmt, ev_one, ev_fstr, ev_ocmp, ev_ostr, ex_ite, ex_skip, ex_seq, ex_set, ex_par, ex_setT, ex_setAttr, ex_setIdx, ex_expr, ex_for, ex_ret, ex_raise, evs_nil, evs_cons, evs_star, evs_itV, evs_itR1, evs_itR2, evs_itEnum, setTs_nil, setTs_v, setTs_ix, get0, getS, xR, xD, Bool.false_eq_true, if_false, if_true, nBok, nBex, nOpt, nTok, nTex, nFnx, nFrt, nFxc, nMap, List.append_nil, List.cons_append, List.nil_append, arrange, bindP, setMany, wipeP, List.set_cons_zero, List.set_cons_succ, List.length_cons, List.length_nil, PV.pures, PV.pure, Bool.and_self, Bool.true_and, Bool.and_true, and_self, and_true, true_and, vwR, truthR, cmpR', inR, eqS, isR, itR, stR, nilR, partR, slcR, revR, binR, bfnR, idxR, ifT_some, cond_t, cond_f, orB, andB, thnB, bindB, flB, flNx, Bool.not_true, Bool.not_false, decide_true, decide_false, Int.reduceLT])
  exact ⟨t', x3, ef⟩
theorem can_cell (k : Nat) : CanCell (call GG fns (k + 1)) := fun S ns j hj => by
  by_cases h : j < ns.length
  · have hi : L2.atI (ns.map PV.int) (j : Int) = some (.int ns[j]) := by rw [atI_nat, List.getElem?_map, List.getElem?_eq_getElem h]; rfl
    have hl : decide ((j : Int) < (ns.length : Nat)) = true := decide_eq_true (by omega)
    have e : ex GG (call GG fns k) b_law_cell [some (.scr (ns.map .int)), some (.int j), none, none] S = .rt (.int ns[j]) S := by
      simp only [b_law_cell, List.length_map, hi, hl, strsP_nil, strsP_cons, List.foldl_cons, List.foldl_nil, empty_app, kindR, bmtKR, ↓ex_seq_skip, szR, boolsP_mapf, boolsP_map, List.all_map, List.any_map, Function.comp_def, id_eq, ev_k, ev_v, ev_xattr, ev_tup, ev_lst, ev_lstR, ev_bin, ev_cmp, ev_chain, ev_neg, ev_not, ev_and, ev_or, ev_ite, ev_call, ev_bfn, ev_listR, ev_bmt, ev_mmt, ev_isI, ev_attr, ev_idx, ev_slc, ev_rev, ev_comp, ev_compR, ev_fmt, ev_one, ev_fstr, ev_ocmp, ev_ostr, ex_ite, ex_skip, ex_seq, ex_set, ex_par, ex_setT, ex_setAttr, ex_setIdx, ex_expr, ex_for, ex_ret, ex_raise, evs_nil, evs_cons, evs_star, evs_itV, evs_itR1, evs_itR2, evs_itEnum, setTs_nil, setTs_v, setTs_ix, get0, getS, xR, xD, Bool.false_eq_true, if_false, if_true, nBok, nBex, nOpt, nTok, nTex, nFnx, nFrt, nFxc, nMap, List.append_nil, List.cons_append, List.nil_append, arrange, bindP, setMany, wipeP, List.set_cons_zero, List.set_cons_succ, List.length_cons, List.length_nil, PV.pures, PV.pure, Bool.and_self, Bool.true_and, Bool.and_true, and_self, and_true, true_and, vwR, truthR, cmpR', inR, eqS, isR, itR, stR, nilR, partR, slcR, revR, binR, bfnR, idxR, ifT_some, cond_t, cond_f, orB, andB, thnB, bindB, flB, flNx, Bool.not_true, Bool.not_false, decide_true, decide_false, Int.reduceLT]
    exact ⟨_, by rw [call_rt fn_law_cell rfl e rfl rfl rfl rfl, take_all]⟩
  · have hl : decide ((j : Int) < (ns.length : Nat)) = false := decide_eq_false (by omega)
    have q1 : inI64 (j : Int) = true := decide_eq_true (by omega)
    have q2 : inI64 40213 = true := rfl
    have q3 : inI64 7 = true := rfl
    obtain ⟨t', x3, ef⟩ := cell_loop (C := call GG fns k) (S := S) (ns := ns) (l := ns.take 4) (k := j) (t := ((j : Int) * j * 40213 + 7 * j + 1009) % 2147483629)
    have hc : cutP (ns.map PV.int) none (some 4) = (ns.take 4).map .int := by rw [show (4 : Int) = ((4 : Nat) : Int) from rfl, cut_take, List.map_take]
    have hv : ∀ l a b, slcV S (.scr l) a b = some (.lst (cutP l a b)) := fun _ _ _ => rfl
    have e : ex GG (call GG fns k) b_law_cell [some (.scr (ns.map .int)), some (.int j), none, none] S = .rt (.int t') S := by
      simp only [b_law_cell, List.length_map, hl, q1, q2, q3, Bool.or_true, Bool.true_or, hv, hc, ef, strsP_nil, strsP_cons, List.foldl_cons, List.foldl_nil, empty_app, kindR, bmtKR, ↓ex_seq_skip, szR, boolsP_mapf, boolsP_map, List.all_map, List.any_map, Function.comp_def, id_eq, ev_k, ev_v, ev_xattr, ev_tup, ev_lst, ev_lstR, ev_bin, ev_cmp, ev_chain, ev_neg, ev_not, ev_and, ev_or, ev_ite, ev_call, ev_bfn, ev_listR, ev_bmt, ev_mmt, ev_isI, ev_attr, ev_idx, ev_slc, ev_rev, ev_comp, ev_compR, ev_fmt, ev_one, ev_fstr, ev_ocmp, ev_ostr, ex_ite, ex_skip, ex_seq, ex_set, ex_par, ex_setT, ex_setAttr, ex_setIdx, ex_expr, ex_for, ex_ret, ex_raise, evs_nil, evs_cons, evs_star, evs_itV, evs_itR1, evs_itR2, evs_itEnum, setTs_nil, setTs_v, setTs_ix, get0, getS, xR, xD, Bool.false_eq_true, if_false, if_true, nBok, nBex, nOpt, nTok, nTex, nFnx, nFrt, nFxc, nMap, List.append_nil, List.cons_append, List.nil_append, arrange, bindP, setMany, wipeP, List.set_cons_zero, List.set_cons_succ, List.length_cons, List.length_nil, PV.pures, PV.pure, Bool.and_self, Bool.true_and, Bool.and_true, and_self, and_true, true_and, vwR, truthR, cmpR', inR, eqS, isR, itR, stR, nilR, partR, slcR, revR, binR, bfnR, idxR, ifT_some, cond_t, cond_f, orB, andB, thnB, bindB, flB, flNx, Bool.not_true, Bool.not_false, decide_true, decide_false, Int.reduceLT]
    exact ⟨_, by rw [call_rt fn_law_cell rfl e rfl rfl rfl rfl, take_all]⟩
def CanPurse (C : CallF) : Prop := ∀ S v, ∃ a b c, C i_law_purse [.int v] S = .ok (.ref S.length) (S ++ [.lst [.int a, .int b, .int c]])
theorem can_purse (k : Nat) : CanPurse (call GG fns (k + 1)) := fun S v => by
  have hp : ∀ S, binV S .pow (.int 10) (.int 18) = some (.int 1000000000000000000) := fun _ => rfl
  have h3 : ∀ a b c : Int, ([PV.int a, .int b, .int c]).length ≤ sizeLine := fun _ _ _ => by show 3 ≤ sizeLine; decide +kernel
  have h4 : 0 + 1 + 1 + 1 ≤ sizeLine := by decide +kernel
  have e : ∃ a b c, ex GG (call GG fns k) b_law_purse [some (.int v)] S = .rt (.ref S.length) (S ++ [.lst [.int a, .int b, .int c]]) := by
    cases hc : (decide (v < 0) || decide (1000000000000000000 ≤ v)) with
    | true => exact ⟨_, _, _, by simp only [b_law_purse, hp, hc, h4, strsP_nil, strsP_cons, List.foldl_cons, List.foldl_nil, empty_app, kindR, bmtKR, ↓ex_seq_skip, szR, boolsP_mapf, boolsP_map, List.all_map, List.any_map, Function.comp_def, id_eq, ev_k, ev_v, ev_xattr, ev_tup, ev_lst, ev_lstR, ev_bin, ev_cmp, ev_chain, ev_neg, ev_not, ev_and, ev_or, ev_ite, ev_call, ev_bfn, ev_listR, ev_bmt, ev_mmt, ev_isI, ev_attr, ev_idx, ev_slc, ev_rev, ev_comp, ev_compR, ev_fmt, ev_one, ev_fstr, ev_ocmp, ev_ostr, ex_ite, ex_skip, ex_seq, ex_set, ex_par, ex_setT, ex_setAttr, ex_setIdx, ex_expr, ex_for, ex_ret, ex_raise, evs_nil, evs_cons, evs_star, evs_itV, evs_itR1, evs_itR2, evs_itEnum, setTs_nil, setTs_v, setTs_ix, get0, getS, xR, xD, Bool.false_eq_true, if_false, if_true, nBok, nBex, nOpt, nTok, nTex, nFnx, nFrt, nFxc, nMap, List.append_nil, List.cons_append, List.nil_append, arrange, bindP, setMany, wipeP, List.set_cons_zero, List.set_cons_succ, List.length_cons, List.length_nil, PV.pures, PV.pure, Bool.and_self, Bool.true_and, Bool.and_true, and_self, and_true, true_and, vwR, truthR, cmpR', inR, eqS, isR, itR, stR, nilR, partR, slcR, revR, binR, bfnR, idxR, ifT_some, cond_t, cond_f, orB, andB, thnB, bindB, flB, flNx, Bool.not_true, Bool.not_false, decide_true, decide_false, Int.reduceLT]; rfl⟩
    | false => exact ⟨_, _, _, by simp only [b_law_purse, hp, hc, h4, strsP_nil, strsP_cons, List.foldl_cons, List.foldl_nil, empty_app, kindR, bmtKR, ↓ex_seq_skip, szR, boolsP_mapf, boolsP_map, List.all_map, List.any_map, Function.comp_def, id_eq, ev_k, ev_v, ev_xattr, ev_tup, ev_lst, ev_lstR, ev_bin, ev_cmp, ev_chain, ev_neg, ev_not, ev_and, ev_or, ev_ite, ev_call, ev_bfn, ev_listR, ev_bmt, ev_mmt, ev_isI, ev_attr, ev_idx, ev_slc, ev_rev, ev_comp, ev_compR, ev_fmt, ev_one, ev_fstr, ev_ocmp, ev_ostr, ex_ite, ex_skip, ex_seq, ex_set, ex_par, ex_setT, ex_setAttr, ex_setIdx, ex_expr, ex_for, ex_ret, ex_raise, evs_nil, evs_cons, evs_star, evs_itV, evs_itR1, evs_itR2, evs_itEnum, setTs_nil, setTs_v, setTs_ix, get0, getS, xR, xD, Bool.false_eq_true, if_false, if_true, nBok, nBex, nOpt, nTok, nTex, nFnx, nFrt, nFxc, nMap, List.append_nil, List.cons_append, List.nil_append, arrange, bindP, setMany, wipeP, List.set_cons_zero, List.set_cons_succ, List.length_cons, List.length_nil, PV.pures, PV.pure, Bool.and_self, Bool.true_and, Bool.and_true, and_self, and_true, true_and, vwR, truthR, cmpR', inR, eqS, isR, itR, stR, nilR, partR, slcR, revR, binR, bfnR, idxR, ifT_some, cond_t, cond_f, orB, andB, thnB, bindB, flB, flNx, Bool.not_true, Bool.not_false, decide_true, decide_false, Int.reduceLT]; rfl⟩
  obtain ⟨a, b, c, e⟩ := e
  refine ⟨a, b, c, ?_⟩
  rw [call_at fn_law_purse rfl]
  show endF false S.length (ex GG (call GG fns k) b_law_purse [some (.int v)] S) = _
  rw [e]; rfl
theorem purse_put (S : Store) (a b c : Int) : S ++ [.lst [.int a, .int b, .int c]] = put (S ++ [.lst [.int a, .int b, .int c]]) S.length a b c := by
  rw [put_same]
  rw [List.getElem?_append_right (Nat.le_refl _), Nat.sub_self]; rfl
end RF.K
namespace RF.K
open RF PySem
theorem sobj_x (s : Stp) : s.obj.isExc = false := rfl
theorem act_own (S : Store) (s : Stp) : isIV GG S (actV s) (.own s.cls) = some false := by cases s <;> rfl
theorem bools_repr (S : Store) (f : Stp → Bool) {l : List Stp} (hl : l.length ≤ 1000) : ∃ x : Str, bfnV S .repr [.lst (l.map fun q => .bl (f q))] = some (.str x) := by
  have h := reprS ((Enc.lst Enc.bool).repr_ok S (a := l.map f) (fun _ _ => trivial) (by decide) (by
    have := Enc.bool.weights (m := 0) (l := l.map f) (fun _ _ => Nat.le_refl 0)
    rw [List.length_map] at this
    show PyData.weightAll ((l.map f).map Enc.bool.pd) ≤ 1000000
    omega))
  refine ⟨((Enc.lst Enc.bool).pd (l.map f)).shown, ?_⟩
  rw [← h]
  show bfnV S .repr [.lst (l.map fun q => .bl (f q))] = bfnV S .repr [.lst ((l.map f).map .bl)]
  rw [List.map_map]; rfl
theorem bools3 (S : Store) (a b c : Bool) : bfnV S .repr [.lst [.bl a, .bl b, .bl c]] = some (.str ((Enc.lst Enc.bool).pd [a, b, c]).shown) :=
  reprS ((Enc.lst Enc.bool).repr_ok S (a := [a, b, c]) (fun _ _ => trivial) (by decide) (by show 3 ≤ 1000000; decide))
theorem bools_false : ((Enc.lst Enc.bool).pd [false, false, true]).shown = ("[False, False, True]" : Str) := by decide +kernel
theorem at_of {α : Type} (f : α → PV) {l : List α} {j : Nat} {x : α} (h : l[j]? = some x) : L2.atI (l.map f) (j : Int) = some (f x) := by
  rw [atI_nat, List.getElem?_map, h]; rfl
theorem right_turn {C : CallF} (hPa : CanParts C) (hSt : CanStr C) (hRo : CanRow C) (hEq : CanEq C) (hNe : CanNeq C) {S : Store} {p : Nat} {l : List Stp} (hall : ∀ s, s ∈ l → FineS s) (hl : l.length ≤ 1000) {x2 x5 x7 x8 : Option PV} {j : Nat} {s : Stp} (hj : l[j]? = some s) :
    ∃ y7 y8, ex GG C x_law_right_4 [some (.ref p), some (.lst (l.map actV)), x2, some (.lst (l.map Stp.obj)), some (.lst (l.map Stp.obj)), x5, some (.int (j : Nat)), x7, x8, none, none] S = .nx [some (.ref p), some (.lst (l.map actV)), x2, some (.lst (l.map Stp.obj)), some (.lst (l.map Stp.obj)), x5, some (.int (j : Nat)), y7, y8, none, none] S := by
  have hs := hall s (List.mem_of_getElem? hj)
  have a1 := at_of actV hj
  have a2 := at_of Stp.obj hj
  have s1 := hPa S s hs
  have s2 := repr_act hs S
  have s3 := ostr_step hSt (S := S) hs
  have s4 := hRo S s hs
  have n1 := ocmp_else hNe (S := S) (a := s) (v := actV s) (act_own S s) (act_x s)
  have n2 := ocmp_else hNe (S := S) (a := s) (v := .str (rowT s)) rfl rfl
  have n3 := ocmp_else hNe (S := S) (a := s) (v := .int 0) rfl rfl
  have c2 : ∀ x7 x8, compL (.v 9) (ev GG C x_law_right_2) (ev GG C IR.yes) (.lst (l.map actV)) (.lst (l.map actV)) [some (.ref p), some (.lst (l.map actV)), x2, some (.lst (l.map Stp.obj)), some (.lst (l.map Stp.obj)), x5, some (.int (j : Nat)), x7, x8, none, none] (l.map actV) [] S = .ok (l.map fun q => .bl (decide (s = q))) S := fun _ _ =>
    comp_map actV (fun q => .bl (decide (s = q))) l rfl (size_ok (by omega)) fun i q hq => ⟨_, rfl, rfl, by
      have g := aE.cmp_eq S hs (hall q (List.mem_of_getElem? hq)) (by decide)
      have g : cmpV S .eq (actV s) (actV q) = some (decide (s = q)) := g
      simp only [x_law_right_2, act_x, a1, g, strsP_nil, strsP_cons, List.foldl_cons, List.foldl_nil, empty_app, kindR, bmtKR, ↓ex_seq_skip, szR, boolsP_mapf, boolsP_map, List.all_map, List.any_map, Function.comp_def, id_eq, ev_k, ev_v, ev_xattr, ev_tup, ev_lst, ev_lstR, ev_bin, ev_cmp, ev_chain, ev_neg, ev_not, ev_and, ev_or, ev_ite, ev_call, ev_bfn, ev_listR, ev_bmt, ev_mmt, ev_isI, ev_attr, ev_idx, ev_slc, ev_rev, ev_comp, ev_compR, ev_fmt, ev_one, ev_fstr, ev_ocmp, ev_ostr, ex_ite, ex_skip, ex_seq, ex_set, ex_par, ex_setT, ex_setAttr, ex_setIdx, ex_expr, ex_for, ex_ret, ex_raise, evs_nil, evs_cons, evs_star, evs_itV, evs_itR1, evs_itR2, evs_itEnum, setTs_nil, setTs_v, setTs_ix, get0, getS, xR, xD, Bool.false_eq_true, if_false, if_true, nBok, nBex, nOpt, nTok, nTex, nFnx, nFrt, nFxc, nMap, List.append_nil, List.cons_append, List.nil_append, arrange, bindP, setMany, wipeP, List.set_cons_zero, List.set_cons_succ, List.length_cons, List.length_nil, PV.pures, PV.pure, Bool.and_self, Bool.true_and, Bool.and_true, and_self, and_true, true_and, vwR, truthR, cmpR', inR, eqS, isR, itR, stR, nilR, partR, slcR, revR, binR, bfnR, idxR, ifT_some, cond_t, cond_f, orB, andB, thnB, bindB, flB, flNx, Bool.not_true, Bool.not_false, decide_true, decide_false, Int.reduceLT]⟩
  have c3 : ∀ x7 x8, compL (.v 9) (ev GG C x_law_right_3) (ev GG C IR.yes) (.lst (l.map actV)) (.lst (l.map actV)) [some (.ref p), some (.lst (l.map actV)), x2, some (.lst (l.map Stp.obj)), some (.lst (l.map Stp.obj)), x5, some (.int (j : Nat)), x7, x8, none, none] (l.map actV) [] S = .ok (l.map fun q => .bl (!decide (s = q))) S := fun _ _ =>
    comp_map actV (fun q => .bl (!decide (s = q))) l rfl (size_ok (by omega)) fun i q hq => ⟨_, rfl, rfl, by
      have g := aE.cmp_ne S hs (hall q (List.mem_of_getElem? hq)) (by decide)
      have g : cmpV S .ne (actV s) (actV q) = some (!decide (s = q)) := g
      simp only [x_law_right_3, act_x, a1, g, strsP_nil, strsP_cons, List.foldl_cons, List.foldl_nil, empty_app, kindR, bmtKR, ↓ex_seq_skip, szR, boolsP_mapf, boolsP_map, List.all_map, List.any_map, Function.comp_def, id_eq, ev_k, ev_v, ev_xattr, ev_tup, ev_lst, ev_lstR, ev_bin, ev_cmp, ev_chain, ev_neg, ev_not, ev_and, ev_or, ev_ite, ev_call, ev_bfn, ev_listR, ev_bmt, ev_mmt, ev_isI, ev_attr, ev_idx, ev_slc, ev_rev, ev_comp, ev_compR, ev_fmt, ev_one, ev_fstr, ev_ocmp, ev_ostr, ex_ite, ex_skip, ex_seq, ex_set, ex_par, ex_setT, ex_setAttr, ex_setIdx, ex_expr, ex_for, ex_ret, ex_raise, evs_nil, evs_cons, evs_star, evs_itV, evs_itR1, evs_itR2, evs_itEnum, setTs_nil, setTs_v, setTs_ix, get0, getS, xR, xD, Bool.false_eq_true, if_false, if_true, nBok, nBex, nOpt, nTok, nTex, nFnx, nFrt, nFxc, nMap, List.append_nil, List.cons_append, List.nil_append, arrange, bindP, setMany, wipeP, List.set_cons_zero, List.set_cons_succ, List.length_cons, List.length_nil, PV.pures, PV.pure, Bool.and_self, Bool.true_and, Bool.and_true, and_self, and_true, true_and, vwR, truthR, cmpR', inR, eqS, isR, itR, stR, nilR, partR, slcR, revR, binR, bfnR, idxR, ifT_some, cond_t, cond_f, orB, andB, thnB, bindB, flB, flNx, Bool.not_true, Bool.not_false, decide_true, decide_false, Int.reduceLT]⟩
  have c1 : ∀ x7 x8, compL (.v 10) (ev GG C x_law_right_1) (ev GG C IR.yes) (.lst (l.map Stp.obj)) (.lst (l.map Stp.obj)) [some (.ref p), some (.lst (l.map actV)), x2, some (.lst (l.map Stp.obj)), some (.lst (l.map Stp.obj)), x5, some (.int (j : Nat)), x7, x8, none, none] (l.map Stp.obj) [] S = .ok (l.map fun q => .bl (decide (s = q))) S := fun _ _ =>
    comp_map Stp.obj (fun q => .bl (decide (s = q))) l rfl (size_ok (by omega)) fun i q hq => ⟨_, rfl, rfl, by
      have g := ocmp_step hEq (S := S) hs (hall q (List.mem_of_getElem? hq))
      simp only [x_law_right_1, sobj_x, a2, g, strsP_nil, strsP_cons, List.foldl_cons, List.foldl_nil, empty_app, kindR, bmtKR, ↓ex_seq_skip, szR, boolsP_mapf, boolsP_map, List.all_map, List.any_map, Function.comp_def, id_eq, ev_k, ev_v, ev_xattr, ev_tup, ev_lst, ev_lstR, ev_bin, ev_cmp, ev_chain, ev_neg, ev_not, ev_and, ev_or, ev_ite, ev_call, ev_bfn, ev_listR, ev_bmt, ev_mmt, ev_isI, ev_attr, ev_idx, ev_slc, ev_rev, ev_comp, ev_compR, ev_fmt, ev_one, ev_fstr, ev_ocmp, ev_ostr, ex_ite, ex_skip, ex_seq, ex_set, ex_par, ex_setT, ex_setAttr, ex_setIdx, ex_expr, ex_for, ex_ret, ex_raise, evs_nil, evs_cons, evs_star, evs_itV, evs_itR1, evs_itR2, evs_itEnum, setTs_nil, setTs_v, setTs_ix, get0, getS, xR, xD, Bool.false_eq_true, if_false, if_true, nBok, nBex, nOpt, nTok, nTex, nFnx, nFrt, nFxc, nMap, List.append_nil, List.cons_append, List.nil_append, arrange, bindP, setMany, wipeP, List.set_cons_zero, List.set_cons_succ, List.length_cons, List.length_nil, PV.pures, PV.pure, Bool.and_self, Bool.true_and, Bool.and_true, and_self, and_true, true_and, vwR, truthR, cmpR', inR, eqS, isR, itR, stR, nilR, partR, slcR, revR, binR, bfnR, idxR, ifT_some, cond_t, cond_f, orB, andB, thnB, bindB, flB, flNx, Bool.not_true, Bool.not_false, decide_true, decide_false, Int.reduceLT]⟩
  have c0 : ∀ x7 x8, compL (.v 10) (ev GG C x_law_right_0) (ev GG C IR.yes) (.lst (l.map Stp.obj)) (.lst (l.map Stp.obj)) [some (.ref p), some (.lst (l.map actV)), x2, some (.lst (l.map Stp.obj)), some (.lst (l.map Stp.obj)), x5, some (.int (j : Nat)), x7, x8, none, none] (l.map Stp.obj) [] S = .ok (l.map fun q => .bl (!decide (s = q))) S := fun _ _ =>
    comp_map Stp.obj (fun q => .bl (!decide (s = q))) l rfl (size_ok (by omega)) fun i q hq => ⟨_, rfl, rfl, by
      have g := ocmp_step hEq (S := S) hs (hall q (List.mem_of_getElem? hq))
      simp only [x_law_right_0, sobj_x, a2, g, strsP_nil, strsP_cons, List.foldl_cons, List.foldl_nil, empty_app, kindR, bmtKR, ↓ex_seq_skip, szR, boolsP_mapf, boolsP_map, List.all_map, List.any_map, Function.comp_def, id_eq, ev_k, ev_v, ev_xattr, ev_tup, ev_lst, ev_lstR, ev_bin, ev_cmp, ev_chain, ev_neg, ev_not, ev_and, ev_or, ev_ite, ev_call, ev_bfn, ev_listR, ev_bmt, ev_mmt, ev_isI, ev_attr, ev_idx, ev_slc, ev_rev, ev_comp, ev_compR, ev_fmt, ev_one, ev_fstr, ev_ocmp, ev_ostr, ex_ite, ex_skip, ex_seq, ex_set, ex_par, ex_setT, ex_setAttr, ex_setIdx, ex_expr, ex_for, ex_ret, ex_raise, evs_nil, evs_cons, evs_star, evs_itV, evs_itR1, evs_itR2, evs_itEnum, setTs_nil, setTs_v, setTs_ix, get0, getS, xR, xD, Bool.false_eq_true, if_false, if_true, nBok, nBex, nOpt, nTok, nTex, nFnx, nFrt, nFxc, nMap, List.append_nil, List.cons_append, List.nil_append, arrange, bindP, setMany, wipeP, List.set_cons_zero, List.set_cons_succ, List.length_cons, List.length_nil, PV.pures, PV.pure, Bool.and_self, Bool.true_and, Bool.and_true, and_self, and_true, true_and, vwR, truthR, cmpR', inR, eqS, isR, itR, stR, nilR, partR, slcR, revR, binR, bfnR, idxR, ifT_some, cond_t, cond_f, orB, andB, thnB, bindB, flB, flNx, Bool.not_true, Bool.not_false, decide_true, decide_false, Int.reduceLT]⟩
  obtain ⟨t1, r1⟩ := bools_repr S (fun q => decide (s = q)) hl
  obtain ⟨t2, r2⟩ := bools_repr S (fun q => !decide (s = q)) hl
  refine ⟨some (.lst (l.map fun q => .bl (decide (s = q)))), some (.lst (l.map fun q => .bl (!decide (s = q)))), ?_⟩
  simp only [x_law_right_4, a1, a2, act_x, sobj_x, s1, s2, s3, s4, eq_self, c2, c3, c1, c0, r1, r2, n1, n2, n3, bools3, bools_false, strsP_nil, strsP_cons, List.foldl_cons, List.foldl_nil, empty_app, kindR, bmtKR, ↓ex_seq_skip, szR, boolsP_mapf, boolsP_map, List.all_map, List.any_map, Function.comp_def, id_eq, ev_k, ev_v, ev_xattr, ev_tup, ev_lst, ev_lstR, ev_bin, ev_cmp, ev_chain, ev_neg, ev_not, ev_and, ev_or, ev_ite, ev_call, ev_bfn, ev_listR, ev_bmt, ev_mmt, ev_isI, ev_attr, ev_idx, ev_slc, ev_rev, ev_comp, ev_compR, ev_fmt, ev_one, ev_fstr, ev_ocmp, ev_ostr, ex_ite, ex_skip, ex_seq, ex_set, ex_par, ex_setT, ex_setAttr, ex_setIdx, ex_expr, ex_for, ex_ret, ex_raise, evs_nil, evs_cons, evs_star, evs_itV, evs_itR1, evs_itR2, evs_itEnum, setTs_nil, setTs_v, setTs_ix, get0, getS, xR, xD, Bool.false_eq_true, if_false, if_true, nBok, nBex, nOpt, nTok, nTex, nFnx, nFrt, nFxc, nMap, List.append_nil, List.cons_append, List.nil_append, arrange, bindP, setMany, wipeP, List.set_cons_zero, List.set_cons_succ, List.length_cons, List.length_nil, PV.pures, PV.pure, Bool.and_self, Bool.true_and, Bool.and_true, and_self, and_true, true_and, vwR, truthR, cmpR', inR, eqS, isR, itR, stR, nilR, partR, slcR, revR, binR, bfnR, idxR, ifT_some, cond_t, cond_f, orB, andB, thnB, bindB, flB, flNx, Bool.not_true, Bool.not_false, decide_true, decide_false, Int.reduceLT]
def CanRight (C : CallF) : Prop := ∀ (S : Store) (p : Nat) (a b c : Int), p < S.length → ∃ a' b' c', C i_law_right [.ref p] (put S p a b c) = .ok (.bl true) (put S p a' b' c')
/-- all steps made -/
theorem acts_made {C : CallF} (hA : CanAct C) {S : Store} {p : Nat} {a b c : Int} {x : IR} (hx : x = (.call i_law_act (.cons (.var 0) (.cons (.var 9) .nil)) .nil [.inl 0, .inl 1])) {l : List Stp} (hall : ∀ s, s ∈ l → FineS s) (hl : l.length ≤ 1000) (hp : p < S.length) {env : PEnv} (he : env[0]? = some (some (.ref p))) (hel : env.length = 11) :
    ∃ a' b' c', compL (.v 9) (ev GG C x) (ev GG C IR.yes) (.lst (l.map actV)) (.lst (l.map actV)) env (l.map actV) [] (put S p a b c) = .ok (l.map Stp.obj) (put S p a' b' c') := by
  subst hx
  obtain ⟨ys, a', b', c', e, h⟩ := comp_grow (p := .v 9) (elt := ev GG C (.call i_law_act (.cons (.var 0) (.cons (.var 9) .nil)) .nil [.inl 0, .inl 1])) (cond := ev GG C IR.yes) (gv := .lst (l.map actV)) (g0 := .lst (l.map actV)) (env := env) (S := S) (q := p) (a := a) (b := b) (c := c) (xs := l.map actV) (fun j acc => acc = (l.take j).map Stp.obj) rfl (fun _ _ _ => rfl) (by rw [List.length_map]; exact size_ok (by omega)) fun j y acc a b c hy e => by
    subst e
    rw [List.getElem?_map] at hy
    cases hs : l[j]? with
    | none => rw [hs] at hy; cases hy
    | some s =>
      rw [hs] at hy
      obtain rfl : actV s = y := Option.some.inj hy
      obtain ⟨a1, b1, c1, e1⟩ := hA S p a b c s hp (hall s (List.mem_of_getElem? hs))
      have hg : (env.set 9 (some (actV s)))[0]? = some (some (.ref p)) := by rw [List.getElem?_set_ne (by decide)]; exact he
      have hg2 : (env.set 9 (some (actV s)))[9]? = some (some (actV s)) := by rw [List.getElem?_set_self (by omega)]
      refine ⟨env.set 9 (some (actV s)), rfl, rfl, s.obj, a1, b1, c1, ?_, ?_⟩
      · simp only [ev_call, evs_cons, evs_nil, ev_v, hg, hg2, xR, act_x, Bool.false_eq_true, if_false, nBok, List.append_nil, List.nil_append, List.cons_append, arrange, get0, getS, e1]
      · rw [List.take_succ, hs, List.map_append]; rfl
  subst h
  rw [List.length_map, List.take_length] at e
  exact ⟨a', b', c', e⟩
theorem fine_tail {cs : List Str} (h1 : cs.length = 2) (h2 : cs.Nodup) (h3 : ∀ w, w ∈ cs → isFullB w = true) : FineS (.keep "a" cs) ∧ FineS (.sort cs) ∧ FineS (.cut 0 none cs) ∧ FineS (.cut 0 (some 0) cs) := by
  have hne : cs ≠ [] := by intro e; subst e; cases h1
  have hb : cs.map bare = cs := (List.map_congr_left fun w hw => bare_full (h3 w hw)).trans (List.map_id'' (fun _ => rfl) cs)
  refine ⟨⟨by decide +kernel, hne, by omega, h3⟩, ⟨hne, by omega, fun w hw => by rw [bare_full (h3 w hw)]; exact h3 w hw, by rw [hb]; exact h2⟩, ⟨rfl, fun _ h => (by cases h), by omega, h3, h2⟩, ⟨rfl, fun c h => (by cases h; rfl), by omega, h3, h2⟩⟩
end RF.K
namespace RF.K
open RF PySem
theorem add_last {S : Store} {p : Nat} {a b c : Int} {l m : List PV} (hp : p < S.length) (hl : l.length + m.length ≤ sizeLine) : binV (put (S ++ [.lst l]) p a b c) .add (.ref S.length) (.lst m) = some (.lst (l ++ m)) := by
  have e : (put (S ++ [.lst l]) p a b c)[S.length]? = some (.lst l) := by
    rw [put_ne (by omega), List.getElem?_append_right (Nat.le_refl _), Nat.sub_self]; rfl
  unfold binV
  have h1 : vwA (put (S ++ [.lst l]) p a b c) (.ref S.length) = .lst l := by unfold vwA; simp only [e]
  have h2 : ∀ T, vwA T (.lst m) = .lst m := fun _ => rfl
  simp only [h1, h2, hl, if_true]
theorem idx_last {S : Store} {p : Nat} {a b c : Int} {l : List PV} {d : Int} (hp : p < S.length) : idxV (put (S ++ [.lst l]) p a b c) (.ref S.length) (.int d) = L2.atI l d := by
  unfold idxV
  rw [vw_last hp]
theorem loops {C : CallF} (hPa : CanParts C) (hSt : CanStr C) (hRo : CanRow C) (hEq : CanEq C) (hNe : CanNeq C) {S : Store} {p : Nat} {l : List Stp} (hall : ∀ s, s ∈ l → FineS s) (hl : l.length ≤ 1000) {x2 : Option PV} :
    ∃ env2, forL (.v 5) (ex GG C x_law_right_5) .non .non ((List.range 2).map fun i => .int (i : Nat)) [some (.ref p), some (.lst (l.map actV)), x2, some (.lst (l.map Stp.obj)), some (.lst (l.map Stp.obj)), none, none, none, none, none, none] S = .nx env2 S := by
  have := for_range (S := S) (body := ex GG C x_law_right_5) (gv := .non) (g0 := .non) 2 (a := 5) (env := [some (.ref p), some (.lst (l.map actV)), x2, some (.lst (l.map Stp.obj)), some (.lst (l.map Stp.obj)), none, none, none, none, none, none])
    (fun env => ∃ x5 x6 x7 x8, env = [some (.ref p), some (.lst (l.map actV)), x2, some (.lst (l.map Stp.obj)), some (.lst (l.map Stp.obj)), x5, x6, x7, x8, none, none]) (fun _ => none) ⟨_, _, _, _, rfl⟩ rfl fun j env hj ⟨x5, x6, x7, x8, e⟩ _ => by
      subst e
      have hin := for_range (S := S) (body := ex GG C x_law_right_4) (gv := .non) (g0 := .non) l.length (a := 6) (env := [some (.ref p), some (.lst (l.map actV)), x2, some (.lst (l.map Stp.obj)), some (.lst (l.map Stp.obj)), some (.int (j : Nat)), x6, x7, x8, none, none])
        (fun env => ∃ x6 x7 x8, env = [some (.ref p), some (.lst (l.map actV)), x2, some (.lst (l.map Stp.obj)), some (.lst (l.map Stp.obj)), some (.int (j : Nat)), x6, x7, x8, none, none]) (fun _ => none) ⟨_, _, _, rfl⟩ rfl fun i env hi ⟨x6, x7, x8, e⟩ _ => by
          subst e
          obtain ⟨y7, y8, e⟩ := right_turn hPa hSt hRo hEq hNe (S := S) (p := p) hall hl (x2 := x2) (x5 := some (.int (j : Nat))) (x7 := x7) (x8 := x8) (List.getElem?_eq_getElem hi)
          exact ⟨_, e, _, _, _, rfl⟩
      rw [firstEnd_none' fun _ _ => rfl] at hin
      obtain ⟨env2, ef, y6, y7, y8, rfl⟩ := hin
      refine ⟨[some (.ref p), some (.lst (l.map actV)), x2, some (.lst (l.map Stp.obj)), some (.lst (l.map Stp.obj)), some (.int (j : Nat)), y6, y7, y8, none, none], ?_, _, _, _, _, rfl⟩
      simp only [x_law_right_5, List.length_map, rangeN (show l.length ≤ 1000000 by omega), ef, strsP_nil, strsP_cons, List.foldl_cons, List.foldl_nil, empty_app, kindR, bmtKR, ↓ex_seq_skip, szR, boolsP_mapf, boolsP_map, List.all_map, List.any_map, Function.comp_def, id_eq, ev_k, ev_v, ev_xattr, ev_tup, ev_lst, ev_lstR, ev_bin, ev_cmp, ev_chain, ev_neg, ev_not, ev_and, ev_or, ev_ite, ev_call, ev_bfn, ev_listR, ev_bmt, ev_mmt, ev_isI, ev_attr, ev_idx, ev_slc, ev_rev, ev_comp, ev_compR, ev_fmt, ev_one, ev_fstr, ev_ocmp, ev_ostr, ex_ite, ex_skip, ex_seq, ex_set, ex_par, ex_setT, ex_setAttr, ex_setIdx, ex_expr, ex_for, ex_ret, ex_raise, evs_nil, evs_cons, evs_star, evs_itV, evs_itR1, evs_itR2, evs_itEnum, setTs_nil, setTs_v, setTs_ix, get0, getS, xR, xD, Bool.false_eq_true, if_false, if_true, nBok, nBex, nOpt, nTok, nTex, nFnx, nFrt, nFxc, nMap, List.append_nil, List.cons_append, List.nil_append, arrange, bindP, setMany, wipeP, List.set_cons_zero, List.set_cons_succ, List.length_cons, List.length_nil, PV.pures, PV.pure, Bool.and_self, Bool.true_and, Bool.and_true, and_self, and_true, true_and, vwR, truthR, cmpR', inR, eqS, isR, itR, stR, nilR, partR, slcR, revR, binR, bfnR, idxR, ifT_some, cond_t, cond_f, orB, andB, thnB, bindB, flB, flNx, Bool.not_true, Bool.not_false, decide_true, decide_false, Int.reduceLT]
  rw [firstEnd_none' fun _ _ => rfl] at this
  obtain ⟨env2, ef, _⟩ := this
  exact ⟨env2, ef⟩
theorem can_right (k : Nat) : CanRight (call GG fns (k + 7)) := fun S p a b c hp => by
  obtain ⟨ys, a1, b1, c1, e1, hl1, hy⟩ := comp_draw (p := .v 6) (elt := ev GG (call GG fns (k + 6)) x_law_right_8) (cond := ev GG (call GG fns (k + 6)) IR.yes) (gv := .non) (g0 := .non) (env := [some (.ref p), none, none, none, none, none, none, none, none, none, none]) (S := S) (q := p) (a := a) (b := b) (c := c) (xs := [.int 0, .int 1, .int 2, .int 3]) (fun y => ∃ s, y = actV s ∧ FineS s) (fun _ _ _ => rfl) (by decide +kernel) fun j x a b c hx => by
    obtain ⟨s, a1, b1, c1, e1, hs⟩ := can_step k S p a b c hp
    exact ⟨_, rfl, rfl, actV s, a1, b1, c1, by simp only [x_law_right_8, e1, strsP_nil, strsP_cons, List.foldl_cons, List.foldl_nil, empty_app, kindR, bmtKR, ↓ex_seq_skip, szR, boolsP_mapf, boolsP_map, List.all_map, List.any_map, Function.comp_def, id_eq, ev_k, ev_v, ev_xattr, ev_tup, ev_lst, ev_lstR, ev_bin, ev_cmp, ev_chain, ev_neg, ev_not, ev_and, ev_or, ev_ite, ev_call, ev_bfn, ev_listR, ev_bmt, ev_mmt, ev_isI, ev_attr, ev_idx, ev_slc, ev_rev, ev_comp, ev_compR, ev_fmt, ev_one, ev_fstr, ev_ocmp, ev_ostr, ex_ite, ex_skip, ex_seq, ex_set, ex_par, ex_setT, ex_setAttr, ex_setIdx, ex_expr, ex_for, ex_ret, ex_raise, evs_nil, evs_cons, evs_star, evs_itV, evs_itR1, evs_itR2, evs_itEnum, setTs_nil, setTs_v, setTs_ix, get0, getS, xR, xD, Bool.false_eq_true, if_false, if_true, nBok, nBex, nOpt, nTok, nTex, nFnx, nFrt, nFxc, nMap, List.append_nil, List.cons_append, List.nil_append, arrange, bindP, setMany, wipeP, List.set_cons_zero, List.set_cons_succ, List.length_cons, List.length_nil, PV.pures, PV.pure, Bool.and_self, Bool.true_and, Bool.and_true, and_self, and_true, true_and, vwR, truthR, cmpR', inR, eqS, isR, itR, stR, nilR, partR, slcR, revR, binR, bfnR, idxR, ifT_some, cond_t, cond_f, orB, andB, thnB, bindB, flB, flNx, Bool.not_true, Bool.not_false, decide_true, decide_false, Int.reduceLT], s, rfl, hs⟩
  obtain ⟨ss, rfl, hss⟩ := pick (f := actV) (P := FineS) hy
  have hls : ss.length = 4 := by rw [List.length_map] at hl1; exact hl1
  have hp2 : p < (S ++ [SO.lst (ss.map actV)]).length := by rw [List.length_append]; omega
  obtain ⟨d, a2, b2, c2, e2, l2, u2⟩ := can_take (k + 5) (S ++ [.lst (ss.map actV)]) p 4 a1 b1 c1 hp2 (by decide) (by decide)
  obtain ⟨d, rfl⟩ := Int.eq_ofNat_of_zero_le l2
  have hd : d < ss.length := by omega
  have i2 := at_of actV (List.getElem?_eq_getElem hd)
  obtain ⟨s', a3, b3, c3, e3, hs'⟩ := can_bent (k + 2) (S ++ [.lst (ss.map actV)]) p a2 b2 c2 ss[d] hp2 (hss _ (List.getElem_mem hd))
  have hap := app_last (S := S) (p := p) (a := a3) (b := b3) (c := c3) (l := ss.map actV) (y := actV s') hp (act_pure s') (by rw [List.length_map, hls]; decide +kernel)
  have hk : ∀ a b c, kindB (put (S ++ [.lst (ss.map actV)]) p a b c) (.ref S.length) = some 1 := fun _ _ _ => kind_lst (vw_last hp)
  have hp3 : p < (S ++ [SO.lst (ss.map actV ++ [actV s'])]).length := by rw [List.length_append]; omega
  obtain ⟨cs, a4, b4, c4, e4, hc1, hc2, hc3⟩ := can_fulls (k + 2) (S ++ [.lst (ss.map actV ++ [actV s'])]) p a3 b3 c3 2 hp3 (by decide)
  have e4 : call GG fns (k + 6) i_law_fulls [.ref p, .int 2] (put (S ++ [.lst (ss.map actV ++ [actV s'])]) p a3 b3 c3) = .ok (.lst (cs.map .str)) (put (S ++ [.lst (ss.map actV ++ [actV s'])]) p a4 b4 c4) := e4
  have hft := fine_tail hc1 hc2 hc3
  obtain ⟨ALL, hA⟩ : ∃ A, A = ss ++ [s'] ++ [.keep "a" cs, .sort cs, .cut 0 none cs, .cut 0 (some 0) cs] := ⟨_, rfl⟩
  have hAm : ALL.map actV = ss.map actV ++ [actV s'] ++ [.tup [.str "keep", .str "a", strsV cs], .tup [.str "sort", strsV cs], .tup [.str "cut", .int 0, .non, strsV cs], .tup [.str "cut", .int 0, .int 0, strsV cs]] := by
    rw [hA, List.map_append, List.map_append]; rfl
  have hadd := add_last (S := S) (p := p) (a := a4) (b := b4) (c := c4) (l := ss.map actV ++ [actV s']) (m := [.tup [.str "keep", .str "a", strsV cs], .tup [.str "sort", strsV cs], .tup [.str "cut", .int 0, .non, strsV cs], .tup [.str "cut", .int 0, .int 0, strsV cs]]) hp (by
    rw [List.length_append, List.length_map, hls]; exact size_ok (by simp))
  rw [← hAm] at hadd
  have hAf : ∀ s, s ∈ ALL → FineS s := fun s hs => by
    rw [hA] at hs
    rcases List.mem_append.mp hs with hs | hs
    · rcases List.mem_append.mp hs with hs | hs
      · exact hss s hs
      · rw [List.mem_singleton.mp hs]; exact hs'
    · rcases List.mem_cons.mp hs with rfl | hs
      · exact hft.1
      · rcases List.mem_cons.mp hs with rfl | hs
        · exact hft.2.1
        · rcases List.mem_cons.mp hs with rfl | hs
          · exact hft.2.2.1
          · rw [List.mem_singleton.mp hs]; exact hft.2.2.2
  have hAl : ALL.length ≤ 1000 := by rw [hA, List.length_append, List.length_append, hls]; simp
  obtain ⟨a5, b5, c5, e5⟩ := acts_made (can_act (k + 1)) (S := S ++ [.lst (ss.map actV ++ [actV s'])]) (p := p) (a := a4) (b := b4) (c := c4) (x := x_law_right_6) rfl hAf hAl hp3 (env := [some (.ref p), some (.lst (ALL.map actV)), some (strsV cs), none, none, none, none, none, none, none, none]) rfl rfl
  obtain ⟨a6, b6, c6, e6⟩ := acts_made (can_act (k + 1)) (S := S ++ [.lst (ss.map actV ++ [actV s'])]) (p := p) (a := a5) (b := b5) (c := c5) (x := x_law_right_7) rfl hAf hAl hp3 (env := [some (.ref p), some (.lst (ALL.map actV)), some (strsV cs), none, none, none, none, none, none, none, none]) rfl rfl
  obtain ⟨env2, ef⟩ := loops (can_parts (k + 5)) (can_str (k + 5)) (can_row (k + 5)) (can_eq (k + 5)) (can_neq (k + 5)) (S := put (S ++ [.lst (ss.map actV ++ [actV s'])]) p a6 b6 c6) (p := p) hAf hAl (x2 := some (strsV cs))
  have hr4 : rangeV [.int 4] = some [.int 0, .int 1, .int 2, .int 3] := rfl
  have hr2 : rangeV [.int 2] = some ((List.range 2).map fun i => .int (i : Nat)) := rfl
  have hpu : PV.pures (ss.map actV) = true := aE.puresAll ss
  have hap1 : put S p a1 b1 c1 ++ [SO.lst (ss.map actV)] = put (S ++ [.lst (ss.map actV)]) p a1 b1 c1 := put_app hp
  have e : ex GG (call GG fns (k + 6)) b_law_right [some (.ref p), none, none, none, none, none, none, none, none, none, none] (put S p a b c) = .rt (.bl true) (put (S ++ [.lst (ss.map actV ++ [actV s'])]) p a6 b6 c6) := by
    simp only [b_law_right, ev_compR, hr4, e1, hpu, put_len, hap1, hk, e2, idx_last hp, i2, act_x, e3, hap, e4, hadd, e5, e6, hr2, ef, strsP_nil, strsP_cons, List.foldl_cons, List.foldl_nil, empty_app, kindR, bmtKR, ↓ex_seq_skip, szR, boolsP_mapf, boolsP_map, List.all_map, List.any_map, Function.comp_def, id_eq, ev_k, ev_v, ev_xattr, ev_tup, ev_lst, ev_lstR, ev_bin, ev_cmp, ev_chain, ev_neg, ev_not, ev_and, ev_or, ev_ite, ev_call, ev_bfn, ev_listR, ev_bmt, ev_mmt, ev_isI, ev_attr, ev_idx, ev_slc, ev_rev, ev_comp, ev_compR, ev_fmt, ev_one, ev_fstr, ev_ocmp, ev_ostr, ex_ite, ex_skip, ex_seq, ex_set, ex_par, ex_setT, ex_setAttr, ex_setIdx, ex_expr, ex_for, ex_ret, ex_raise, evs_nil, evs_cons, evs_star, evs_itV, evs_itR1, evs_itR2, evs_itEnum, setTs_nil, setTs_v, setTs_ix, get0, getS, xR, xD, Bool.false_eq_true, if_false, if_true, nBok, nBex, nOpt, nTok, nTex, nFnx, nFrt, nFxc, nMap, List.append_nil, List.cons_append, List.nil_append, arrange, bindP, setMany, wipeP, List.set_cons_zero, List.set_cons_succ, List.length_cons, List.length_nil, PV.pures, PV.pure, Bool.and_self, Bool.true_and, Bool.and_true, and_self, and_true, true_and, vwR, truthR, cmpR', inR, eqS, isR, itR, stR, nilR, partR, slcR, revR, binR, bfnR, idxR, ifT_some, cond_t, cond_f, orB, andB, thnB, bindB, flB, flNx, Bool.not_true, Bool.not_false, decide_true, decide_false, Int.reduceLT]
  exact ⟨a6, b6, c6, by rw [call_rt fn_law_right rfl e rfl rfl rfl rfl, take_last hp]⟩
end RF.K
namespace RF.K
open RF PySem
theorem all_ok {C : CallF} (hR : CanRight C) (hC : CanCell C) (hP : CanPurse C) {S : Store} {ns : List Int} {n : Nat} {x1 x2 x3 : Option PV} (hn : n ≤ 100) :
    ∃ S2, compL (.v 4) (ev GG C x_law_0) (ev GG C IR.yes) .non .non [some (.scr (ns.map .int)), x1, x2, x3, none] ((List.range n).map fun i => .int (i : Nat)) [] S = .ok (List.replicate n (.bl true)) S2 := by
  obtain ⟨ys, S2, e, hl, hy⟩ := comp_rule (p := .v 4) (elt := ev GG C x_law_0) (cond := ev GG C IR.yes) (gv := .non) (g0 := .non) (env := [some (.scr (ns.map .int)), x1, x2, x3, none]) (xs := (List.range n).map fun i => .int (i : Nat)) (acc := []) (i := 0) (S := S)
    (I := fun j acc S' => acc.length = j ∧ ∀ y, y ∈ acc → y = .bl true) ⟨rfl, fun _ h => (by cases h)⟩ (by rw [List.length_map, List.length_range]; exact size_ok (by simp; omega)) (fun _ _ _ _ => rfl) fun j x acc S' hx ⟨h1, h2⟩ => by
      rw [List.getElem?_map] at hx
      have hj : j < n := by
        by_cases h : j < n
        · exact h
        · rw [List.getElem?_eq_none (by rw [List.length_range]; omega)] at hx; cases hx
      rw [List.getElem?_range hj] at hx
      obtain rfl : PV.int (j : Nat) = x := Option.some.inj hx
      obtain ⟨v, e1⟩ := hC S' ns j (by omega)
      obtain ⟨a, b, c, e2⟩ := hP S' v
      rw [purse_put] at e2
      have hq : S'.length < (S' ++ [SO.lst [.int a, .int b, .int c]]).length := by rw [List.length_append]; exact Nat.lt_succ_self _
      generalize S' ++ [SO.lst [.int a, .int b, .int c]] = S0 at e2 hq
      obtain ⟨a', b', c', e3⟩ := hR S0 S'.length a b c hq
      refine ⟨_, rfl, .bl true, S', rfl, .inr ⟨rfl, .bl true, _, (by simp only [x_law_0, e1, e2, e3, strsP_nil, strsP_cons, List.foldl_cons, List.foldl_nil, empty_app, kindR, bmtKR, ↓ex_seq_skip, szR, boolsP_mapf, boolsP_map, List.all_map, List.any_map, Function.comp_def, id_eq, ev_k, ev_v, ev_xattr, ev_tup, ev_lst, ev_lstR, ev_bin, ev_cmp, ev_chain, ev_neg, ev_not, ev_and, ev_or, ev_ite, ev_call, ev_bfn, ev_listR, ev_bmt, ev_mmt, ev_isI, ev_attr, ev_idx, ev_slc, ev_rev, ev_comp, ev_compR, ev_fmt, ev_one, ev_fstr, ev_ocmp, ev_ostr, ex_ite, ex_skip, ex_seq, ex_set, ex_par, ex_setT, ex_setAttr, ex_setIdx, ex_expr, ex_for, ex_ret, ex_raise, evs_nil, evs_cons, evs_star, evs_itV, evs_itR1, evs_itR2, evs_itEnum, setTs_nil, setTs_v, setTs_ix, get0, getS, xR, xD, Bool.false_eq_true, if_false, if_true, nBok, nBex, nOpt, nTok, nTex, nFnx, nFrt, nFxc, nMap, List.append_nil, List.cons_append, List.nil_append, arrange, bindP, setMany, wipeP, List.set_cons_zero, List.set_cons_succ, List.length_cons, List.length_nil, PV.pures, PV.pure, Bool.and_self, Bool.true_and, Bool.and_true, and_self, and_true, true_and, vwR, truthR, cmpR', inR, eqS, isR, itR, stR, nilR, partR, slcR, revR, binR, bfnR, idxR, ifT_some, cond_t, cond_f, orB, andB, thnB, bindB, flB, flNx, Bool.not_true, Bool.not_false, decide_true, decide_false, Int.reduceLT]; rfl), by rw [List.length_append, h1]; simp, fun y hy => ?_⟩⟩
      rcases List.mem_append.mp hy with hy | hy
      · exact h2 y hy
      · exact List.mem_singleton.mp hy
  rw [Nat.zero_add, List.length_map, List.length_range] at hl
  exact ⟨S2, by rw [e, List.eq_replicate_iff.mpr ⟨hl, hy⟩]⟩
theorem boolsP_rep (n : Nat) : boolsP (List.replicate n (.bl true)) = some (List.replicate n true) := by
  have : (List.replicate n (PV.bl true)) = (List.replicate n true).map .bl := by rw [List.map_replicate]
  rw [this]
  exact boolsP_map _
theorem all_rep (n : Nat) : (List.replicate n true).all id = true := by
  rw [List.all_replicate]
  cases n <;> rfl
/-! the steps that are told -/
def T0 : Stp := .keep "t" ["a.b", "a.b"]
def T1 : Stp := .join "b" [["a.x", "b.y"], ["c.x", "b.y"]]
def T2 : Stp := .sort ["-a.b", "b.a"]
def T3 : Stp := .cut 0 none []
def T4 : Stp := .cut 9 (some 0) []
def T5 : Stp := .cut 2 none ["a.b", "a.c"]
def T6 : Stp := .cut 1 (some 9) ["a.b"]
def TOLD : List Stp := [T0, T1, T2, T3, T4, T5, T6]
theorem told_fine : ∀ s, s ∈ TOLD → FineS s := fun s hs => by
  have two : ∀ {a b : Str} {P : Str → Prop}, P a → P b → ∀ w, w ∈ [a, b] → P w := fun ha hb w hw => by
    rcases List.mem_cons.mp hw with rfl | hw
    · exact ha
    · rw [List.mem_singleton.mp hw]; exact hb
  have none_ : ∀ {P : Str → Prop}, ∀ w, w ∈ ([] : List Str) → P w := fun _ h => by cases h
  have dig9 : digB 9 = true := rfl
  rcases List.mem_cons.mp hs with rfl | hs
  · exact ⟨by decide +kernel, by simp, by decide, two (P := fun w => isFullB w = true) (by decide +kernel) (by decide +kernel)⟩
  rcases List.mem_cons.mp hs with rfl | hs
  · refine ⟨by decide +kernel, by simp, by decide, fun w hw => ?_, by decide +kernel⟩
    rcases List.mem_cons.mp hw with rfl | hw
    · decide +kernel
    · rw [List.mem_singleton.mp hw]; decide +kernel
  rcases List.mem_cons.mp hs with rfl | hs
  · exact ⟨by simp, by decide, two (P := fun w => isFullB (bare w) = true) (by decide +kernel) (by decide +kernel), by decide +kernel⟩
  rcases List.mem_cons.mp hs with rfl | hs
  · exact ⟨rfl, fun _ h => (by cases h), by decide, none_, List.nodup_nil⟩
  rcases List.mem_cons.mp hs with rfl | hs
  · exact ⟨rfl, fun c h => (by cases h; rfl), by decide, none_, List.nodup_nil⟩
  rcases List.mem_cons.mp hs with rfl | hs
  · exact ⟨rfl, fun _ h => (by cases h), by decide, two (P := fun w => isFullB w = true) (by decide +kernel) (by decide +kernel), by decide +kernel⟩
  rw [List.mem_singleton.mp hs]
  exact ⟨rfl, fun c h => (by cases h; rfl), by decide, fun w hw => by rw [List.mem_singleton.mp hw]; decide +kernel, by simp⟩
abbrev TXT : List PV := [.str "keep t: a.b a.b", .str "join b: a.x b.y, c.x b.y", .str "sort -a.b b.a", .str "cut 0 all", .str "cut 9 0", .str "cut 2 all per a.b a.c", .str "cut 1 9 per a.b"]
theorem told_rows : (TOLD.map fun s => PV.str (rowT s)) = TXT := by
  have h : TOLD.map rowT = (["keep t: a.b a.b", "join b: a.x b.y, c.x b.y", "sort -a.b b.a", "cut 0 all", "cut 9 0", "cut 2 all per a.b a.c", "cut 1 9 per a.b"] : List Str) := by decide +kernel
  have h2 := congrArg (List.map PV.str) h
  rw [List.map_map] at h2
  exact h2
abbrev OBJ : List PV := [.obj k_Keep [.str "t", .tup [.str "a.b", .str "a.b"]], .obj k_Join [.str "b", .tup [.tup [.str "a.x", .str "b.y"], .tup [.str "c.x", .str "b.y"]]], .obj k_Sort [.tup [.str "-a.b", .str "b.a"]], .obj k_Cut [.int 0, .non, .tup []], .obj k_Cut [.int 9, .int 0, .tup []], .obj k_Cut [.int 2, .non, .tup [.str "a.b", .str "a.c"]], .obj k_Cut [.int 1, .int 9, .tup [.str "a.b"]]]
theorem told_objs : TOLD.map Stp.obj = OBJ := rfl
theorem told_comp {C : CallF} (hS : CanStr C) {x1 x2 : Option PV} {sc : PV} : compL (.v 3) (ev GG C x_law_1) (ev GG C IR.yes) (.lst OBJ) (.lst OBJ) [some sc, x1, x2, none, none] OBJ [] [] = .ok TXT [] := by
  rw [← told_objs, ← told_rows]
  exact comp_map Stp.obj (fun s => .str (rowT s)) TOLD rfl (by decide +kernel) fun j s hs => ⟨_, rfl, rfl, by
    have g := ostr_step hS (S := []) (told_fine s (List.mem_of_getElem? hs))
    simp only [x_law_1, sobj_x, g, strsP_nil, strsP_cons, List.foldl_cons, List.foldl_nil, empty_app, kindR, bmtKR, ↓ex_seq_skip, szR, boolsP_mapf, boolsP_map, List.all_map, List.any_map, Function.comp_def, id_eq, ev_k, ev_v, ev_xattr, ev_tup, ev_lst, ev_lstR, ev_bin, ev_cmp, ev_chain, ev_neg, ev_not, ev_and, ev_or, ev_ite, ev_call, ev_bfn, ev_listR, ev_bmt, ev_mmt, ev_isI, ev_attr, ev_idx, ev_slc, ev_rev, ev_comp, ev_compR, ev_fmt, ev_one, ev_fstr, ev_ocmp, ev_ostr, ex_ite, ex_skip, ex_seq, ex_set, ex_par, ex_setT, ex_setAttr, ex_setIdx, ex_expr, ex_for, ex_ret, ex_raise, evs_nil, evs_cons, evs_star, evs_itV, evs_itR1, evs_itR2, evs_itEnum, setTs_nil, setTs_v, setTs_ix, get0, getS, xR, xD, Bool.false_eq_true, if_false, if_true, nBok, nBex, nOpt, nTok, nTex, nFnx, nFrt, nFxc, nMap, List.append_nil, List.cons_append, List.nil_append, arrange, bindP, setMany, wipeP, List.set_cons_zero, List.set_cons_succ, List.length_cons, List.length_nil, PV.pures, PV.pure, Bool.and_self, Bool.true_and, Bool.and_true, and_self, and_true, true_and, vwR, truthR, cmpR', inR, eqS, isR, itR, stR, nilR, partR, slcR, revR, binR, bfnR, idxR, ifT_some, cond_t, cond_f, orB, andB, thnB, bindB, flB, flNx, Bool.not_true, Bool.not_false, decide_true, decide_false, Int.reduceLT]⟩
theorem txt_same (S : Store) : cmpV S .ne (.lst TXT) (.lst TXT) = some false := by
  have h := (Enc.lst Enc.str).cmp_ne S (a := ["keep t: a.b a.b", "join b: a.x b.y, c.x b.y", "sort -a.b b.a", "cut 0 all", "cut 9 0", "cut 2 all per a.b a.c", "cut 1 9 per a.b"]) (b := ["keep t: a.b a.b", "join b: a.x b.y, c.x b.y", "sort -a.b b.a", "cut 0 all", "cut 9 0", "cut 2 all per a.b a.c", "cut 1 9 per a.b"]) (fun w hw => (List.all_eq_true.mp (show (List.all (["keep t: a.b a.b", "join b: a.x b.y, c.x b.y", "sort -a.b b.a", "cut 0 all", "cut 9 0", "cut 2 all per a.b a.c", "cut 1 9 per a.b"] : List Str) PyData.strOk) = true by decide +kernel)) w hw) (fun w hw => (List.all_eq_true.mp (show (List.all (["keep t: a.b a.b", "join b: a.x b.y, c.x b.y", "sort -a.b b.a", "cut 0 all", "cut 9 0", "cut 2 all per a.b a.c", "cut 1 9 per a.b"] : List Str) PyData.strOk) = true by decide +kernel)) w hw) (by decide)
  exact h.trans (by simp)
theorem told_made (k : Nat) :
    call GG fns (k + 4) i_Keep_init [.ref 0, .str "t", .tup [.str "a.b", .str "a.b"]] [.inst k_Keep []] = .ok .non [.inst k_Keep [.str "t", .tup [.str "a.b", .str "a.b"]]]
    ∧ call GG fns (k + 4) i_Join_init [.ref 0, .str "b", .tup [.tup [.str "a.x", .str "b.y"], .tup [.str "c.x", .str "b.y"]]] [.inst k_Join []] = .ok .non [.inst k_Join [.str "b", .tup [.tup [.str "a.x", .str "b.y"], .tup [.str "c.x", .str "b.y"]]]]
    ∧ call GG fns (k + 4) i_Sort_init [.ref 0, .tup [.str "-a.b", .str "b.a"]] [.inst k_Sort []] = .ok .non [.inst k_Sort [.tup [.str "-a.b", .str "b.a"]]]
    ∧ call GG fns (k + 4) i_Cut_init [.ref 0, .int 0, .non, .tup []] [.inst k_Cut []] = .ok .non [.inst k_Cut [.int 0, .non, .tup []]]
    ∧ call GG fns (k + 4) i_Cut_init [.ref 0, .int 9, .int 0, .tup []] [.inst k_Cut []] = .ok .non [.inst k_Cut [.int 9, .int 0, .tup []]]
    ∧ call GG fns (k + 4) i_Cut_init [.ref 0, .int 2, .non, .tup [.str "a.b", .str "a.c"]] [.inst k_Cut []] = .ok .non [.inst k_Cut [.int 2, .non, .tup [.str "a.b", .str "a.c"]]]
    ∧ call GG fns (k + 4) i_Cut_init [.ref 0, .int 1, .int 9, .tup [.str "a.b"]] [.inst k_Cut []] = .ok .non [.inst k_Cut [.int 1, .int 9, .tup [.str "a.b"]]] := by
  have f : ∀ s, s ∈ TOLD → s.ok ∧ s.err = none := fun s hs => ⟨fine_ok (told_fine s hs), fine_none (told_fine s hs)⟩
  have f0 := f T0 (by simp [TOLD])
  have f1 := f T1 (by simp [TOLD])
  have f2 := f T2 (by simp [TOLD])
  have f3 := f T3 (by simp [TOLD])
  have f4 := f T4 (by simp [TOLD])
  have f5 := f T5 (by simp [TOLD])
  have f6 := f T6 (by simp [TOLD])
  have g0 := can_keep (k + 1) [] "t" ["a.b", "a.b"] f0.1.1 f0.1.2
  have g1 := can_join k [] "b" [["a.x", "b.y"], ["c.x", "b.y"]] f1.1.1 f1.1.2
  have g2 := can_sort (k + 1) [] ["-a.b", "b.a"] f2.1
  have g3 := can_cut (k + 1) [] 0 none [] f3.1
  have g4 := can_cut (k + 1) [] 9 (some 0) [] f4.1
  have g5 := can_cut (k + 1) [] 2 none ["a.b", "a.c"] f5.1
  have g6 := can_cut (k + 1) [] 1 (some 9) ["a.b"] f6.1
  have q0 := f0.2
  have q1 := f1.2
  have q2 := f2.2
  have q3 := f3.2
  have q4 := f4.2
  have q5 := f5.2
  have q6 := f6.2
  unfold T0 at q0
  unfold T1 at q1
  unfold T2 at q2
  unfold T3 at q3
  unfold T4 at q4
  unfold T5 at q5
  unfold T6 at q6
  rw [q0] at g0
  rw [q1] at g1
  rw [q2] at g2
  rw [q3] at g3
  rw [q4] at g4
  rw [q5] at g5
  rw [q6] at g6
  exact ⟨g0, g1, g2, g3, g4, g5, g6⟩
theorem gc0 (c : Nat) (l : List PV) : gcV 0 (.ref 0) [.inst c l] = .ok (.obj c l) [] := gc_step [] c l
theorem res0 (ns : List Int) (hns : ns.length ≤ 63) : ∃ S, call GG fns 13 i_law [.scr (ns.map .int)] [] = .ok (.bl true) S := by
  have hm0 : 0 ≤ (if (if (10 : Int) < (ns.length : Nat) then (10 : Int) else ((ns.length : Nat) : Int)) > 3 then (if (10 : Int) < (ns.length : Nat) then (10 : Int) else ((ns.length : Nat) : Int)) else 3) ∧ (if (if (10 : Int) < (ns.length : Nat) then (10 : Int) else ((ns.length : Nat) : Int)) > 3 then (if (10 : Int) < (ns.length : Nat) then (10 : Int) else ((ns.length : Nat) : Int)) else 3) ≤ 16 := by
    split <;> split <;> omega
  have hr : rangeV [.int (if (if (10 : Int) < (ns.length : Nat) then (10 : Int) else ((ns.length : Nat) : Int)) > 3 then (if (10 : Int) < (ns.length : Nat) then (10 : Int) else ((ns.length : Nat) : Int)) else 3)] = some ((List.range ((if (if (10 : Int) < (ns.length : Nat) then (10 : Int) else ((ns.length : Nat) : Int)) > 3 then (if (10 : Int) < (ns.length : Nat) then (10 : Int) else ((ns.length : Nat) : Int)) else 3)).toNat).map fun i => .int (i : Nat)) := range1 (in62_of (by omega) (by omega))
  obtain ⟨S2, ea⟩ := all_ok (C := call GG fns 12) (can_right 5) (can_cell 11) (can_purse 11) (S := []) (ns := ns) (n := ((if (if (10 : Int) < (ns.length : Nat) then (10 : Int) else ((ns.length : Nat) : Int)) > 3 then (if (10 : Int) < (ns.length : Nat) then (10 : Int) else ((ns.length : Nat) : Int)) else 3)).toNat) (x1 := some (.lst OBJ)) (x2 := some (.lst [.str "keep t: a.b a.b", .str "join b: a.x b.y, c.x b.y", .str "sort -a.b b.a", .str "cut 0 all", .str "cut 9 0"])) (x3 := none) (by omega)
  have tm := told_made 8
  have tc := fun x2 => told_comp (C := call GG fns 12) (can_str 11) (x1 := some (.lst OBJ)) (x2 := x2) (sc := .scr (ns.map .int))
  have z1 : 0 + 1 + 1 + 1 + 1 + 1 + (0 + 1 + 1) ≤ sizeLine := by decide +kernel
  have z2 : 0 + 1 + 1 + 1 + (0 + 1 + 1 + 1 + 1) ≤ sizeLine := by decide +kernel
  have e : ex GG (call GG fns 12) b_law [some (.scr (ns.map .int)), none, none, none, none] [] = .rt (.bl true) S2 := by
    simp only [b_law, ev_new, cls_Keep, cls_Join, cls_Sort, cls_Cut, cls_init, tm, gc0, z1, z2, tc, txt_same, List.length_map, hr, ea, boolsP_rep, all_rep, strsP_nil, strsP_cons, List.foldl_cons, List.foldl_nil, empty_app, kindR, bmtKR, ↓ex_seq_skip, szR, boolsP_mapf, boolsP_map, List.all_map, List.any_map, Function.comp_def, id_eq, ev_k, ev_v, ev_xattr, ev_tup, ev_lst, ev_lstR, ev_bin, ev_cmp, ev_chain, ev_neg, ev_not, ev_and, ev_or, ev_ite, ev_call, ev_bfn, ev_listR, ev_bmt, ev_mmt, ev_isI, ev_attr, ev_idx, ev_slc, ev_rev, ev_comp, ev_compR, ev_fmt, ev_one, ev_fstr, ev_ocmp, ev_ostr, ex_ite, ex_skip, ex_seq, ex_set, ex_par, ex_setT, ex_setAttr, ex_setIdx, ex_expr, ex_for, ex_ret, ex_raise, evs_nil, evs_cons, evs_star, evs_itV, evs_itR1, evs_itR2, evs_itEnum, setTs_nil, setTs_v, setTs_ix, get0, getS, xR, xD, Bool.false_eq_true, if_false, if_true, nBok, nBex, nOpt, nTok, nTex, nFnx, nFrt, nFxc, nMap, List.append_nil, List.cons_append, List.nil_append, arrange, bindP, setMany, wipeP, List.set_cons_zero, List.set_cons_succ, List.length_cons, List.length_nil, PV.pures, PV.pure, Bool.and_self, Bool.true_and, Bool.and_true, and_self, and_true, true_and, vwR, truthR, cmpR', inR, eqS, isR, itR, stR, nilR, partR, slcR, revR, binR, bfnR, idxR, ifT_some, cond_t, cond_f, orB, andB, thnB, bindB, flB, flNx, Bool.not_true, Bool.not_false, decide_true, decide_false, Int.reduceLT]
  exact ⟨_, call_rt fn_law rfl e rfl rfl rfl rfl⟩
end RF.K
namespace RF.K
open PySem PySem.Spec PyProof.Rows L2 RF
def top (i : Nat) : Stmt := PySem.Challenge.pw_rowsfirst_k10_steps_made.main.body.getD i (.Pass ⟨0, 0, 0, 0⟩)
def inCls (i j : Nat) : Stmt := match top i with
  | .ClassDef _ _ _ b _ _ _ _ _ _ _ => b.getD j (.Pass ⟨0, 0, 0, 0⟩)
  | _ => .Pass ⟨0, 0, 0, 0⟩
def t_law : FT := ⟨"law", "law", defArgs (top 38), defBody (top 38), defScope (top 38), ["_law_script", "_law_some", "_law_due", "_law_each", "_law_k"], ["_law_script"], [], fi_law⟩
def t_Keep_init : FT := ⟨"__init__", "Keep.__init__", defArgs (inCls 20 0), defBody (inCls 20 0), defScope (inCls 20 0), ["self", "test", "columns", "index", "column"], ["self", "test", "columns"], [], fi_Keep_init⟩
def t_is_name : FT := ⟨"is_name", "is_name", defArgs (top 12), defBody (top 12), defScope (top 12), ["value", "sign"], ["value"], [], fi_is_name⟩
def t_is_full : FT := ⟨"is_full", "is_full", defArgs (top 17), defBody (top 17), defScope (top 17), ["value", "words"], ["value"], [], fi_is_full⟩
def t_Join_init : FT := ⟨"__init__", "Join.__init__", defArgs (inCls 22 0), defBody (inCls 22 0), defScope (inCls 22 0), ["self", "table", "pairs", "index", "pair"], ["self", "table", "pairs"], [], fi_Join_init⟩
def t_is_pair : FT := ⟨"is_pair", "is_pair", defArgs (top 21), defBody (top 21), defScope (top 21), ["table", "pair"], ["table", "pair"], [], fi_is_pair⟩
def t_Sort_init : FT := ⟨"__init__", "Sort.__init__", defArgs (inCls 23 0), defBody (inCls 23 0), defScope (inCls 23 0), ["self", "columns", "index", "text", "mate"], ["self", "columns"], [], fi_Sort_init⟩
def t_bare_column : FT := ⟨"bare_column", "bare_column", defArgs (top 18), defBody (top 18), defScope (top 18), ["text"], ["text"], [], fi_bare_column⟩
def t_Cut_init : FT := ⟨"__init__", "Cut.__init__", defArgs (inCls 24 0), defBody (inCls 24 0), defScope (inCls 24 0), ["self", "start", "count", "per", "index", "column"], ["self", "start", "count", "per"], [.non, (.tup [])], fi_Cut_init⟩
def t_is_digit : FT := ⟨"is_digit", "is_digit", defArgs (top 19), defBody (top 19), defScope (top 19), ["value"], ["value"], [], fi_is_digit⟩
def t_is_integer : FT := ⟨"is_integer", "is_integer", defArgs (top 13), defBody (top 13), defScope (top 13), ["value"], ["value"], [], fi_is_integer⟩
def t_law_right : FT := ⟨"_law_right", "_law_right", defArgs (top 37), defBody (top 37), defScope (top 37), ["_law_purse_here", "_law_acts", "_law_cols", "_law_mine", "_law_twin", "_law_turn", "_law_k", "_law_due", "_law_others", "_law_act_here", "_law_each"], ["_law_purse_here"], [], fi_law_right⟩
def t_law_step : FT := ⟨"_law_step", "_law_step", defArgs (top 32), defBody (top 32), defScope (top 32), ["_law_purse_here", "_law_way", "_law_size", "_law_tag", "_law_cols", "_law_other", "_law_links", "_law_k", "_law_old", "_law_new", "_law_low", "_law_last", "_law_word"], ["_law_purse_here"], [], fi_law_step⟩
def t_law_take : FT := ⟨"_law_take", "_law_take", defArgs (top 28), defBody (top 28), defScope (top 28), ["_law_purse_here", "_law_many", "_law_mixed", "_law_wide", "_law_digit"], ["_law_purse_here", "_law_many"], [], fi_law_take⟩
def t_law_name : FT := ⟨"_law_name", "_law_name", defArgs (top 29), defBody (top 29), defScope (top 29), ["_law_purse_here", "_law_way", "_law_size", "_law_words", "_law_word", "_law_k"], ["_law_purse_here"], [], fi_law_name⟩
def t_law_fulls : FT := ⟨"_law_fulls", "_law_fulls", defArgs (top 31), defBody (top 31), defScope (top 31), ["_law_purse_here", "_law_many", "_law_found", "_law_k", "_law_word", "_law_each", "_law_j"], ["_law_purse_here", "_law_many"], [], fi_law_fulls⟩
def t_law_full : FT := ⟨"_law_full", "_law_full", defArgs (top 30), defBody (top 30), defScope (top 30), ["_law_purse_here"], ["_law_purse_here"], [], fi_law_full⟩
def t_law_bent : FT := ⟨"_law_bent", "_law_bent", defArgs (top 36), defBody (top 36), defScope (top 36), ["_law_purse_here", "_law_act_here", "_law_way", "_law_word", "_law_rows", "_law_lead", "_law_other", "_law_tag"], ["_law_purse_here", "_law_act_here"], [], fi_law_bent⟩
def t_law_act : FT := ⟨"_law_act", "_law_act", defArgs (top 34), defBody (top 34), defScope (top 34), ["_law_purse_here", "_law_act_here", "_law_way", "_law_word"], ["_law_purse_here", "_law_act_here"], [], fi_law_act⟩
def t_law_parts : FT := ⟨"_law_parts", "_law_parts", defArgs (top 35), defBody (top 35), defScope (top 35), ["_law_act_here", "_law_mine"], ["_law_act_here", "_law_mine"], [], fi_law_parts⟩
def t_law_row : FT := ⟨"_law_row", "_law_row", defArgs (top 33), defBody (top 33), defScope (top 33), ["_law_act_here", "_law_last", "_law_pair", "_law_word"], ["_law_act_here"], [], fi_law_row⟩
def t_law_purse : FT := ⟨"_law_purse", "_law_purse", defArgs (top 27), defBody (top 27), defScope (top 27), ["_law_cell_here"], ["_law_cell_here"], [], fi_law_purse⟩
def t_law_cell : FT := ⟨"_law_cell", "_law_cell", defArgs (top 26), defBody (top 26), defScope (top 26), ["_law_script", "_law_k", "_law_mixed", "_law_each"], ["_law_script", "_law_k"], [], fi_law_cell⟩
def t_Keep_str : FT := ⟨"__str__", "Keep.__str__", defArgs (inCls 20 2), defBody (inCls 20 2), defScope (inCls 20 2), ["self"], ["self"], [], fi_Keep_str⟩
def t_Join_str : FT := ⟨"__str__", "Join.__str__", defArgs (inCls 22 2), defBody (inCls 22 2), defScope (inCls 22 2), ["self", "rows", "old", "new"], ["self"], [], fi_Join_str⟩
def t_Sort_str : FT := ⟨"__str__", "Sort.__str__", defArgs (inCls 23 2), defBody (inCls 23 2), defScope (inCls 23 2), ["self"], ["self"], [], fi_Sort_str⟩
def t_Cut_str : FT := ⟨"__str__", "Cut.__str__", defArgs (inCls 24 2), defBody (inCls 24 2), defScope (inCls 24 2), ["self", "words", "column"], ["self"], [], fi_Cut_str⟩
def t_Keep_eq : FT := ⟨"__eq__", "Keep.__eq__", defArgs (inCls 20 1), defBody (inCls 20 1), defScope (inCls 20 1), ["self", "other"], ["self", "other"], [], fi_Keep_eq⟩
def t_Join_eq : FT := ⟨"__eq__", "Join.__eq__", defArgs (inCls 22 1), defBody (inCls 22 1), defScope (inCls 22 1), ["self", "other"], ["self", "other"], [], fi_Join_eq⟩
def t_Sort_eq : FT := ⟨"__eq__", "Sort.__eq__", defArgs (inCls 23 1), defBody (inCls 23 1), defScope (inCls 23 1), ["self", "other"], ["self", "other"], [], fi_Sort_eq⟩
def t_Cut_eq : FT := ⟨"__eq__", "Cut.__eq__", defArgs (inCls 24 1), defBody (inCls 24 1), defScope (inCls 24 1), ["self", "other"], ["self", "other"], [], fi_Cut_eq⟩
def D : HD where
  nm := ["__str__", "columns", "test", "pairs", "table", "per", "count", "start", "__eq__", "given", "index"]
  cs := [("Keep", ⟨[f_test, f_columns], [(f_str, i_Keep_str), (f_eq, i_Keep_eq)], i_Keep_init, true⟩), ("Join", ⟨[f_table, f_pairs], [(f_str, i_Join_str), (f_eq, i_Join_eq)], i_Join_init, true⟩), ("Sort", ⟨[f_columns], [(f_str, i_Sort_str), (f_eq, i_Sort_eq)], i_Sort_init, true⟩), ("Cut", ⟨[f_start, f_count, f_per], [(f_str, i_Cut_str), (f_eq, i_Cut_eq)], i_Cut_init, true⟩)]
  xs := [("WrongValue", ⟨[], [e_WrongValue]⟩, []), ("InvalidName", ⟨[f_given], [e_InvalidName, e_WrongValue]⟩, [("given", "given")]), ("InvalidColumns", ⟨[f_index], [e_InvalidColumns, e_WrongValue]⟩, [("index", "index")]), ("InvalidPairs", ⟨[f_index], [e_InvalidPairs, e_WrongValue]⟩, [("index", "index")]), ("InvalidStart", ⟨[f_given], [e_InvalidStart, e_WrongValue]⟩, [("given", "given")]), ("InvalidCount", ⟨[f_given], [e_InvalidCount, e_WrongValue]⟩, [("given", "given")])]
  ds := [⟨("law", none), t_law, []⟩, ⟨("Keep", some "__init__"), t_Keep_init, []⟩, ⟨("is_name", none), t_is_name, []⟩, ⟨("is_full", none), t_is_full, []⟩, ⟨("Join", some "__init__"), t_Join_init, []⟩, ⟨("is_pair", none), t_is_pair, []⟩, ⟨("Sort", some "__init__"), t_Sort_init, []⟩, ⟨("bare_column", none), t_bare_column, []⟩, ⟨("Cut", some "__init__"), t_Cut_init, [.non, .adr (He.dflAt ("Cut", some "__init__") 1)]⟩, ⟨("is_digit", none), t_is_digit, []⟩, ⟨("is_integer", none), t_is_integer, []⟩, ⟨("_law_right", none), t_law_right, []⟩, ⟨("_law_step", none), t_law_step, []⟩, ⟨("_law_take", none), t_law_take, []⟩, ⟨("_law_name", none), t_law_name, []⟩, ⟨("_law_fulls", none), t_law_fulls, []⟩, ⟨("_law_full", none), t_law_full, []⟩, ⟨("_law_bent", none), t_law_bent, []⟩, ⟨("_law_act", none), t_law_act, []⟩, ⟨("_law_parts", none), t_law_parts, []⟩, ⟨("_law_row", none), t_law_row, []⟩, ⟨("_law_purse", none), t_law_purse, []⟩, ⟨("_law_cell", none), t_law_cell, []⟩, ⟨("Keep", some "__str__"), t_Keep_str, []⟩, ⟨("Join", some "__str__"), t_Join_str, []⟩, ⟨("Sort", some "__str__"), t_Sort_str, []⟩, ⟨("Cut", some "__str__"), t_Cut_str, []⟩, ⟨("Keep", some "__eq__"), t_Keep_eq, []⟩, ⟨("Join", some "__eq__"), t_Join_eq, []⟩, ⟨("Sort", some "__eq__"), t_Sort_eq, []⟩, ⟨("Cut", some "__eq__"), t_Cut_eq, []⟩]
  gv := [("MOST_ASKED", (.int 4)), ("SIGNS", (.str "abcdefghijklmnopqrstuvwxyz0123456789")), ("LETTERS", (.str "abcdefghijklmnopqrstuvwxyz")), ("MOST_SIGNS", (.int 8)), ("MOST_SORTED", (.int 20)), ("MOST_COUNT", (.int 9))]
  bt := ["all", "range", "max", "min", "len", "str", "enumerate", "isinstance", "tuple", "bool", "int", "repr", "divmod", "list", "abs"]
theorem G_eq : D.G = GG := rfl
theorem fns_eq : D.fts.map (·.fi) = fns := rfl
theorem c_law : chkSs (Sc.of D.M D.fts t_law) D.G b_law t_law.body = true := by kernel_rfl
theorem c_Keep_init : chkSs (Sc.of D.M D.fts t_Keep_init) D.G b_Keep_init t_Keep_init.body = true := by kernel_rfl
theorem c_is_name : chkSs (Sc.of D.M D.fts t_is_name) D.G b_is_name t_is_name.body = true := by kernel_rfl
theorem c_is_full : chkSs (Sc.of D.M D.fts t_is_full) D.G b_is_full t_is_full.body = true := by kernel_rfl
theorem c_Join_init : chkSs (Sc.of D.M D.fts t_Join_init) D.G b_Join_init t_Join_init.body = true := by kernel_rfl
theorem c_is_pair : chkSs (Sc.of D.M D.fts t_is_pair) D.G b_is_pair t_is_pair.body = true := by kernel_rfl
theorem c_Sort_init : chkSs (Sc.of D.M D.fts t_Sort_init) D.G b_Sort_init t_Sort_init.body = true := by kernel_rfl
theorem c_bare_column : chkSs (Sc.of D.M D.fts t_bare_column) D.G b_bare_column t_bare_column.body = true := by kernel_rfl
theorem c_Cut_init : chkSs (Sc.of D.M D.fts t_Cut_init) D.G b_Cut_init t_Cut_init.body = true := by kernel_rfl
theorem c_is_digit : chkSs (Sc.of D.M D.fts t_is_digit) D.G b_is_digit t_is_digit.body = true := by kernel_rfl
theorem c_is_integer : chkSs (Sc.of D.M D.fts t_is_integer) D.G b_is_integer t_is_integer.body = true := by kernel_rfl
theorem c_law_right : chkSs (Sc.of D.M D.fts t_law_right) D.G b_law_right t_law_right.body = true := by kernel_rfl
theorem c_law_step : chkSs (Sc.of D.M D.fts t_law_step) D.G b_law_step t_law_step.body = true := by kernel_rfl
theorem c_law_take : chkSs (Sc.of D.M D.fts t_law_take) D.G b_law_take t_law_take.body = true := by kernel_rfl
theorem c_law_name : chkSs (Sc.of D.M D.fts t_law_name) D.G b_law_name t_law_name.body = true := by kernel_rfl
theorem c_law_fulls : chkSs (Sc.of D.M D.fts t_law_fulls) D.G b_law_fulls t_law_fulls.body = true := by kernel_rfl
theorem c_law_full : chkSs (Sc.of D.M D.fts t_law_full) D.G b_law_full t_law_full.body = true := by kernel_rfl
theorem c_law_bent : chkSs (Sc.of D.M D.fts t_law_bent) D.G b_law_bent t_law_bent.body = true := by kernel_rfl
theorem c_law_act : chkSs (Sc.of D.M D.fts t_law_act) D.G b_law_act t_law_act.body = true := by kernel_rfl
theorem c_law_parts : chkSs (Sc.of D.M D.fts t_law_parts) D.G b_law_parts t_law_parts.body = true := by kernel_rfl
theorem c_law_row : chkSs (Sc.of D.M D.fts t_law_row) D.G b_law_row t_law_row.body = true := by kernel_rfl
theorem c_law_purse : chkSs (Sc.of D.M D.fts t_law_purse) D.G b_law_purse t_law_purse.body = true := by kernel_rfl
theorem c_law_cell : chkSs (Sc.of D.M D.fts t_law_cell) D.G b_law_cell t_law_cell.body = true := by kernel_rfl
theorem c_Keep_str : chkSs (Sc.of D.M D.fts t_Keep_str) D.G b_Keep_str t_Keep_str.body = true := by kernel_rfl
theorem c_Join_str : chkSs (Sc.of D.M D.fts t_Join_str) D.G b_Join_str t_Join_str.body = true := by kernel_rfl
theorem c_Sort_str : chkSs (Sc.of D.M D.fts t_Sort_str) D.G b_Sort_str t_Sort_str.body = true := by kernel_rfl
theorem c_Cut_str : chkSs (Sc.of D.M D.fts t_Cut_str) D.G b_Cut_str t_Cut_str.body = true := by kernel_rfl
theorem c_Keep_eq : chkSs (Sc.of D.M D.fts t_Keep_eq) D.G b_Keep_eq t_Keep_eq.body = true := by kernel_rfl
theorem c_Join_eq : chkSs (Sc.of D.M D.fts t_Join_eq) D.G b_Join_eq t_Join_eq.body = true := by kernel_rfl
theorem c_Sort_eq : chkSs (Sc.of D.M D.fts t_Sort_eq) D.G b_Sort_eq t_Sort_eq.body = true := by kernel_rfl
theorem c_Cut_eq : chkSs (Sc.of D.M D.fts t_Cut_eq) D.G b_Cut_eq t_Cut_eq.body = true := by kernel_rfl
end RF.K
namespace RF.K
open PySem PySem.Spec PyProof.Rows L2 RF
theorem s_law : FnScope t_law.N t_law.ps t_law.scope := ⟨rfl, rfl, rfl, by decide +kernel, rfl, by decide +kernel, by decide +kernel⟩
theorem s_Keep_init : FnScope t_Keep_init.N t_Keep_init.ps t_Keep_init.scope := ⟨rfl, rfl, rfl, by decide +kernel, rfl, by decide +kernel, by decide +kernel⟩
theorem s_is_name : FnScope t_is_name.N t_is_name.ps t_is_name.scope := ⟨rfl, rfl, rfl, by decide +kernel, rfl, by decide +kernel, by decide +kernel⟩
theorem s_is_full : FnScope t_is_full.N t_is_full.ps t_is_full.scope := ⟨rfl, rfl, rfl, by decide +kernel, rfl, by decide +kernel, by decide +kernel⟩
theorem s_Join_init : FnScope t_Join_init.N t_Join_init.ps t_Join_init.scope := ⟨rfl, rfl, rfl, by decide +kernel, rfl, by decide +kernel, by decide +kernel⟩
theorem s_is_pair : FnScope t_is_pair.N t_is_pair.ps t_is_pair.scope := ⟨rfl, rfl, rfl, by decide +kernel, rfl, by decide +kernel, by decide +kernel⟩
theorem s_Sort_init : FnScope t_Sort_init.N t_Sort_init.ps t_Sort_init.scope := ⟨rfl, rfl, rfl, by decide +kernel, rfl, by decide +kernel, by decide +kernel⟩
theorem s_bare_column : FnScope t_bare_column.N t_bare_column.ps t_bare_column.scope := ⟨rfl, rfl, rfl, by decide +kernel, rfl, by decide +kernel, by decide +kernel⟩
theorem s_Cut_init : FnScope t_Cut_init.N t_Cut_init.ps t_Cut_init.scope := ⟨rfl, rfl, rfl, by decide +kernel, rfl, by decide +kernel, by decide +kernel⟩
theorem s_is_digit : FnScope t_is_digit.N t_is_digit.ps t_is_digit.scope := ⟨rfl, rfl, rfl, by decide +kernel, rfl, by decide +kernel, by decide +kernel⟩
theorem s_is_integer : FnScope t_is_integer.N t_is_integer.ps t_is_integer.scope := ⟨rfl, rfl, rfl, by decide +kernel, rfl, by decide +kernel, by decide +kernel⟩
theorem s_law_right : FnScope t_law_right.N t_law_right.ps t_law_right.scope := ⟨rfl, rfl, rfl, by decide +kernel, rfl, by decide +kernel, by decide +kernel⟩
theorem s_law_step : FnScope t_law_step.N t_law_step.ps t_law_step.scope := ⟨rfl, rfl, rfl, by decide +kernel, rfl, by decide +kernel, by decide +kernel⟩
theorem s_law_take : FnScope t_law_take.N t_law_take.ps t_law_take.scope := ⟨rfl, rfl, rfl, by decide +kernel, rfl, by decide +kernel, by decide +kernel⟩
theorem s_law_name : FnScope t_law_name.N t_law_name.ps t_law_name.scope := ⟨rfl, rfl, rfl, by decide +kernel, rfl, by decide +kernel, by decide +kernel⟩
theorem s_law_fulls : FnScope t_law_fulls.N t_law_fulls.ps t_law_fulls.scope := ⟨rfl, rfl, rfl, by decide +kernel, rfl, by decide +kernel, by decide +kernel⟩
theorem s_law_full : FnScope t_law_full.N t_law_full.ps t_law_full.scope := ⟨rfl, rfl, rfl, by decide +kernel, rfl, by decide +kernel, by decide +kernel⟩
theorem s_law_bent : FnScope t_law_bent.N t_law_bent.ps t_law_bent.scope := ⟨rfl, rfl, rfl, by decide +kernel, rfl, by decide +kernel, by decide +kernel⟩
theorem s_law_act : FnScope t_law_act.N t_law_act.ps t_law_act.scope := ⟨rfl, rfl, rfl, by decide +kernel, rfl, by decide +kernel, by decide +kernel⟩
theorem s_law_parts : FnScope t_law_parts.N t_law_parts.ps t_law_parts.scope := ⟨rfl, rfl, rfl, by decide +kernel, rfl, by decide +kernel, by decide +kernel⟩
theorem s_law_row : FnScope t_law_row.N t_law_row.ps t_law_row.scope := ⟨rfl, rfl, rfl, by decide +kernel, rfl, by decide +kernel, by decide +kernel⟩
theorem s_law_purse : FnScope t_law_purse.N t_law_purse.ps t_law_purse.scope := ⟨rfl, rfl, rfl, by decide +kernel, rfl, by decide +kernel, by decide +kernel⟩
theorem s_law_cell : FnScope t_law_cell.N t_law_cell.ps t_law_cell.scope := ⟨rfl, rfl, rfl, by decide +kernel, rfl, by decide +kernel, by decide +kernel⟩
theorem s_Keep_str : FnScope t_Keep_str.N t_Keep_str.ps t_Keep_str.scope := ⟨rfl, rfl, rfl, by decide +kernel, rfl, by decide +kernel, by decide +kernel⟩
theorem s_Join_str : FnScope t_Join_str.N t_Join_str.ps t_Join_str.scope := ⟨rfl, rfl, rfl, by decide +kernel, rfl, by decide +kernel, by decide +kernel⟩
theorem s_Sort_str : FnScope t_Sort_str.N t_Sort_str.ps t_Sort_str.scope := ⟨rfl, rfl, rfl, by decide +kernel, rfl, by decide +kernel, by decide +kernel⟩
theorem s_Cut_str : FnScope t_Cut_str.N t_Cut_str.ps t_Cut_str.scope := ⟨rfl, rfl, rfl, by decide +kernel, rfl, by decide +kernel, by decide +kernel⟩
theorem s_Keep_eq : FnScope t_Keep_eq.N t_Keep_eq.ps t_Keep_eq.scope := ⟨rfl, rfl, rfl, by decide +kernel, rfl, by decide +kernel, by decide +kernel⟩
theorem s_Join_eq : FnScope t_Join_eq.N t_Join_eq.ps t_Join_eq.scope := ⟨rfl, rfl, rfl, by decide +kernel, rfl, by decide +kernel, by decide +kernel⟩
theorem s_Sort_eq : FnScope t_Sort_eq.N t_Sort_eq.ps t_Sort_eq.scope := ⟨rfl, rfl, rfl, by decide +kernel, rfl, by decide +kernel, by decide +kernel⟩
theorem s_Cut_eq : FnScope t_Cut_eq.N t_Cut_eq.ps t_Cut_eq.scope := ⟨rfl, rfl, rfl, by decide +kernel, rfl, by decide +kernel, by decide +kernel⟩
theorem shown (K : PySem.W.Frag) : ∀ t, t ∈ D.fts → Shown (D.T K) D.G D.M D.fts t := fun t ht => by
  have e : D.fts = [t_law, t_Keep_init, t_is_name, t_is_full, t_Join_init, t_is_pair, t_Sort_init, t_bare_column, t_Cut_init, t_is_digit, t_is_integer, t_law_right, t_law_step, t_law_take, t_law_name, t_law_fulls, t_law_full, t_law_bent, t_law_act, t_law_parts, t_law_row, t_law_purse, t_law_cell, t_Keep_str, t_Join_str, t_Sort_str, t_Cut_str, t_Keep_eq, t_Join_eq, t_Sort_eq, t_Cut_eq] := rfl
  rw [e] at ht
  simp only [List.mem_cons, List.mem_nil_iff, or_false] at ht
  rcases ht with rfl | rfl | rfl | rfl | rfl | rfl | rfl | rfl | rfl | rfl | rfl | rfl | rfl | rfl | rfl | rfl | rfl | rfl | rfl | rfl | rfl | rfl | rfl | rfl | rfl | rfl | rfl | rfl | rfl | rfl | rfl
  · exact shown_of s_law rfl rfl (by decide) c_law K
  · exact shown_of s_Keep_init rfl rfl (by decide) c_Keep_init K
  · exact shown_of s_is_name rfl rfl (by decide) c_is_name K
  · exact shown_of s_is_full rfl rfl (by decide) c_is_full K
  · exact shown_of s_Join_init rfl rfl (by decide) c_Join_init K
  · exact shown_of s_is_pair rfl rfl (by decide) c_is_pair K
  · exact shown_of s_Sort_init rfl rfl (by decide) c_Sort_init K
  · exact shown_of s_bare_column rfl rfl (by decide) c_bare_column K
  · exact shown_of s_Cut_init rfl rfl (by decide) c_Cut_init K
  · exact shown_of s_is_digit rfl rfl (by decide) c_is_digit K
  · exact shown_of s_is_integer rfl rfl (by decide) c_is_integer K
  · exact shown_of s_law_right rfl rfl (by decide) c_law_right K
  · exact shown_of s_law_step rfl rfl (by decide) c_law_step K
  · exact shown_of s_law_take rfl rfl (by decide) c_law_take K
  · exact shown_of s_law_name rfl rfl (by decide) c_law_name K
  · exact shown_of s_law_fulls rfl rfl (by decide) c_law_fulls K
  · exact shown_of s_law_full rfl rfl (by decide) c_law_full K
  · exact shown_of s_law_bent rfl rfl (by decide) c_law_bent K
  · exact shown_of s_law_act rfl rfl (by decide) c_law_act K
  · exact shown_of s_law_parts rfl rfl (by decide) c_law_parts K
  · exact shown_of s_law_row rfl rfl (by decide) c_law_row K
  · exact shown_of s_law_purse rfl rfl (by decide) c_law_purse K
  · exact shown_of s_law_cell rfl rfl (by decide) c_law_cell K
  · exact shown_of s_Keep_str rfl rfl (by decide) c_Keep_str K
  · exact shown_of s_Join_str rfl rfl (by decide) c_Join_str K
  · exact shown_of s_Sort_str rfl rfl (by decide) c_Sort_str K
  · exact shown_of s_Cut_str rfl rfl (by decide) c_Cut_str K
  · exact shown_of s_Keep_eq rfl rfl (by decide) c_Keep_eq K
  · exact shown_of s_Join_eq rfl rfl (by decide) c_Join_eq K
  · exact shown_of s_Sort_eq rfl rfl (by decide) c_Sort_eq K
  · exact shown_of s_Cut_eq rfl rfl (by decide) c_Cut_eq K
abbrev R : PySem.W.OpenRow := PySem.W.OpenLaw.row PySem.Challenge.rw_rowsfirst_k10_steps_made
def loose : List Str := (["WrongValue", "InvalidName", "InvalidStart", "InvalidCount", "InvalidColumns", "InvalidPairs", "MOST_COUNT", "LETTERS", "SIGNS", "MOST_SIGNS", "is_name", "is_integer", "MOST_ASKED", "MOST_SORTED", "is_full", "bare_column", "is_digit", "Keep", "is_pair", "Join", "Sort", "Cut", "_law_cell", "_law_purse", "_law_take", "_law_name", "_law_full", "_law_fulls", "_law_step", "_law_row"] : List Str) ++ (["_law_act", "_law_parts", "_law_bent", "_law_right"] : List Str)
abbrev hk : PySem.W.Hook := hookR 5 (headB D R.prog) (D.ds.map (·.d))
abbrev ob (s : PySem.W.SharedT) : He.AlD := obR 5 (headB D R.prog) (D.ds.map (·.d)) s
theorem run (w : World) : HandSHeadRun.RunEq R (PySem.W.view R.prog [38]) hk ob 4000 loose w := by
  intro os
  kernel_rfl
end RF.K
set_option maxRecDepth 100000
open PySem PySem.W PySem.Calls PyProof.Rows
theorem RF.K.res : ∀ ns : List Int, ns.length ≤ 63 → ∃ S, RF.call RF.K.D.G (RF.K.D.fts.map (·.fi)) 13 0 [.scr (ns.map .int)] [] = .ok (.bl true) S := fun ns h => by rw [RF.K.G_eq, RF.K.fns_eq]; exact RF.K.res0 ns h
theorem PySem.Challenge.cw_rowsfirst_k10_steps_made_holds : PySem.Challenge.rw_rowsfirst_k10_steps_made.Holds := by
  w_on; o_law
  refine HandSHeadRun.head_any (r := OpenLaw.row PySem.Challenge.rw_rowsfirst_k10_steps_made) (q := view (OpenLaw.row PySem.Challenge.rw_rowsfirst_k10_steps_made).prog [38]) (H := RF.K.hk) (ob := RF.K.ob) (M := 4000) (loose := RF.K.loose) (d := HandSHeadRun.topDef (OpenLaw.row PySem.Challenge.rw_rowsfirst_k10_steps_made).prog 38) (kwd := []) (RF.obR_eq _ _ _)
    (by kernel_rfl) (fun s => by kernel_rfl) RF.K.run (by kernel_rfl) (by kernel_rfl) (by kernel_rfl) (by rfl) (by first | assumption | decide +kernel) (by decide +kernel) ⟨rfl, rfl, rfl, rfl, rfl, by decide +kernel⟩ ?hw ?hc
  case hw => w_witness2
  case hc => exact RF.walk_R (n := 63) (k := 13) (fl := 0) (x := "_law_script") (l := PySem.Challenge.rw_rowsfirst_k10_steps_made) (D := RF.K.D) rfl (by decide) (by kernel_rfl) ⟨rfl, by decide, by decide⟩ rfl (by kernel_rfl) rfl rfl RF.K.shown RF.K.res
