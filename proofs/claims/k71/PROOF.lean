import PyProof.Rows.All
import Wide.All
import OpenK.AllK
import Wide.FinOn
import PyProof.EqAt
import PyProof.EqKinds
import PyProof.TupleCall
import HandS.ForMost
import HandS.ForExc
import HandS.Flow
import HandS.Wide
import HandS.CallSlots
import HandS.TupAny
import HandS.TupMul
import HandS.TupLe
import HandS.Deep
import HandS.Conv
import HandS.IsInst
import HandS.Codes
import HandS.ExcInit
import HandS.TryMany
import HandS.Comp
import HandS.Style
import HandS.Defaults
import HandS.Head0
import HandS.Head1
import HandS.Head2
import HandS.HeadEnd
import HandS.HeadHook1
import HandS.HeadHook2
import KE.GoesMore
import KE.GoesEnum
import KE.KExcIs
import HandS.Replace
import HandS.TupSets
import HandS.SortRule
import HandS.SortInts
import HandS.Strs
import HandS.Zip
import HandS.Property
import HandS.HeadNt
import HandS.Dict
import HandS.TupLen
import HandS.ListItems
import KE.KDictCopyH
import KE.KDictWalk
import PySem.Challenge.RW_lostplaces_k71_whole_moduli_that_bear_on
set_option Elab.async false
set_option linter.all false
set_option maxRecDepth 100000
set_option maxHeartbeats 4000000
/-! DL1: data, what stands for data, the state of a body, readings by functions. -/
namespace DL
open PySem PySem.Spec PyProof.Rows L2

/-- a value as data: tuples, lists, dicts, objects are values -/
inductive D where
  | non | bl (b : Bool) | int (i : Int) | str (s : Str)
  | tup (xs : List D) | lst (xs : List D) | dct (kvs : List (D × D)) | dtt (kvs : List (D × D)) | set (xs : List D)
  | obj (c : Str) (fs : List (Str × D)) | glo (x : Str)

abbrev Gm := List (Option D)
structure Xd where
  c : Str
  fs : List (Str × D)
/-- a computation's end -/
inductive R (α : Type) where
  | ok (a : α) (Γ : Gm) | ex (x : Xd) (Γ : Gm) | no
def R.bind {α β : Type} (r : R α) (f : α → Gm → R β) : R β := match r with
  | .ok a Γ => f a Γ
  | .ex x Γ => .ex x Γ
  | .no => .no
@[simp] theorem R.bind_ok {α β : Type} (a : α) (Γ : Gm) (f : α → Gm → R β) : (R.ok a Γ).bind f = f a Γ := (rfl)
@[simp] theorem R.bind_ex {α β : Type} (x : Xd) (Γ : Gm) (f : α → Gm → R β) : (R.ex x Γ : R α).bind f = .ex x Γ := (rfl)
@[simp] theorem R.bind_no {α β : Type} (f : α → Gm → R β) : (R.no : R α).bind f = .no := (rfl)
def R.of {α : Type} (o : Option α) (Γ : Gm) : R α := match o with | some a => .ok a Γ | none => .no
@[simp] theorem R.of_some {α : Type} (a : α) (Γ : Gm) : R.of (some a) Γ = .ok a Γ := (rfl)
@[simp] theorem R.of_none {α : Type} (Γ : Gm) : R.of (none : Option α) Γ = .no := (rfl)
/-- a statement's end -/
inductive SE where
  | nx (Γ : Gm) | rt (d : D) (Γ : Gm) | bk (Γ : Gm) | ct (Γ : Gm) | ex (x : Xd) (Γ : Gm) | no
/-- a call's end: the result, the owned arguments behind it -/
inductive FR where
  | rt (d : D) (os : List D) | ex (x : Xd) (os : List D) | no

/-! ### what stands for data -/
def KnL (K : PySem.W.Frag) (a : Addr) (xs : List V) : Prop :=
  ∃ (o : Obj) (its : Array Value) (n : Nat), K.lookup a = some o ∧ o.cls = .type "list" ∧ o.dict = none ∧ o.data = .seq its n ∧ its.size ≤ sizeLine ∧ Vals xs its.toList
def KnT (K : PySem.W.Frag) (a : Addr) (xs : List V) : Prop :=
  ∃ (o : Obj) (its : Array Value) (n : Nat), K.lookup a = some o ∧ o.cls = .type "tuple" ∧ o.data = .seq its n ∧ its.size ≤ sizeLine ∧ Vals xs its.toList
def FL (K : PySem.W.Frag) (Z : Addr → Prop) (H : Hp) (a : Addr) (xs : List V) : Prop := (Rd H a (.lst xs) ∧ Z a) ∨ KnL K a xs
def FT (K : PySem.W.Frag) (Z : Addr → Prop) (H : Hp) (a : Addr) (xs : List V) : Prop := H a = some (.tup xs) ∧ Z a
theorem FL.sq {K : PySem.W.Frag} {Z : Addr → Prop} {H : Hp} {a : Addr} {xs : List V} (h : FL K Z H a xs) : SqL K H a xs := h.elim (fun h => .inl h.1) .inr
theorem FT.sq {K : PySem.W.Frag} {Z : Addr → Prop} {H : Hp} {a : Addr} {xs : List V} (h : FT K Z H a xs) : SqT K H a xs := .inl (.inl h.1)

def keyD : D → Option Key
  | .int i => some (.inl i)
  | .str s => some (.inr s)
  | _ => none
def keysD : List D → Option (List Key)
  | [] => some []
  | d :: ds => match keyD d, keysD ds with
    | some k, some ks => some (k :: ks)
    | _, _ => none

mutual
inductive Rp (K : PySem.W.Frag) (mg : Str → Option Value) (Z : Addr → Prop) (H : Hp) : D → V → Prop
  | non : Rp K mg Z H .non .non
  | bl (b : Bool) : Rp K mg Z H (.bl b) (.bl b)
  | int (i : Int) : Rp K mg Z H (.int i) (.int i)
  | str (s : Str) : Rp K mg Z H (.str s) (.str s)
  | tup {a : Addr} {ds : List D} {vs : List V} : FT K Z H a vs → Rps K mg Z H ds vs → Rp K mg Z H (.tup ds) (.ref a)
  | lst {a : Addr} {ds : List D} {vs : List V} : FL K Z H a vs → Rps K mg Z H ds vs → Rp K mg Z H (.lst ds) (.ref a)
  | dctK {a : Addr} {ds : List (D × D)} {kvs : List (Key × V)} : H a = some (.dK kvs) → Z a → Rpk K mg Z H ds kvs → Rp K mg Z H (.dct ds) (.ref a)
  | dctT {a : Addr} {ds : List (D × D)} {kvs : List (List Key × V)} : H a = some (.dT kvs) → Z a → Rpt K mg Z H ds kvs → Rp K mg Z H (.dtt ds) (.ref a)
  | obj {a C dx : Addr} {c : Str} {ds : List (Str × D)} {fs : List (Str × V)} : mg c = some (.ref C) → H a = some (.ins C dx fs) → Z a → Rpf K mg Z H ds fs → Rp K mg Z H (.obj c ds) (.ref a)
  | glo {a : Addr} {x : Str} : mg x = some (.ref a) → Rp K mg Z H (.glo x) (.ref a)
inductive Rps (K : PySem.W.Frag) (mg : Str → Option Value) (Z : Addr → Prop) (H : Hp) : List D → List V → Prop
  | nil : Rps K mg Z H [] []
  | cons {d : D} {ds : List D} {v : V} {vs : List V} : Rp K mg Z H d v → Rps K mg Z H ds vs → Rps K mg Z H (d :: ds) (v :: vs)
inductive Rpk (K : PySem.W.Frag) (mg : Str → Option Value) (Z : Addr → Prop) (H : Hp) : List (D × D) → List (Key × V) → Prop
  | nil : Rpk K mg Z H [] []
  | cons {k d : D} {q : Key} {ds : List (D × D)} {v : V} {vs : List (Key × V)} : keyD k = some q → Rp K mg Z H d v → Rpk K mg Z H ds vs → Rpk K mg Z H ((k, d) :: ds) ((q, v) :: vs)
inductive Rpt (K : PySem.W.Frag) (mg : Str → Option Value) (Z : Addr → Prop) (H : Hp) : List (D × D) → List (List Key × V) → Prop
  | nil : Rpt K mg Z H [] []
  | cons {k : List D} {d : D} {q : List Key} {ds : List (D × D)} {v : V} {vs : List (List Key × V)} : keysD k = some q → Rp K mg Z H d v → Rpt K mg Z H ds vs → Rpt K mg Z H ((.tup k, d) :: ds) ((q, v) :: vs)
inductive Rpf (K : PySem.W.Frag) (mg : Str → Option Value) (Z : Addr → Prop) (H : Hp) : List (Str × D) → List (Str × V) → Prop
  | nil : Rpf K mg Z H [] []
  | cons {f : Str} {d : D} {ds : List (Str × D)} {v : V} {vs : List (Str × V)} : Rp K mg Z H d v → Rpf K mg Z H ds vs → Rpf K mg Z H ((f, d) :: ds) ((f, v) :: vs)
end

/-- nothing frozen is changed -/
structure Ag (Z Z' : Addr → Prop) (H H' : Hp) : Prop where
  zs : ∀ a, Z a → Z' a
  eq : ∀ a, Z a → H' a = H a
section
variable {K : PySem.W.Frag} {mg : Str → Option Value} {Z Z' : Addr → Prop} {H H' : Hp}
theorem Ag.rd {a : Addr} {u : HO} (g : Ag Z Z' H H') (z : Z a) (h : Rd H a u) : Rd H' a u := by
  unfold Rd at h ⊢
  rw [g.eq a z]; exact h
theorem FL.ag {a : Addr} {vs : List V} (h : FL K Z H a vs) (g : Ag Z Z' H H') : FL K Z' H' a vs := h.elim (fun h => .inl ⟨g.rd h.2 h.1, g.zs a h.2⟩) .inr
theorem FT.ag {a : Addr} {vs : List V} (h : FT K Z H a vs) (g : Ag Z Z' H H') : FT K Z' H' a vs := ⟨(g.eq a h.2).trans h.1, g.zs a h.2⟩
mutual
theorem Rp.ag (g : Ag Z Z' H H') : ∀ {d : D} {v : V}, Rp K mg Z H d v → Rp K mg Z' H' d v
  | _, _, .non => .non
  | _, _, .bl b => .bl b
  | _, _, .int i => .int i
  | _, _, .str s => .str s
  | _, _, .tup h r => .tup (h.ag g) (Rps.ag g r)
  | _, _, .lst h r => .lst (h.ag g) (Rps.ag g r)
  | _, _, .dctK h z r => .dctK ((g.eq _ z).trans h) (g.zs _ z) (Rpk.ag g r)
  | _, _, .dctT h z r => .dctT ((g.eq _ z).trans h) (g.zs _ z) (Rpt.ag g r)
  | _, _, .obj m h z r => .obj m ((g.eq _ z).trans h) (g.zs _ z) (Rpf.ag g r)
  | _, _, .glo m => .glo m
theorem Rps.ag (g : Ag Z Z' H H') : ∀ {d : List D} {v : List V}, Rps K mg Z H d v → Rps K mg Z' H' d v
  | _, _, .nil => .nil
  | _, _, .cons h r => .cons (Rp.ag g h) (Rps.ag g r)
theorem Rpk.ag (g : Ag Z Z' H H') : ∀ {d : List (D × D)} {v : List (Key × V)}, Rpk K mg Z H d v → Rpk K mg Z' H' d v
  | _, _, .nil => .nil
  | _, _, .cons q h r => .cons q (Rp.ag g h) (Rpk.ag g r)
theorem Rpt.ag (g : Ag Z Z' H H') : ∀ {d : List (D × D)} {v : List (List Key × V)}, Rpt K mg Z H d v → Rpt K mg Z' H' d v
  | _, _, .nil => .nil
  | _, _, .cons q h r => .cons q (Rp.ag g h) (Rpt.ag g r)
theorem Rpf.ag (g : Ag Z Z' H H') : ∀ {d : List (Str × D)} {v : List (Str × V)}, Rpf K mg Z H d v → Rpf K mg Z' H' d v
  | _, _, .nil => .nil
  | _, _, .cons h r => .cons (Rp.ag g h) (Rpf.ag g r)
end
end

section
variable {K : PySem.W.Frag} {mg : Str → Option Value} {Z Z' : Addr → Prop} {H H' : Hp}
theorem Rps.length : ∀ {ds : List D} {vs : List V}, Rps K mg Z H ds vs → ds.length = vs.length
  | _, _, .nil => rfl
  | _, _, .cons _ r => by simp [Rps.length r]
theorem Rps.get : ∀ {ds : List D} {vs : List V} {i : Nat} {d : D}, Rps K mg Z H ds vs → ds[i]? = some d → ∃ v, vs[i]? = some v ∧ Rp K mg Z H d v
  | _, _, _, _, .nil, e => by simp at e
  | _, _, 0, _, .cons r _, e => by simp at e; subst e; exact ⟨_, rfl, r⟩
  | _, _, i + 1, _, .cons _ t, e => by
    obtain ⟨v, h1, h2⟩ := Rps.get (i := i) t (by simpa using e)
    exact ⟨v, by simpa using h1, h2⟩
theorem Rps.append : ∀ {ds es : List D} {vs ws : List V}, Rps K mg Z H ds vs → Rps K mg Z H es ws → Rps K mg Z H (ds ++ es) (vs ++ ws)
  | _, _, _, _, .nil, s => s
  | _, _, _, _, .cons r t, s => .cons r (Rps.append t s)
theorem Rps.take : ∀ {ds : List D} {vs : List V} (n : Nat), Rps K mg Z H ds vs → Rps K mg Z H (ds.take n) (vs.take n)
  | _, _, 0, _ => .nil
  | _, _, _ + 1, .nil => .nil
  | _, _, n + 1, .cons r t => .cons r (Rps.take n t)
theorem Rps.drop : ∀ {ds : List D} {vs : List V} (n : Nat), Rps K mg Z H ds vs → Rps K mg Z H (ds.drop n) (vs.drop n)
  | _, _, 0, r => r
  | _, _, _ + 1, .nil => .nil
  | _, _, n + 1, .cons _ t => Rps.drop n t
theorem Rps.set {d : D} {v : V} (r : Rp K mg Z H d v) : ∀ {ds : List D} {vs : List V} (i : Nat), Rps K mg Z H ds vs → Rps K mg Z H (ds.set i d) (vs.set i v)
  | _, _, _, .nil => .nil
  | _, _, 0, .cons _ t => .cons r t
  | _, _, i + 1, .cons q t => .cons q (Rps.set r i t)
theorem Rps.reverse : ∀ {ds : List D} {vs : List V}, Rps K mg Z H ds vs → Rps K mg Z H ds.reverse vs.reverse
  | _, _, .nil => .nil
  | _, _, .cons r t => by rw [List.reverse_cons, List.reverse_cons]; exact Rps.append (Rps.reverse t) (.cons r .nil)
theorem Rps.rep {ds : List D} {vs : List V} (h : Rps K mg Z H ds vs) : ∀ k : Nat, Rps K mg Z H (List.replicate k ds).flatten (List.replicate k vs).flatten
  | 0 => .nil
  | k + 1 => by
    rw [List.replicate_succ, List.replicate_succ, List.flatten_cons, List.flatten_cons]
    exact Rps.append h (Rps.rep h k)
theorem Rps.eraseIdx : ∀ {ds : List D} {vs : List V} (i : Nat), Rps K mg Z H ds vs → Rps K mg Z H (ds.eraseIdx i) (vs.eraseIdx i)
  | _, _, _, .nil => .nil
  | _, _, 0, .cons _ t => t
  | _, _, i + 1, .cons r t => .cons r (Rps.eraseIdx i t)
theorem Rpf.lookup : ∀ {ds : List (Str × D)} {fs : List (Str × V)} {f : Str} {d : D}, Rpf K mg Z H ds fs → ds.lookup f = some d → ∃ v, fs.lookup f = some v ∧ Rp K mg Z H d v
  | _, _, _, _, .nil, e => by simp at e
  | _, _, f, d, .cons (f := g) r t, e => by
    rw [List.lookup_cons] at e ⊢
    split at e
    · cases e; exact ⟨_, rfl, r⟩
    · exact Rpf.lookup t e
theorem Rpf.lookup_none : ∀ {ds : List (Str × D)} {fs : List (Str × V)} {f : Str}, Rpf K mg Z H ds fs → ds.lookup f = none → fs.lookup f = none
  | _, _, _, .nil, _ => rfl
  | _, _, f, .cons (f := g) r t, e => by
    rw [List.lookup_cons] at e ⊢
    split at e
    · cases e
    · exact Rpf.lookup_none t e
theorem Rpf.length : ∀ {ds : List (Str × D)} {fs : List (Str × V)}, Rpf K mg Z H ds fs → ds.length = fs.length
  | _, _, .nil => rfl
  | _, _, .cons _ t => by simp [Rpf.length t]
end

/-! ### owned things: a list, a dict, an object that one slot alone holds -/
inductive Ow (K : PySem.W.Frag) (mg : Str → Option Value) (Z : Addr → Prop) (H : Hp) (a : Addr) : D → Prop
  | lst {ds : List D} {vs : List V} : H a = some (.lst vs) → Rps K mg Z H ds vs → Ow K mg Z H a (.lst ds)
  | dctK {ds : List (D × D)} {kvs : List (Key × V)} : H a = some (.dK kvs) → Rpk K mg Z H ds kvs → Ow K mg Z H a (.dct ds)
  | dctT {ds : List (D × D)} {kvs : List (List Key × V)} : H a = some (.dT kvs) → Rpt K mg Z H ds kvs → Ow K mg Z H a (.dtt ds)
  | obj {C dx : Addr} {c : Str} {ds : List (Str × D)} {fs : List (Str × V)} : mg c = some (.ref C) → H a = some (.ins C dx fs) → Rpf K mg Z H ds fs → Ow K mg Z H a (.obj c ds)
section
variable {K : PySem.W.Frag} {mg : Str → Option Value} {Z Z' : Addr → Prop} {H H' : Hp} {a : Addr} {d : D}
theorem Ow.ag (g : Ag Z Z' H H') (e : H' a = H a) (h : Ow K mg Z H a d) : Ow K mg Z' H' a d := by
  cases h with
  | lst h r => exact .lst (e.trans h) (Rps.ag g r)
  | dctK h r => exact .dctK (e.trans h) (Rpk.ag g r)
  | dctT h r => exact .dctT (e.trans h) (Rpt.ag g r)
  | obj m h r => exact .obj m (e.trans h) (Rpf.ag g r)
theorem Ow.there (h : Ow K mg Z H a d) : ∃ o, H a = some o := by
  cases h with
  | lst h r => exact ⟨_, h⟩
  | dctK h r => exact ⟨_, h⟩
  | dctT h r => exact ⟨_, h⟩
  | obj m h r => exact ⟨_, h⟩
theorem Ow.ntup (h : Ow K mg Z H a d) (xs : List V) : H a ≠ some (.tup xs) := by
  cases h with
  | lst h r => rw [h]; intro z; cases z
  | dctK h r => rw [h]; intro z; cases z
  | dctT h r => rw [h]; intro z; cases z
  | obj m h r => rw [h]; intro z; cases z
/-- frozen -/
theorem Ow.rp (h : Ow K mg Z H a d) (z : Z a) : Rp K mg Z H d (.ref a) := by
  cases h with
  | lst h r => exact .lst (.inl ⟨.inl h, z⟩) r
  | dctK h r => exact .dctK h z r
  | dctT h r => exact .dctT h z r
  | obj m h r => exact .obj m h z r
end

/-! ### the state of a body -/
/-- what is frozen stands; every tuple is -/
def Zd (Z : Addr → Prop) (H : Hp) : Prop := (∀ a, Z a → ∃ o, H a = some o) ∧ ∀ a xs, H a = some (.tup xs) → Z a
abbrev Sg := List (Option V)
/-- the entry: what was frozen, the heap, the owned arguments (slot, address) -/
structure Sx where
  Z0 : Addr → Prop
  H0 : Hp
  PM : List (Nat × Addr)
  An : (Addr → Prop) → Hp → Prop
  anc : ∀ Z Z' H H', An Z H → Ag Z Z' H H' → An Z' H'
  Fx : List (Nat × V)
def Sx.M (S : Sx) (a : Addr) : Prop := ∃ i, (i, a) ∈ S.PM
/-- a slot that may be set anew -/
structure Sx.Nf (S : Sx) (i : Nat) : Prop where
  p : ∀ a, (i, a) ∉ S.PM
  f : ∀ v, (i, v) ∉ S.Fx
abbrev Fl := List Bool
def own (Δ : Fl) (i : Nat) : Prop := Δ[i]? = some true
theorem Zd.frz {Z : Addr → Prop} {H : Hp} {p : Addr} {o : HO} (zd : Zd Z H) : Zd (fun x => Z x ∨ x = p) (upd H p o) := ⟨fun x z => by
  by_cases h : x = p
  · exact ⟨o, by rw [h, upd_same]⟩
  · rw [upd_ne h]; exact zd.1 x (z.resolve_right h), fun x xs e => by
  by_cases h : x = p
  · exact .inr h
  · rw [upd_ne h] at e; exact .inl (zd.2 x xs e)⟩
theorem Zd.upd {Z : Addr → Prop} {H : Hp} {p : Addr} {o : HO} (zd : Zd Z H) (ho : ∀ xs, o ≠ .tup xs) : Zd Z (L2.upd H p o) := ⟨fun x z => by
  by_cases h : x = p
  · exact ⟨o, by rw [h, upd_same]⟩
  · rw [upd_ne h]; exact zd.1 x z, fun x xs e => by
  by_cases h : x = p
  · rw [h, upd_same] at e; cases e; exact absurd rfl (ho xs)
  · rw [upd_ne h] at e; exact zd.2 x xs e⟩
theorem Zd.more {Z Z' : Addr → Prop} {H : Hp} (zd : Zd Z H) (h : ∀ a, Z a → Z' a) (h' : ∀ a, Z' a → Z a ∨ ∃ o, H a = some o) : Zd Z' H := ⟨fun x z => (h' x z).elim (zd.1 x) id, fun x xs e => h x (zd.2 x xs e)⟩
structure SR (K : PySem.W.Frag) (mg : Str → Option Value) (S : Sx) (Δ : Fl) (Z : Addr → Prop) (Γ : Gm) (σ : Sg) (H : Hp) : Prop where
  len : Γ.length = σ.length
  dl : Δ.length = Γ.length
  zd : Zd Z H
  z0 : ∀ a, S.Z0 a → Z a
  keep : ∀ a o, S.H0 a = some o → ¬ S.M a → H a = some o
  new : ∀ a, Z a → S.Z0 a ∨ S.H0 a = none
  im : ∀ i d, Γ[i]? = some (some d) → ¬ own Δ i → ∃ v, σ[i]? = some (some v) ∧ Rp K mg Z H d v
  ow : ∀ i d, Γ[i]? = some (some d) → own Δ i → ∃ a : Addr, σ[i]? = some (some (V.ref a)) ∧ Ow K mg Z H a d ∧ ¬ Z a ∧ (S.M a ∨ S.H0 a = none)
  ap : ∀ i j d e (a : Addr), i ≠ j → Γ[i]? = some (some d) → own Δ i → Γ[j]? = some (some e) → own Δ j → σ[i]? = some (some (V.ref a)) → σ[j]? ≠ some (some (V.ref a))
  par : ∀ i (a : Addr), (i, a) ∈ S.PM → σ[i]? = some (some (V.ref a)) ∧ own Δ i ∧ ∃ d, Γ[i]? = some (some d)
  an : S.An Z H
  fx : ∀ i v, (i, v) ∈ S.Fx → σ[i]? = some (some v)
/-- the addresses that slots own -/
def OA (Δ : Fl) (Γ : Gm) (σ : Sg) (a : Addr) : Prop := ∃ i d, own Δ i ∧ Γ[i]? = some (some d) ∧ σ[i]? = some (some (V.ref a))
/-- from one state to a later one, the slots as they are; O: what may change -/
structure Gr (O : Addr → Prop) (Z Z' : Addr → Prop) (H H' : Hp) : Prop where
  zs : ∀ a, Z a → Z' a
  kp : ∀ a o, H a = some o → ¬ O a → H' a = some o
  nw : ∀ a, Z' a → Z a ∨ O a ∨ H a = none
  th : ∀ a o, H a = some o → ∃ o', H' a = some o'
  zd : Zd Z' H'
/-- .. where nothing that stood is changed -/
abbrev Gr0 := Gr (fun _ => False)
section
variable {O O' : Addr → Prop} {Z Z1 Z2 : Addr → Prop} {H H1 H2 : Hp}
theorem Gr.refl (zd : Zd Z H) : Gr O Z Z H H := ⟨fun _ z => z, fun _ _ e _ => e, fun _ z => .inl z, fun _ o e => ⟨o, e⟩, zd⟩
theorem Gr.trans (a : Gr O Z Z1 H H1) (b : Gr O' Z1 Z2 H1 H2) (h : ∀ x, O' x → O x ∨ H x = none) : Gr O Z Z2 H H2 where
  zs := fun x z => b.zs x (a.zs x z)
  kp := fun x o e n => b.kp x o (a.kp x o e n) fun z => by
    rcases h x z with q | q
    · exact n q
    · rw [e] at q; cases q
  nw := fun x z => by
    rcases b.nw x z with q | q | q
    · exact a.nw x q
    · rcases h x q with r | r
      · exact .inr (.inl r)
      · exact .inr (.inr r)
    · cases e : H x with
      | none => exact .inr (.inr rfl)
      | some o =>
        obtain ⟨o', e'⟩ := a.th x o e
        rw [q] at e'; cases e'
  th := fun x o e => by
    obtain ⟨o', e'⟩ := a.th x o e
    exact b.th x o' e'
  zd := b.zd
theorem Gr.trans' (a : Gr O Z Z1 H H1) (b : Gr O Z1 Z2 H1 H2) : Gr O Z Z2 H H2 := a.trans b fun _ o => .inl o
theorem Gr.wide (a : Gr O Z Z1 H H1) (h : ∀ x, O x → O' x) : Gr O' Z Z1 H H1 :=
  ⟨a.zs, fun x o e n => a.kp x o e fun z => n (h x z), fun x z => (a.nw x z).imp id (Or.imp (h x) id), a.th, a.zd⟩
theorem Gr.ag (a : Gr O Z Z1 H H1) (hz : ∀ x, Z x → ¬ O x) (zd : Zd Z H) : Ag Z Z1 H H1 := ⟨a.zs, fun x z => by
  obtain ⟨o, e⟩ := zd.1 x z
  rw [e, a.kp x o e (hz x z)]⟩
theorem Gr.ag0 (a : Gr0 Z Z1 H H1) (zd : Zd Z H) : Ag Z Z1 H H1 := Gr.ag a (fun _ _ z => z) zd
/-- a new thing, frozen -/
theorem Gr0.frz {p : Addr} {o : HO} (n : H p = none) (zd : Zd Z H) : Gr0 Z (fun x => Z x ∨ x = p) H (upd H p o) :=
  ⟨fun _ z => .inl z, fun x u e _ => by rw [upd_ne (ne_of_none e n)]; exact e, fun x z => z.elim .inl fun e => .inr (.inr (by rw [e]; exact n)), fun x u e => ⟨u, by rw [upd_ne (ne_of_none e n)]; exact e⟩, zd.frz⟩
/-- a new thing, not frozen -/
theorem Gr0.lay {p : Addr} {o : HO} (n : H p = none) (zd : Zd Z H) (ho : ∀ xs, o ≠ .tup xs := by intro _ z; cases z) : Gr0 Z Z H (upd H p o) :=
  ⟨fun _ z => z, fun x u e _ => by rw [upd_ne (ne_of_none e n)]; exact e, fun x z => .inl z, fun x u e => ⟨u, by rw [upd_ne (ne_of_none e n)]; exact e⟩, zd.upd ho⟩
end
section
variable {K : PySem.W.Frag} {mg : Str → Option Value} {S : Sx} {Δ : Fl} {Z Z' : Addr → Prop} {Γ : Gm} {σ : Sg} {H H' : Hp}
theorem SR.zO (s : SR K mg S Δ Z Γ σ H) : ∀ x, Z x → ¬ OA Δ Γ σ x := by
  rintro x z ⟨i, d, o, e, q⟩
  obtain ⟨a, ha, _, nz, _⟩ := s.ow i d e o
  rw [q] at ha; cases ha
  exact nz z
theorem SR.ag {O : Addr → Prop} (s : SR K mg S Δ Z Γ σ H) (g : Gr O Z Z' H H') (h : ∀ x, O x → OA Δ Γ σ x) : Ag Z Z' H H' := g.ag (fun x z o => s.zO x z (h x o)) s.zd
theorem SR.agO (s : SR K mg S Δ Z Γ σ H) (g : Gr (OA Δ Γ σ) Z Z' H H') : Ag Z Z' H H' := s.ag g fun _ o => o
/-- what is owned stands -/
theorem SR.oaThere (s : SR K mg S Δ Z Γ σ H) {a : Addr} (h : OA Δ Γ σ a) : ∃ o, H a = some o := by
  obtain ⟨i, d, o, e, q⟩ := h
  obtain ⟨b, hb, w, _⟩ := s.ow i d e o
  rw [q] at hb; cases hb
  exact w.there
/-- an owned argument stands, owned -/
theorem SR.mOA (s : SR K mg S Δ Z Γ σ H) {a : Addr} (h : S.M a) : OA Δ Γ σ a := by
  obtain ⟨i, m⟩ := h
  obtain ⟨q, o, d, e⟩ := s.par i a m
  exact ⟨i, d, o, e, q⟩
/-- what is new now was new at the entry -/
theorem SR.fresh (s : SR K mg S Δ Z Γ σ H) {a : Addr} (h : H a = none) : S.H0 a = none := by
  cases e : S.H0 a with
  | none => rfl
  | some o =>
    by_cases m : S.M a
    · obtain ⟨u, hu⟩ := s.oaThere (s.mOA m)
      rw [h] at hu; cases hu
    · rw [s.keep a o e m] at h; cases h
theorem SR.freshO (s : SR K mg S Δ Z Γ σ H) {a : Addr} (h : H a = none) : ¬ OA Δ Γ σ a := fun o => by
  obtain ⟨u, hu⟩ := s.oaThere o
  rw [h] at hu; cases hu
theorem SR.freshZ (s : SR K mg S Δ Z Γ σ H) {a : Addr} (h : H a = none) : ¬ Z a := fun z => by
  obtain ⟨u, hu⟩ := s.zd.1 a z
  rw [h] at hu; cases hu
/-- nothing that stood was changed: the state stands -/
theorem SR.gr0 (s : SR K mg S Δ Z Γ σ H) (g : Gr0 Z Z' H H') : SR K mg S Δ Z' Γ σ H' := by
  have ag := g.ag0 s.zd
  have nw : ∀ a, Z' a → Z a ∨ H a = none := fun a z => (g.nw a z).imp id fun q => q.elim False.elim id
  refine ⟨s.len, s.dl, g.zd, fun a z => g.zs a (s.z0 a z), fun a o e m => g.kp a o (s.keep a o e m) id, fun a z => ?_, fun i d e o => ?_, fun i d e o => ?_, s.ap, s.par, S.anc _ _ _ _ s.an ag, s.fx⟩
  · rcases nw a z with q | q
    · exact s.new a q
    · exact .inr (s.fresh q)
  · obtain ⟨v, hv, r⟩ := s.im i d e o
    exact ⟨v, hv, r.ag ag⟩
  · obtain ⟨a, ha, w, nz, m⟩ := s.ow i d e o
    obtain ⟨u, hu⟩ := w.there
    refine ⟨a, ha, w.ag ag (by rw [g.kp a u hu id, hu]), fun z => ?_, m⟩
    rcases nw a z with q | q
    · exact nz q
    · rw [hu] at q; cases q
end
end DL
/-! DL2: readings by functions; what a result is; expressions. -/
namespace DL
open PySem PySem.Spec PyProof.Rows L2

def Post {α : Type} (r : R α) (P : α → Gm → Prop) (C : Xd → Gm → Prop) : Prop := match r with
  | .ok a Γ => P a Γ
  | .ex x Γ => C x Γ
  | .no => False
theorem Post.mono {α : Type} {r : R α} {P P' : α → Gm → Prop} {C C' : Xd → Gm → Prop} (h : Post r P C) (hp : ∀ a Γ, P a Γ → P' a Γ) (hc : ∀ x Γ, C x Γ → C' x Γ) : Post r P' C' := by
  cases r with
  | ok a Γ => exact hp a Γ h
  | ex x Γ => exact hc x Γ h
  | no => exact h
theorem Post.bind {α β : Type} {r : R α} {f : α → Gm → R β} {P : β → Gm → Prop} {C : Xd → Gm → Prop} (h : Post (r.bind f) P C) : Post r (fun a Γ => Post (f a Γ) P C) C := by
  cases r with
  | ok a Γ => exact h
  | ex x Γ => exact h
  | no => exact h
theorem Post.of {α : Type} {o : Option α} {Γ : Gm} {P : α → Gm → Prop} {C : Xd → Gm → Prop} (h : Post (R.of o Γ) P C) : ∃ a, o = some a ∧ P a Γ := by
  cases o with
  | some a => exact ⟨a, rfl, h⟩
  | none => exact h.elim

/-- how a result stands: frozen | owned by nobody yet | it is what slot i holds -/
inductive Kd where
  | im | ow | sl (i : Nat)
section
variable (K : PySem.W.Frag) (mg : Str → Option Value)
def Kr (Hs : Hp) (Δ : Fl) (Z : Addr → Prop) (Γ : Gm) (σ : Sg) (H : Hp) : Kd → D → V → Prop
  | .im, d, v => Rp K mg Z H d v
  | .ow, d, v => ∃ a : Addr, v = .ref a ∧ Ow K mg Z H a d ∧ ¬ Z a ∧ ¬ OA Δ Γ σ a ∧ Hs a = none
  | .sl i, d, v => Γ[i]? = some (some d) ∧ σ[i]? = some (some v)
/-- a value that may be looked into -/
inductive Pk (Z : Addr → Prop) (H : Hp) : D → V → Prop
  | rp {d : D} {v : V} : Rp K mg Z H d v → Pk Z H d v
  | ow {d : D} {a : Addr} : Ow K mg Z H a d → Pk Z H d (.ref a)
/-- an exception as data -/
def Xr (Z : Addr → Prop) (H : Hp) (x : Xd) (cls : Value) (dd : Option Addr) : Prop :=
  ∃ C : Addr, cls = .ref C ∧ mg x.c = some (.ref C) ∧ ((x.fs = [] ∧ dd = none) ∨ ∃ (d : Addr) (fs : List (Str × V)), dd = some d ∧ H d = some (.xd fs) ∧ Z d ∧ Rpf K mg Z H x.fs fs)
structure Go (S : Sx) (σ : Sg) (Δ : Fl) (Z : Addr → Prop) (Γ : Gm) (H : Hp) (Δ' : Fl) (Z' : Addr → Prop) (Γ' : Gm) (H' : Hp) : Prop where
  s : SR K mg S Δ' Z' Γ' σ H'
  g : Gr (OA Δ Γ σ) Z Z' H H'
  o : ∀ x, OA Δ' Γ' σ x → OA Δ Γ σ x
end
section
variable {K : PySem.W.Frag} {mg : Str → Option Value} {S : Sx} {σ : Sg} {Δ Δ1 Δ2 : Fl} {Z Z1 Z2 : Addr → Prop} {Γ Γ1 Γ2 : Gm} {H H1 H2 : Hp} {k : Kd} {d : D} {v : V}
theorem Go.refl (s : SR K mg S Δ Z Γ σ H) : Go K mg S σ Δ Z Γ H Δ Z Γ H := ⟨s, .refl s.zd, fun _ h => h⟩
theorem Go.trans (a : Go K mg S σ Δ Z Γ H Δ1 Z1 Γ1 H1) (b : Go K mg S σ Δ1 Z1 Γ1 H1 Δ2 Z2 Γ2 H2) : Go K mg S σ Δ Z Γ H Δ2 Z2 Γ2 H2 :=
  ⟨b.s, a.g.trans b.g fun x o => .inl (a.o x o), fun x o => a.o x (b.o x o)⟩
theorem Go.gr0 (s : SR K mg S Δ Z Γ σ H) (g : Gr0 Z Z1 H H1) : Go K mg S σ Δ Z Γ H Δ Z1 Γ H1 := ⟨s.gr0 g, g.wide fun _ z => z.elim, fun _ h => h⟩
theorem Go.ag (a : Go K mg S σ Δ Z Γ H Δ1 Z1 Γ1 H1) (s : SR K mg S Δ Z Γ σ H) : Ag Z Z1 H H1 := s.agO a.g
def NotSl : Kd → Prop
  | .sl _ => False
  | _ => True
/-- a held result through a later step -/
theorem Kr.lift {Hs : Hp} (s : SR K mg S Δ Z Γ σ H) (a : Go K mg S σ Δ Z Γ H Δ1 Z1 Γ1 H1) (h : Kr K mg Hs Δ Z Γ σ H k d v) (hk : ∀ i, k = .sl i → Γ1[i]? = Γ[i]?) : Kr K mg Hs Δ1 Z1 Γ1 σ H1 k d v := by
  cases k with
  | im => exact Rp.ag (a.ag s) h
  | ow =>
    obtain ⟨p, e, w, nz, no, n0⟩ := h
    obtain ⟨u, hu⟩ := w.there
    refine ⟨p, e, w.ag (a.ag s) ?_, fun z => ?_, fun o => no (a.o _ o), n0⟩
    · rw [a.g.kp p u hu no, hu]
    · rcases a.g.nw p z with q | q | q
      · exact nz q
      · exact no q
      · rw [hu] at q; cases q
  | sl i =>
    obtain ⟨e1, e2⟩ := h
    exact ⟨(hk i rfl).trans e1, e2⟩
/-- seen from an earlier heap -/
theorem Kr.start {Hs Hs' : Hp} (h : Kr K mg Hs Δ Z Γ σ H k d v) (th : ∀ a o, Hs' a = some o → ∃ o', Hs a = some o') : Kr K mg Hs' Δ Z Γ σ H k d v := by
  cases k with
  | im => exact h
  | ow =>
    obtain ⟨p, e, w, nz, no, n0⟩ := h
    refine ⟨p, e, w, nz, no, ?_⟩
    cases q : Hs' p with
    | none => rfl
    | some o =>
      obtain ⟨o', e'⟩ := th p o q
      rw [n0] at e'; cases e'
  | sl i => exact h
theorem Kr.pk {Hs : Hp} (s : SR K mg S Δ Z Γ σ H) (h : Kr K mg Hs Δ Z Γ σ H k d v) : Pk K mg Z H d v := by
  cases k with
  | im => exact .rp h
  | ow => obtain ⟨p, rfl, w, _⟩ := h; exact .ow w
  | sl i =>
    obtain ⟨e1, e2⟩ := h
    by_cases o : own Δ i
    · obtain ⟨a, ha, w, _⟩ := s.ow i d e1 o
      rw [e2] at ha; cases ha
      exact .ow w
    · obtain ⟨u, hu, r⟩ := s.im i d e1 o
      rw [e2] at hu; cases hu
      exact .rp r
end

/-! ### the judgements -/
def rdE (K : PySem.W.Frag) (mg : Str → Option Value) (S : Sx) (C : Xd → Gm → Prop) (Δ : Fl) (m : Gm → R D) (Δ' : Fl) (k : Kd) : TE := fun σ H Q =>
  ∃ Z Γ, SR K mg S Δ Z Γ σ H ∧ Post (m Γ) (fun d Γ' => ∀ Z' H' v, Go K mg S σ Δ Z Γ H Δ' Z' Γ' H' → Kr K mg H Δ' Z' Γ' σ H' k d v → Q v H') C
def rdT (K : PySem.W.Frag) (mg : Str → Option Value) (S : Sx) (C : Xd → Gm → Prop) (Δ : Fl) (m : Gm → R Bool) (Δ' : Fl) : TT := fun σ H Q =>
  ∃ Z Γ, SR K mg S Δ Z Γ σ H ∧ Post (m Γ) (fun b Γ' => ∀ Z' H', Go K mg S σ Δ Z Γ H Δ' Z' Γ' H' → Q b H') C
def Krs (K : PySem.W.Frag) (mg : Str → Option Value) (Hs : Hp) (Δ : Fl) (Z : Addr → Prop) (Γ : Gm) (σ : Sg) (H : Hp) : List Kd → List D → List V → Prop
  | [], [], [] => True
  | k :: ks, d :: ds, v :: vs => Kr K mg Hs Δ Z Γ σ H k d v ∧ Krs K mg Hs Δ Z Γ σ H ks ds vs
  | _, _, _ => False
def rdA (K : PySem.W.Frag) (mg : Str → Option Value) (S : Sx) (C : Xd → Gm → Prop) (Δ : Fl) (m : Gm → R (List D)) (Δ' : Fl) (ks : List Kd) : TA := fun σ H Q =>
  ∃ Z Γ, SR K mg S Δ Z Γ σ H ∧ Post (m Γ) (fun ds Γ' => ∀ Z' H' vs, Go K mg S σ Δ Z Γ H Δ' Z' Γ' H' → Krs K mg H Δ' Z' Γ' σ H' ks ds vs → Q vs H') C
abbrev DE (X : Cx) (S : Sx) (C : Xd → Gm → Prop) (Δ : Fl) (e : Expr) (m : Gm → R D) (Δ' : Fl) (k : Kd) : Prop := PE X e (rdE X.K X.mg S C Δ m Δ' k)
abbrev DT (X : Cx) (S : Sx) (C : Xd → Gm → Prop) (Δ : Fl) (e : Expr) (m : Gm → R Bool) (Δ' : Fl) : Prop := PT X e (rdT X.K X.mg S C Δ m Δ')
abbrev DA (X : Cx) (S : Sx) (C : Xd → Gm → Prop) (Δ : Fl) (es : List Expr) (m : Gm → R (List D)) (Δ' : Fl) (ks : List Kd) : Prop := PA X es (rdA X.K X.mg S C Δ m Δ' ks)
end DL
namespace L2
open PySem PySem.Spec PyProof.Rows
theorem PE.weak {X : Cx} {e : Expr} {t u : TE} (h : PE X e t) (hw : ∀ σ H Q, u σ H Q → t σ H Q) : PE X e u := ⟨fun pins s σ H Q I q => h.run pins s σ H Q I (hw σ H Q q)⟩
theorem PT.weak {X : Cx} {e : Expr} {t u : TT} (h : PT X e t) (hw : ∀ σ H Q, u σ H Q → t σ H Q) : PT X e u := ⟨fun pins s σ H Q I q => h.run pins s σ H Q I (hw σ H Q q)⟩
theorem PA.weak {X : Cx} {e : List Expr} {t u : TA} (h : PA X e t) (hw : ∀ σ H Q, u σ H Q → t σ H Q) : PA X e u := ⟨fun pos pins s σ H Q I q => h.run pos pins s σ H Q I (hw σ H Q q)⟩
theorem PS.weak {X : Cx} {e : Stmt} {t u : TS} (h : PS X e t) (hw : ∀ D σ H, u D σ H → t D σ H) : PS X e u := ⟨fun pins s σ H D I q => h.run pins s σ H D I (hw D σ H q)⟩
theorem PSs.weak {X : Cx} {e : List Stmt} {t u : TS} (h : PSs X e t) (hw : ∀ D σ H, u D σ H → t D σ H) : PSs X e u := ⟨fun pins s σ H D I q => h.run pins s σ H D I (hw D σ H q)⟩

end L2
namespace DL
open PySem PySem.Spec PyProof.Rows L2
/-! ### names, constants -/
def mVar (i : Nat) : Gm → R D := fun Γ => match Γ[i]? with
  | some (some d) => .ok d Γ
  | _ => .no
def mC (d : D) : Gm → R D := fun Γ => .ok d Γ
theorem Post.var {i : Nat} {Γ : Gm} {P : D → Gm → Prop} {C : Xd → Gm → Prop} (h : Post (mVar i Γ) P C) : ∃ d, Γ[i]? = some (some d) ∧ P d Γ := by
  unfold mVar at h
  split at h
  · rename_i d e; exact ⟨d, e, h⟩
  · exact h.elim
section
variable {X : Cx} {S : Sx} {C : Xd → Gm → Prop} {Δ Δ1 Δ2 : Fl}
/-- what a bound slot holds -/
theorem SR.bound {K : PySem.W.Frag} {mg : Str → Option Value} {Z : Addr → Prop} {Γ : Gm} {σ : Sg} {H : Hp} {i : Nat} {d : D} (s : SR K mg S Δ Z Γ σ H) (e : Γ[i]? = some (some d)) : ∃ v, σ[i]? = some (some v) := by
  by_cases o : own Δ i
  · obtain ⟨a, ha, _⟩ := s.ow i d e o; exact ⟨_, ha⟩
  · obtain ⟨v, hv, _⟩ := s.im i d e o; exact ⟨_, hv⟩
/-- a name: what the slot holds -/
theorem de_sl (i : Nat) {x : Str} {pos : Pos} (hN : X.N[i]? = some x := by rfl) (hv : Vis X.env.scope x := by first | exact Or.inl rfl | exact Or.inr (Or.inl rfl) | exact Or.inr (Or.inr rfl)) (hd : (x == ("__debug__" : Str)) = false := by decide)
    (hcd : (x == ("__classdict__" : Str)) = false := by decide) : DE X S C Δ (.Name x pos) (mVar i) Δ (.sl i) :=
  (pe_var hN hv hd hcd).weak fun σ H Q ⟨Z, Γ, s, h⟩ => by
    obtain ⟨d, e, h⟩ := h.var
    obtain ⟨v, hv⟩ := s.bound e
    exact ⟨v, hv, h Z H v (Go.refl s) ⟨e, hv⟩⟩
/-- a name whose slot is not owned -/
theorem de_var (i : Nat) {x : Str} {pos : Pos} (hi : Δ[i]? ≠ some true := by decide) (hN : X.N[i]? = some x := by rfl) (hv : Vis X.env.scope x := by first | exact Or.inl rfl | exact Or.inr (Or.inl rfl) | exact Or.inr (Or.inr rfl)) (hd : (x == ("__debug__" : Str)) = false := by decide)
    (hcd : (x == ("__classdict__" : Str)) = false := by decide) : DE X S C Δ (.Name x pos) (mVar i) Δ .im :=
  (pe_var hN hv hd hcd).weak fun σ H Q ⟨Z, Γ, s, h⟩ => by
    obtain ⟨d, e, h⟩ := h.var
    obtain ⟨v, hv, r⟩ := s.im i d e hi
    exact ⟨v, hv, h Z H v (Go.refl s) r⟩
theorem de_int {i j pos} : DE X S C Δ (.Constant (.int i) j pos) (mC (.int i)) Δ .im := pe_int.weak fun σ H Q ⟨Z, Γ, s, h⟩ => h Z H _ (Go.refl s) (.int i)
theorem de_bl {i j pos} : DE X S C Δ (.Constant (.bool i) j pos) (mC (.bl i)) Δ .im := pe_bl.weak fun σ H Q ⟨Z, Γ, s, h⟩ => h Z H _ (Go.refl s) (.bl i)
theorem de_str {i j pos} : DE X S C Δ (.Constant (.str i) j pos) (mC (.str i)) Δ .im := pe_str.weak fun σ H Q ⟨Z, Γ, s, h⟩ => h Z H _ (Go.refl s) (.str i)
theorem de_non {j pos} : DE X S C Δ (.Constant .none j pos) (mC .non) Δ .im := pe_non.weak fun σ H Q ⟨Z, Γ, s, h⟩ => h Z H _ (Go.refl s) .non
/-- a module's int -/
theorem de_gint {x : Str} {i : Int} {t : Tok} {pos : Pos} (hm : X.mg x = some (.int i t)) (hg : Gl X x := by rfl) (hd : (x == ("__debug__" : Str)) = false := by decide) : DE X S C Δ (.Name x pos) (mC (.int i)) Δ .im :=
  (pe_glob (v := .int i) hg hm ⟨t, rfl⟩ hd).weak fun σ H Q ⟨Z, Γ, s, h⟩ => h Z H _ (Go.refl s) (.int i)

/-! ### freezing -/
/-- slots frozen: those that are owned in Δ and not in Δ' -/
def sub (Δ' Δ : Fl) : Bool := (Δ'.length == Δ.length) && ((List.range (Δ'.length)).all fun i => !(Δ'[i]? == some true) || (Δ[i]? == some true))
theorem sub_len {Δ' Δ : Fl} (h : sub Δ' Δ = true) : Δ'.length = Δ.length := by
  unfold sub at h
  rw [Bool.and_eq_true] at h
  exact beq_iff_eq.mp h.1
theorem sub_ok {Δ' Δ : Fl} (h : sub Δ' Δ = true) (i : Nat) (o : own Δ' i) : own Δ i := by
  unfold sub at h
  rw [Bool.and_eq_true] at h
  have h := h.2
  rw [List.all_eq_true] at h
  have hi : i < Δ'.length := (List.getElem?_eq_some_iff.mp o).1
  have := h i (List.mem_range.mpr hi)
  unfold own at o ⊢
  rw [o] at this
  simpa using this
theorem SR.freeze {K : PySem.W.Frag} {mg : Str → Option Value} {Z : Addr → Prop} {Γ : Gm} {σ : Sg} {H : Hp} {Δ' : Fl} (s : SR K mg S Δ Z Γ σ H) (hs : sub Δ' Δ = true) (hP : ∀ p ∈ S.PM, own Δ' p.1) :
    ∃ Z', SR K mg S Δ' Z' Γ σ H ∧ Gr (OA Δ Γ σ) Z Z' H H ∧ (∀ x, OA Δ' Γ σ x → OA Δ Γ σ x) ∧ (∀ x, Z' x → Z x ∨ (OA Δ Γ σ x ∧ ¬ OA Δ' Γ σ x)) := by
  have sO : ∀ x, OA Δ' Γ σ x → OA Δ Γ σ x := fun x ⟨i, d, o, e, q⟩ => ⟨i, d, sub_ok hs i o, e, q⟩
  refine ⟨fun x => Z x ∨ (OA Δ Γ σ x ∧ ¬ OA Δ' Γ σ x), ?_, ?_, sO, fun _ h => h⟩
  · have ag : Ag Z (fun x => Z x ∨ (OA Δ Γ σ x ∧ ¬ OA Δ' Γ σ x)) H H := ⟨fun _ z => .inl z, fun _ _ => rfl⟩
    refine ⟨s.len, (sub_len hs).trans s.dl, s.zd.more (fun _ z => .inl z) (fun a z => z.imp id fun z => s.oaThere z.1), fun a z => .inl (s.z0 a z), s.keep, fun a z => ?_, fun i d e o => ?_, fun i d e o => ?_, fun i j d e' a hij e1 o1 e2 o2 => s.ap i j d e' a hij e1 (sub_ok hs i o1) e2 (sub_ok hs j o2), fun i a m => ?_, S.anc _ _ _ _ s.an ag, s.fx⟩
    · rcases z with z | ⟨⟨i, d, o, e, q⟩, no⟩
      · exact s.new a z
      · obtain ⟨b, hb, w, nz, hm⟩ := s.ow i d e o
        rw [q] at hb; cases hb
        rcases hm with ⟨j, hm⟩ | hm
        · obtain ⟨q1, o1, d1, e1⟩ := s.par j a hm
          exact absurd ⟨j, d1, hP _ hm, e1, q1⟩ no
        · exact .inr hm
    · by_cases o1 : own Δ i
      · obtain ⟨a, ha, w, nz, hm⟩ := s.ow i d e o1
        refine ⟨_, ha, (w.ag ag rfl).rp (.inr ⟨⟨i, d, o1, e, ha⟩, ?_⟩)⟩
        rintro ⟨j, d2, o2, e2, q2⟩
        by_cases hij : i = j
        · subst hij; exact o o2
        · exact s.ap i j d d2 a hij e o1 e2 (sub_ok hs j o2) ha q2
      · obtain ⟨v, hv, r⟩ := s.im i d e o1
        exact ⟨v, hv, r.ag ag⟩
    · obtain ⟨a, ha, w, nz, hm⟩ := s.ow i d e (sub_ok hs i o)
      exact ⟨a, ha, w.ag ag rfl, fun z => z.elim nz fun z => z.2 ⟨i, d, o, e, ha⟩, hm⟩
    · obtain ⟨q, o, d, e⟩ := s.par i a m
      exact ⟨q, hP _ m, d, e⟩
  · refine ⟨fun _ z => .inl z, fun _ _ e _ => e, fun x z => z.imp id fun z => .inl z.1, fun _ o e => ⟨o, e⟩, s.zd.more (fun _ z => .inl z) (fun a z => z.imp id fun z => s.oaThere z.1)⟩
theorem SR.freezeGo {K : PySem.W.Frag} {mg : Str → Option Value} {Z : Addr → Prop} {Γ : Gm} {σ : Sg} {H : Hp} {Δ' : Fl} (s : SR K mg S Δ Z Γ σ H) (hs : sub Δ' Δ = true) (hP : ∀ p ∈ S.PM, own Δ' p.1) :
    ∃ Z', Go K mg S σ Δ Z Γ H Δ' Z' Γ H := by
  obtain ⟨Z', a, b, c, _⟩ := s.freeze hs hP
  exact ⟨Z', a, b, c⟩
/-- a name whose slot is owned, frozen by the look -/
theorem de_fz {e : Expr} {m : Gm → R D} {i : Nat} {Δ2 : Fl} (h : DE X S C Δ e m Δ1 (.sl i)) (hs : sub Δ2 Δ1 = true) (hi : Δ2[i]? ≠ some true) (hP : ∀ p ∈ S.PM, own Δ2 p.1) : DE X S C Δ e m Δ2 .im :=
  h.weak fun σ H Q ⟨Z, Γ, s, hq⟩ => ⟨Z, Γ, s, hq.mono (fun d Γ1 h1 Z1 H1 v g1 k1 => by
    obtain ⟨Z2, g2⟩ := g1.s.freezeGo hs hP
    obtain ⟨e1, e2⟩ := k1
    obtain ⟨u, hu, r⟩ := g2.s.im i d e1 hi
    rw [e2] at hu; cases hu
    exact h1 Z2 H1 v (g1.trans g2) r) fun _ _ c => c⟩
/-- an owned result, frozen -/
theorem imF {K : PySem.W.Frag} {mg : Str → Option Value} {m : Gm → R D} : ∀ σ H Q, rdE K mg S C Δ m Δ1 .im σ H Q → rdE K mg S C Δ m Δ1 .ow σ H Q :=
  fun σ H Q ⟨Z, Γ, s, hq⟩ => ⟨Z, Γ, s, hq.mono (fun d Γ1 h1 Z1 H1 v g1 k1 => by
    obtain ⟨a, rfl, w, nz, no, n0⟩ := k1
    have ag : Ag Z1 (fun x => Z1 x ∨ x = a) H1 H1 := ⟨fun _ z => .inl z, fun _ _ => rfl⟩
    obtain ⟨u, hu⟩ := w.there
    have s1 := g1.s
    have g : Go K mg S σ Δ Z Γ H Δ1 (fun x => Z1 x ∨ x = a) Γ1 H1 := by
      refine ⟨⟨s1.len, s1.dl, s1.zd.more (fun _ z => .inl z) (fun x z => z.imp id fun e => ⟨u, by rw [e]; exact hu⟩), fun x z => .inl (s1.z0 x z), s1.keep, fun x z => ?_, fun i d e o => ?_, fun i d e o => ?_, s1.ap, s1.par, S.anc _ _ _ _ s1.an ag, s1.fx⟩, ⟨fun x z => .inl (g1.g.zs x z), g1.g.kp, fun x z => ?_, g1.g.th, s1.zd.more (fun _ z => .inl z) (fun x z => z.imp id fun e => ⟨u, by rw [e]; exact hu⟩)⟩, g1.o⟩
      · rcases z with z | rfl
        · exact s1.new x z
        · exact .inr (s.fresh n0)
      · obtain ⟨v, hv, r⟩ := s1.im i d e o
        exact ⟨v, hv, r.ag ag⟩
      · obtain ⟨b, hb, w', nz', m'⟩ := s1.ow i d e o
        refine ⟨b, hb, w'.ag ag rfl, fun z => z.elim nz' fun z => ?_, m'⟩
        subst z
        exact no ⟨i, d, o, e, hb⟩
      · rcases z with z | rfl
        · exact g1.g.nw x z
        · exact .inr (.inr n0)
    exact h1 _ H1 _ g ((w.ag ag rfl).rp (.inr rfl))) fun _ _ c => c⟩
theorem de_im {e : Expr} {m : Gm → R D} (h : DE X S C Δ e m Δ1 .ow) : DE X S C Δ e m Δ1 .im := h.weak imF
end
end DL
/-! DL3: operators, comparisons, tests, arguments. -/
namespace DL
open PySem PySem.Spec PyProof.Rows L2

theorem Post.bind' {α β : Type} {r : R α} {f : α → Gm → R β} {P : β → Gm → Prop} {C : Xd → Gm → Prop} (h : Post (r.bind f) P C) : Post r (fun a Γ => r = .ok a Γ ∧ Post (f a Γ) P C) C := by
  cases r with
  | ok a Γ => exact ⟨rfl, h⟩
  | ex x Γ => exact h
  | no => exact h
/-- what a later part must leave alone, for a held slot -/
def KeepK (k : Kd) (m : Gm → R D) : Prop := ∀ i, k = .sl i → ∀ Γ d Γ', m Γ = .ok d Γ' → Γ'[i]? = Γ[i]?
/-- it changes nothing -/
def Pu (m : Gm → R D) : Prop := ∀ Γ d Γ', m Γ = .ok d Γ' → Γ' = Γ
theorem Pu.k {m : Gm → R D} (h : Pu m) (k : Kd) : KeepK k m := fun i _ Γ d Γ' e => by rw [h Γ d Γ' e]
theorem kim (m : Gm → R D) : KeepK .im m := fun _ e => nomatch e
theorem kow (m : Gm → R D) : KeepK .ow m := fun _ e => nomatch e
theorem pu_var (i : Nat) : Pu (mVar i) := fun Γ d Γ' e => by
  unfold mVar at e
  split at e <;> cases e
  rfl
theorem pu_c (d : D) : Pu (mC d) := fun Γ d Γ' e => by cases e; rfl

def mBin (f : D → D → Option D) (m1 m2 : Gm → R D) : Gm → R D := fun Γ => (m1 Γ).bind fun d Γ1 => (m2 Γ1).bind fun e Γ2 => R.of (f d e) Γ2
def mUn (f : D → Option D) (m1 : Gm → R D) : Gm → R D := fun Γ => (m1 Γ).bind fun d Γ1 => R.of (f d) Γ1
theorem pu_bin {f : D → D → Option D} {m1 m2 : Gm → R D} (h1 : Pu m1) (h2 : Pu m2) : Pu (mBin f m1 m2) := fun Γ d Γ' e => by
  unfold mBin at e
  cases e1 : m1 Γ with
  | ok a Γ1 =>
    rw [e1] at e
    cases e2 : m2 Γ1 with
    | ok b Γ2 =>
      rw [R.bind_ok, e2, R.bind_ok] at e
      cases q : f a b with
      | some u => rw [q] at e; cases e; rw [h2 _ _ _ e2, h1 _ _ _ e1]
      | none => rw [q] at e; cases e
    | ex x Γ2 => rw [R.bind_ok, e2] at e; cases e
    | no => rw [R.bind_ok, e2] at e; cases e
  | ex x Γ2 => rw [e1] at e; cases e
  | no => rw [e1] at e; cases e
theorem pu_un {f : D → Option D} {m1 : Gm → R D} (h1 : Pu m1) : Pu (mUn f m1) := fun Γ d Γ' e => by
  unfold mUn at e
  cases e1 : m1 Γ with
  | ok a Γ1 =>
    rw [e1, R.bind_ok] at e
    cases q : f a with
    | some u => rw [q] at e; cases e; rw [h1 _ _ _ e1]
    | none => rw [q] at e; cases e
  | ex x Γ2 => rw [e1] at e; cases e
  | no => rw [e1] at e; cases e

/-! ### operations on values -/
/-- what an operation hands back: frozen, or owned by nobody yet -/
def ResB (K : PySem.W.Frag) (mg : Str → Option Value) (Hs : Hp) (Z : Addr → Prop) (H : Hp) : Bool → D → V → Prop
  | false, u, v => Rp K mg Z H u v
  | true, u, v => ∃ a : Addr, v = .ref a ∧ Ow K mg Z H a u ∧ ¬ Z a ∧ Hs a = none
def kb : Bool → Kd
  | false => .im
  | true => .ow
def rD2 (K : PySem.W.Frag) (mg : Str → Option Value) (f : D → D → Option D) (b : Bool) : R2 := fun x y H Q =>
  ∃ Z d e u, Zd Z H ∧ Pk K mg Z H d x ∧ Pk K mg Z H e y ∧ f d e = some u ∧ ∀ Z' H' v, Gr0 Z Z' H H' → ResB K mg H Z' H' b u v → Q v H'
def rD1 (K : PySem.W.Frag) (mg : Str → Option Value) (f : D → Option D) (b : Bool) : V → Hp → VK → Prop := fun x H Q =>
  ∃ Z d u, Zd Z H ∧ Pk K mg Z H d x ∧ f d = some u ∧ ∀ Z' H' v, Gr0 Z Z' H H' → ResB K mg H Z' H' b u v → Q v H'
theorem opi {X : Cx} {f : Value → Value → Sem Value} {r r' : R2} (h : OpR X f r) (w : ∀ x y H Q, r' x y H Q → r x y H Q) : OpR X f r' :=
  fun pins s σ H x y v u Q I rx ry q => h pins s σ H x y v u Q I rx ry (w x y H Q q)
section
variable {K : PySem.W.Frag} {mg : Str → Option Value} {S : Sx} {σ : Sg} {Δ Δ1 Δ2 : Fl} {Z Z1 Z2 : Addr → Prop} {Γ Γ1 Γ2 : Gm} {H H1 H2 : Hp} {k k1 k2 : Kd} {d e : D} {v : V} {C : Xd → Gm → Prop}
theorem ResB.kr {Hs : Hp} {b : Bool} (s : SR K mg S Δ Z Γ σ H) (g : Gr0 Z Z1 H H1) (th : ∀ a o, Hs a = some o → ∃ o', H a = some o') (h : ResB K mg H Z1 H1 b d v) : Kr K mg Hs Δ Z1 Γ σ H1 (kb b) d v := by
  cases b with
  | false => exact h
  | true =>
    obtain ⟨a, e, w, nz, n⟩ := h
    refine ⟨a, e, w, nz, s.freshO n, ?_⟩
    cases q : Hs a with
    | none => rfl
    | some o =>
      obtain ⟨o', e'⟩ := th a o q
      rw [n] at e'; cases e'
/-- two parts in a row, then an end -/
theorem seq2 {m1 m2 : Gm → R D} {g : D → D → Gm → R D} {P : D → Gm → Prop} {T : V → V → Hp → Prop} (s : SR K mg S Δ Z Γ σ H)
    (h : Post ((m1 Γ).bind fun d Γ1 => (m2 Γ1).bind fun e Γ2 => g d e Γ2) P C) (hk : KeepK k1 m2)
    (fin : ∀ d e Γ2 Z2 H2 x y, Go K mg S σ Δ Z Γ H Δ2 Z2 Γ2 H2 → Kr K mg H Δ2 Z2 Γ2 σ H2 k1 d x → Kr K mg H Δ2 Z2 Γ2 σ H2 k2 e y → Post (g d e Γ2) P C → T x y H2) :
    rdE K mg S C Δ m1 Δ1 k1 σ H fun x H1 => rdE K mg S C Δ1 m2 Δ2 k2 σ H1 fun y H2 => T x y H2 :=
  ⟨Z, Γ, s, h.bind'.mono (fun d Γ1 ⟨_, h1⟩ Z1 H1 x g1 r1 => ⟨Z1, Γ1, g1.s, h1.bind'.mono (fun e Γ2 ⟨e2, h2⟩ Z2 H2 y g2 r2 =>
    fin d e Γ2 Z2 H2 x y (g1.trans g2) (r1.lift g1.s g2 fun i e => hk i e _ _ _ e2) (r2.start g1.g.th) h2) fun _ _ c => c⟩) fun _ _ c => c⟩
end
section
variable {X : Cx} {S : Sx} {C : Xd → Gm → Prop} {Δ Δ1 Δ2 : Fl} {a b : Expr} {m1 m2 : Gm → R D} {k1 k2 : Kd} {pos : Pos}
/-- the end of an operation -/
theorem fin2 {f : D → D → Option D} {bo : Bool} {σ : Sg} {Z Z2 : Addr → Prop} {Γ Γ2 : Gm} {H H2 : Hp} {d e : D} {x y : V} {Q : VK}
    (g : Go X.K X.mg S σ Δ Z Γ H Δ2 Z2 Γ2 H2) (p1 : Kr X.K X.mg H Δ2 Z2 Γ2 σ H2 k1 d x) (p2 : Kr X.K X.mg H Δ2 Z2 Γ2 σ H2 k2 e y)
    (h : Post (R.of (f d e) Γ2) (fun d Γ' => ∀ Z' H' v, Go X.K X.mg S σ Δ Z Γ H Δ2 Z' Γ' H' → Kr X.K X.mg H Δ2 Z' Γ' σ H' (kb bo) d v → Q v H') C) : rD2 X.K X.mg f bo x y H2 Q := by
  obtain ⟨u, hu, q⟩ := h.of
  exact ⟨Z2, d, e, u, g.s.zd, p1.pk g.s, p2.pk g.s, hu, fun Z' H' v g0 r => q Z' H' v (g.trans (.gr0 g.s g0)) (r.kr g.s g0 g.g.th)⟩
theorem de_bin {op : Operator} {f : D → D → Option D} {bo : Bool} (ho : OpR X (binaryOp op) (rD2 X.K X.mg f bo)) (ha : DE X S C Δ a m1 Δ1 k1) (hb : DE X S C Δ1 b m2 Δ2 k2) (hk : KeepK k1 m2) :
    DE X S C Δ (.BinOp a op b pos) (mBin f m1 m2) Δ2 (kb bo) :=
  (pe_op ho ha hb).weak fun σ H Q ⟨Z, Γ, s, h⟩ => seq2 s h hk fun d e Γ2 Z2 H2 x y g p1 p2 h2 => fin2 g p1 p2 h2
theorem de_cmp {op : CmpOp} {f : D → D → Option D} (ho : OpR X (compareOp op) (rD2 X.K X.mg f false)) (hm : behindInMarks op b = false) (ha : DE X S C Δ a m1 Δ1 k1) (hb : DE X S C Δ1 b m2 Δ2 k2) (hk : KeepK k1 m2) :
    DE X S C Δ (.Compare a [op] [b] pos) (mBin f m1 m2) Δ2 .im :=
  (pe_cmpR ho ha hb hm).weak fun σ H Q ⟨Z, Γ, s, h⟩ => seq2 s h hk fun d e Γ2 Z2 H2 x y g p1 p2 h2 => fin2 (bo := false) g p1 p2 h2
theorem de_un {op : UnaryOp} {f : D → Option D} (ho : UnR X (unaryOp op) (rD1 X.K X.mg f false)) (ha : DE X S C Δ a m1 Δ1 k1) : DE X S C Δ (.UnaryOp op a pos) (mUn f m1) Δ1 .im :=
  (pe_un ho ha).weak fun σ H Q ⟨Z, Γ, s, h⟩ => ⟨Z, Γ, s, h.bind.mono (fun d Γ1 h1 Z1 H1 v g1 r1 => by
    obtain ⟨u, hu, q⟩ := h1.of
    exact ⟨Z1, d, u, g1.s.zd, r1.pk g1.s, hu, fun Z' H' v g0 r => q Z' H' v (g1.trans (.gr0 g1.s g0)) r⟩) fun _ _ c => c⟩
end

/-! ### what may be looked at -/
section
variable {K : PySem.W.Frag} {mg : Str → Option Value} {Z : Addr → Prop} {H : Hp} {v : V}
theorem Pk.int {i : Int} (h : Pk K mg Z H (.int i) v) : v = .int i := by
  cases h with
  | rp h => cases h; rfl
  | ow h => cases h
theorem Pk.bl {i : Bool} (h : Pk K mg Z H (.bl i) v) : v = .bl i := by
  cases h with
  | rp h => cases h; rfl
  | ow h => cases h
theorem Pk.str {i : Str} (h : Pk K mg Z H (.str i) v) : v = .str i := by
  cases h with
  | rp h => cases h; rfl
  | ow h => cases h
theorem Pk.non (h : Pk K mg Z H .non v) : v = .non := by
  cases h with
  | rp h => cases h; rfl
  | ow h => cases h
theorem Pk.tup {ds : List D} (h : Pk K mg Z H (.tup ds) v) : ∃ (a : Addr) (vs : List V), v = .ref a ∧ FT K Z H a vs ∧ Rps K mg Z H ds vs := by
  cases h with
  | rp h => cases h with | tup f r => exact ⟨_, _, rfl, f, r⟩
  | ow h => cases h
theorem Pk.lst {ds : List D} (h : Pk K mg Z H (.lst ds) v) : ∃ (a : Addr) (vs : List V), v = .ref a ∧ SqL K H a vs ∧ Rps K mg Z H ds vs := by
  cases h with
  | rp h => cases h with | lst f r => exact ⟨_, _, rfl, f.sq, r⟩
  | ow h => cases h with | lst f r => exact ⟨_, _, rfl, .of f, r⟩
end
end DL
/-! DL4: the operators. -/
namespace DL
open PySem PySem.Spec PyProof.Rows L2

abbrev two64 : Int := 18446744073709551616
def MulOk (i j : Int) : Prop := (-two64 < i ∧ i < two64) ∨ (-two64 < j ∧ j < two64) ∨ i.natAbs.log2 + j.natAbs.log2 < 1000000
instance (i j : Int) : Decidable (MulOk i j) := by unfold MulOk; infer_instance
def DivOk (j : Int) : Prop := 0 < j ∧ (j < two64 ∨ j.natAbs.log2 < 9000)
instance (j : Int) : Decidable (DivOk j) := by unfold DivOk; infer_instance
def PowOk (i j : Int) : Prop := 0 ≤ j ∧ j ≤ 1000000 ∧ (-two64 < i ∧ i < two64)
instance (i j : Int) : Decidable (PowOk i j) := by unfold PowOk; infer_instance

def addD : D → D → Option D
  | .int i, .int j => some (.int (i + j))
  | .str x, .str y => if x.length + y.length ≤ 16777216 then some (.str (x ++ y)) else none
  | .tup xs, .tup ys => if xs.length + ys.length ≤ 16777216 then some (.tup (xs ++ ys)) else none
  | _, _ => none
/-- list + list -/
def addL : D → D → Option D
  | .lst xs, .lst ys => if xs.length + ys.length ≤ 16777216 then some (.lst (xs ++ ys)) else none
  | _, _ => none
def subD : D → D → Option D
  | .int i, .int j => some (.int (i - j))
  | _, _ => none
def mulD : D → D → Option D
  | .int i, .int j => if MulOk i j then some (.int (i * j)) else none
  | _, _ => none
/-- list * int -/
def mulL : D → D → Option D
  | .lst xs, .int k => if -(2 ^ 63) ≤ k ∧ k < 2 ^ 63 ∧ xs.length * k.toNat ≤ 16777216 then some (.lst (List.replicate k.toNat xs).flatten) else none
  | _, _ => none
def fdivD : D → D → Option D
  | .int i, .int j => if DivOk j then some (.int (i / j)) else none
  | _, _ => none
def modD : D → D → Option D
  | .int i, .int j => if 0 < j then some (.int (i % j)) else none
  | _, _ => none
def powD : D → D → Option D
  | .int i, .int j => if PowOk i j then some (.int (i ^ j.toNat)) else none
  | _, _ => none
def shlD : D → D → Option D
  | .int i, .int j => if PowOk i j then some (.int (i * 2 ^ j.toNat)) else none
  | _, _ => none
def shrD : D → D → Option D
  | .int i, .int j => if 0 ≤ j then some (.int (i / 2 ^ j.toNat)) else none
  | _, _ => none
def andD : D → D → Option D
  | .int i, .int j => some (.int (Builtin.bitAnd i j))
  | _, _ => none
def orD : D → D → Option D
  | .int i, .int j => some (.int (Builtin.bitOr i j))
  | _, _ => none
def cmpI (p : Int → Int → Bool) : D → D → Option D
  | .int i, .int j => some (.bl (p i j))
  | _, _ => none
abbrev ltD := cmpI fun i j => decide (i < j)
abbrev leD := cmpI fun i j => decide (i ≤ j)
abbrev gtD := cmpI fun i j => decide (j < i)
abbrev geD := cmpI fun i j => decide (j ≤ i)
def isNon : D → Bool
  | .non => true
  | _ => false
def isD : D → D → Option D
  | d, .non => some (.bl (isNon d))
  | .bl a, .bl b => some (.bl (a == b))
  | _, _ => none
def isnotD : D → D → Option D
  | d, .non => some (.bl (!isNon d))
  | .bl a, .bl b => some (.bl (!(a == b)))
  | _, _ => none
def negD : D → Option D
  | .int i => some (.int (-i))
  | _ => none
mutual
def pd : D → Option PyData
  | .non => some .none
  | .bl b => some (.bool b)
  | .int i => some (.int i)
  | .str s => some (.str s)
  | .tup xs => (pds xs).map .tuple
  | .lst xs => (pds xs).map .list
  | _ => none
def pds : List D → Option (List PyData)
  | [] => some []
  | d :: ds => match pd d, pds ds with
    | some p, some ps => some (p :: ps)
    | _, _ => none
end
def eqD (d e : D) : Option D := match pd d, pd e with
  | some a, some b => if SeqAt.shaped a = true ∧ SeqAt.shaped b = true then some (.bl (PyData.eqv a b)) else none
  | _, _ => none
def neD (d e : D) : Option D := match pd d, pd e with
  | some a, some b => if SeqAt.shaped a = true ∧ SeqAt.shaped b = true then some (.bl (!PyData.eqv a b)) else none
  | _, _ => none
/-- x in a list or a tuple -/
def inD (d e : D) : Option D := match pd d, pd e with
  | some a, some (.list bs) => if SeqAt.shaped a = true ∧ SeqAt.shaped (.list bs) = true then some (.bl (bs.any fun z => PyData.eqv z a)) else none
  | some a, some (.tuple bs) => if SeqAt.shaped a = true ∧ SeqAt.shaped (.tuple bs) = true then some (.bl (bs.any fun z => PyData.eqv z a)) else none
  | _, _ => none
def notinD (d e : D) : Option D := match pd d, pd e with
  | some a, some (.list bs) => if SeqAt.shaped a = true ∧ SeqAt.shaped (.list bs) = true then some (.bl (!bs.any fun z => PyData.eqv z a)) else none
  | some a, some (.tuple bs) => if SeqAt.shaped a = true ∧ SeqAt.shaped (.tuple bs) = true then some (.bl (!bs.any fun z => PyData.eqv z a)) else none
  | _, _ => none

section
variable {K : PySem.W.Frag} {mg : Str → Option Value} {Z : Addr → Prop} {H : Hp}
mutual
theorem Rp.dp : ∀ {d : D} {v : V} {p : PyData}, Rp K mg Z H d v → pd d = some p → Dp K H v p
  | _, _, _, .non, e => by simp [pd] at e; subst e; exact .non
  | _, _, _, .bl b, e => by simp [pd] at e; subst e; exact .bl b
  | _, _, _, .int i, e => by simp [pd] at e; subst e; exact .int i
  | _, _, _, .str s, e => by simp [pd] at e; subst e; exact .str s
  | _, _, _, .tup f r, e => by
    simp only [pd, Option.map_eq_some_iff] at e
    obtain ⟨ps, e1, rfl⟩ := e
    exact .tup f.sq (Rps.dp r e1)
  | _, _, _, .lst f r, e => by
    simp only [pd, Option.map_eq_some_iff] at e
    obtain ⟨ps, e1, rfl⟩ := e
    exact .lst f.sq (Rps.dp r e1)
  | _, _, _, .dctK _ _ _, e => by simp [pd] at e
  | _, _, _, .dctT _ _ _, e => by simp [pd] at e
  | _, _, _, .obj _ _ _ _, e => by simp [pd] at e
  | _, _, _, .glo _, e => by simp [pd] at e
theorem Rps.dp : ∀ {d : List D} {v : List V} {p : List PyData}, Rps K mg Z H d v → pds d = some p → DpAll K H v p
  | _, _, _, .nil, e => by simp [pds] at e; subst e; exact .nil
  | _, _, _, .cons h r, e => by
    rw [pds] at e
    split at e
    · rename_i p ps e1 e2
      cases e
      exact .cons (Rp.dp h e1) (Rps.dp r e2)
    · cases e
end
theorem Pk.dp {d : D} {v : V} {p : PyData} (h : Pk K mg Z H d v) (e : pd d = some p) : Dp K H v p := by
  cases h with
  | rp h => exact h.dp e
  | ow h =>
    cases h with
    | lst f r =>
      simp only [pd, Option.map_eq_some_iff] at e
      obtain ⟨ps, e1, rfl⟩ := e
      exact .lst (.of f) (Rps.dp r e1)
    | dctK _ _ => simp [pd] at e
    | dctT _ _ => simp [pd] at e
    | obj _ _ _ => simp [pd] at e
theorem Pk.isN {d : D} {v : V} (h : Pk K mg Z H d v) : decide (v = .non) = isNon d := by
  cases h with
  | rp h => cases h <;> simp [isNon]
  | ow h => cases h <;> simp [isNon]
end
theorem log2_of {i : Int} (h1 : -two64 < i) (h2 : i < two64) : i.natAbs < 2 ^ 64 := by unfold two64 at *; omega
section
variable {X : Cx}
/-- an answer that makes nothing -/
theorem res0 {K : PySem.W.Frag} {mg : Str → Option Value} {Z : Addr → Prop} {H : Hp} {u : D} {v : V} {Q : VK} (zd : Zd Z H) (q : ∀ Z' H' v, Gr0 Z Z' H H' → ResB K mg H Z' H' false u v → Q v H') (r : Rp K mg Z H u v) : Q v H := q Z H v (.refl zd) r
/-- an answer that is a new tuple -/
theorem resT {K : PySem.W.Frag} {mg : Str → Option Value} {Z : Addr → Prop} {H : Hp} {us : List D} {vs : List V} {Q : VK} (zd : Zd Z H) (q : ∀ Z' H' v, Gr0 Z Z' H H' → ResB K mg H Z' H' false (.tup us) v → Q v H') (r : Rps K mg Z H us vs)
    {p : Addr} (n : H p = none) : Q (.ref p) (upd H p (.tup vs)) := by
  have g : Gr0 Z (fun x => Z x ∨ x = p) H (upd H p (.tup vs)) := Gr0.frz n zd
  exact q _ _ _ g (.tup ⟨upd_same, .inr rfl⟩ (r.ag (g.ag0 zd)))
/-- an answer that is a new list -/
theorem resL {K : PySem.W.Frag} {mg : Str → Option Value} {Z : Addr → Prop} {H : Hp} {us : List D} {vs : List V} {Q : VK} (zd : Zd Z H) (q : ∀ Z' H' v, Gr0 Z Z' H H' → ResB K mg H Z' H' true (.lst us) v → Q v H') (r : Rps K mg Z H us vs)
    {p : Addr} (n : H p = none) : Q (.ref p) (upd H p (.lst vs)) := by
  have g : Gr0 Z Z H (upd H p (.lst vs)) := Gr0.lay n zd
  refine q _ _ _ g ⟨p, rfl, .lst upd_same (r.ag (g.ag0 zd)), fun z => ?_, n⟩
  obtain ⟨o, e⟩ := zd.1 p z
  rw [n] at e; cases e

theorem od_sub : OpR X (binaryOp .Sub) (rD2 X.K X.mg subD false) := opi op_sub fun x y H Q ⟨Z, d, e, u, zd, p1, p2, h, q⟩ => by
  unfold subD at h; split at h
  · cases h; exact ⟨_, _, p1.int, p2.int, res0 zd q (.int _)⟩
  · cases h
theorem od_add : OpR X (binaryOp .Add) (rD2 X.K X.mg addD false) := opi (OpR.or op_add (OpR.or op_add_str op_catA)) fun x y H Q ⟨Z, d, e, u, zd, p1, p2, h, q⟩ => by
  have hz : sizeLine = 16777216 := sizeLine_eq
  unfold addD at h; split at h
  · cases h; exact .inl ⟨_, _, p1.int, p2.int, res0 zd q (.int _)⟩
  · split at h
    · cases h; exact .inr (.inl ⟨_, _, p1.str, p2.str, by omega, res0 zd q (.str _)⟩)
    · cases h
  · split at h
    · rename_i hl
      cases h
      obtain ⟨a, vs, rfl, f, r⟩ := p1.tup
      obtain ⟨b, ws, rfl, f2, r2⟩ := p2.tup
      refine .inr (.inr ⟨a, b, vs, ws, rfl, rfl, f.sq, f2.sq, by rw [← r.length, ← r2.length]; omega, ?_⟩)
      have e1 := r.length
      have e2 := r2.length
      first
        | (refine ⟨fun hx => ?_, fun hx hy => ?_, fun hx hy p n => resT zd q (r.append r2) n⟩
           · subst hx
             cases r
             exact res0 zd q (.tup f2 r2)
           · subst hy
             cases r2
             rw [List.append_nil] at q
             exact res0 zd q (.tup f r))
        | skip
    · cases h
  · cases h
theorem od_mul : OpR X (binaryOp .Mult) (rD2 X.K X.mg mulD false) := opi (OpR.or op_mul op_mulW) fun x y H Q ⟨Z, d, e, u, zd, p1, p2, h, q⟩ => by
  unfold mulD at h; split at h
  · split at h
    · rename_i hm
      cases h
      rcases hm with hm | hm | hm
      · exact .inl ⟨_, _, p1.int, p2.int, .inl hm, res0 zd q (.int _)⟩
      · exact .inl ⟨_, _, p1.int, p2.int, .inr hm, res0 zd q (.int _)⟩
      · exact .inr ⟨_, _, p1.int, p2.int, hm, res0 zd q (.int _)⟩
    · cases h
  · cases h
theorem od_fdiv : OpR X (binaryOp .FloorDiv) (rD2 X.K X.mg fdivD false) := opi op_fdivW fun x y H Q ⟨Z, d, e, u, zd, p1, p2, h, q⟩ => by
  unfold fdivD at h; split at h
  · split at h
    · rename_i i j hm
      cases h
      refine ⟨_, _, p1.int, p2.int, ?_, res0 zd q (.int _)⟩
      obtain ⟨h0, h1 | h1⟩ := hm
      · exact wide_div h0 (log2_of (by unfold two64; omega) h1) (by decide) (by decide)
      · exact ⟨h0, h1⟩
    · cases h
  · cases h
theorem od_mod : OpR X (binaryOp .Mod) (rD2 X.K X.mg modD false) := opi op_mod fun x y H Q ⟨Z, d, e, u, zd, p1, p2, h, q⟩ => by
  unfold modD at h; split at h
  · split at h
    · rename_i hm; cases h; exact ⟨_, _, p1.int, p2.int, hm, res0 zd q (.int _)⟩
    · cases h
  · cases h
theorem powOk {i j : Int} (h : PowOk i j) : CPow i j := ⟨h.1, h.2.1, log2_of h.2.2.1 h.2.2.2⟩
theorem od_pow : OpR X (binaryOp .Pow) (rD2 X.K X.mg powD false) := opi op_pow fun x y H Q ⟨Z, d, e, u, zd, p1, p2, h, q⟩ => by
  unfold powD at h; split at h
  · split at h
    · rename_i hm; cases h; exact ⟨_, _, p1.int, p2.int, powOk hm, res0 zd q (.int _)⟩
    · cases h
  · cases h
theorem od_shl : OpR X (binaryOp .LShift) (rD2 X.K X.mg shlD false) := opi op_shl fun x y H Q ⟨Z, d, e, u, zd, p1, p2, h, q⟩ => by
  unfold shlD at h; split at h
  · split at h
    · rename_i hm; cases h; exact ⟨_, _, p1.int, p2.int, powOk hm, res0 zd q (.int _)⟩
    · cases h
  · cases h
theorem od_shr : OpR X (binaryOp .RShift) (rD2 X.K X.mg shrD false) := opi op_shr fun x y H Q ⟨Z, d, e, u, zd, p1, p2, h, q⟩ => by
  unfold shrD at h; split at h
  · split at h
    · rename_i hm; cases h; exact ⟨_, _, p1.int, p2.int, hm, res0 zd q (.int _)⟩
    · cases h
  · cases h
theorem od_and : OpR X (binaryOp .BitAnd) (rD2 X.K X.mg andD false) := opi op_and fun x y H Q ⟨Z, d, e, u, zd, p1, p2, h, q⟩ => by
  unfold andD at h; split at h
  · cases h; exact ⟨_, _, p1.int, p2.int, res0 zd q (.int _)⟩
  · cases h
theorem od_or : OpR X (binaryOp .BitOr) (rD2 X.K X.mg orD false) := opi op_or fun x y H Q ⟨Z, d, e, u, zd, p1, p2, h, q⟩ => by
  unfold orD at h; split at h
  · cases h; exact ⟨_, _, p1.int, p2.int, res0 zd q (.int _)⟩
  · cases h
theorem od_lt : OpR X (compareOp .Lt) (rD2 X.K X.mg ltD false) := opi op_lt fun x y H Q ⟨Z, d, e, u, zd, p1, p2, h, q⟩ => by
  unfold ltD cmpI at h; split at h
  · cases h; exact ⟨_, _, p1.int, p2.int, res0 zd q (.bl _)⟩
  · cases h
theorem od_le : OpR X (compareOp .LtE) (rD2 X.K X.mg leD false) := opi op_le fun x y H Q ⟨Z, d, e, u, zd, p1, p2, h, q⟩ => by
  unfold leD cmpI at h; split at h
  · cases h; exact ⟨_, _, p1.int, p2.int, res0 zd q (.bl _)⟩
  · cases h
theorem od_gt : OpR X (compareOp .Gt) (rD2 X.K X.mg gtD false) := opi op_gt fun x y H Q ⟨Z, d, e, u, zd, p1, p2, h, q⟩ => by
  unfold gtD cmpI at h; split at h
  · cases h; exact ⟨_, _, p1.int, p2.int, res0 zd q (.bl _)⟩
  · cases h
theorem od_ge : OpR X (compareOp .GtE) (rD2 X.K X.mg geD false) := opi op_ge fun x y H Q ⟨Z, d, e, u, zd, p1, p2, h, q⟩ => by
  unfold geD cmpI at h; split at h
  · cases h; exact ⟨_, _, p1.int, p2.int, res0 zd q (.bl _)⟩
  · cases h
theorem dec_bl' (a b : Bool) : decide (a = b) = (a == b) := by cases a <;> cases b <;> rfl
theorem od_is : OpR X (compareOp .Is) (rD2 X.K X.mg isD false) := opi (OpR.or op_isN op_is_bl) fun x y H Q ⟨Z, d, e, u, zd, p1, p2, h, q⟩ => by
  unfold isD at h; split at h
  · cases h
    exact .inl ⟨p2.non, by rw [p1.isN]; exact res0 zd q (.bl _)⟩
  · cases h
    exact .inr ⟨_, _, p1.bl, p2.bl, by rw [dec_bl']; exact res0 zd q (.bl _)⟩
  · cases h
theorem od_isnot : OpR X (compareOp .IsNot) (rD2 X.K X.mg isnotD false) := opi (OpR.or op_notN op_isnot_bl) fun x y H Q ⟨Z, d, e, u, zd, p1, p2, h, q⟩ => by
  unfold isnotD at h; split at h
  · cases h
    exact .inl ⟨p2.non, by rw [p1.isN]; exact res0 zd q (.bl _)⟩
  · cases h
    exact .inr ⟨_, _, p1.bl, p2.bl, by rw [dec_bl']; exact res0 zd q (.bl _)⟩
  · cases h
theorem od_eq (hu : X.A.units + 64 < cLine) : OpR X (compareOp .Eq) (rD2 X.K X.mg eqD false) := opi (op_eqD hu) fun x y H Q ⟨Z, d, e, u, zd, p1, p2, h, q⟩ => by
  unfold eqD at h; split at h
  · split at h
    · rename_i a b e1 e2 hs
      cases h
      exact ⟨a, b, p1.dp e1, p2.dp e2, hs.1, hs.2, res0 zd q (.bl _)⟩
    · cases h
  · cases h
theorem od_ne (hu : X.A.units + 64 < cLine) : OpR X (compareOp .NotEq) (rD2 X.K X.mg neD false) := opi (op_neD hu) fun x y H Q ⟨Z, d, e, u, zd, p1, p2, h, q⟩ => by
  unfold neD at h; split at h
  · split at h
    · rename_i a b e1 e2 hs
      cases h
      exact ⟨a, b, p1.dp e1, p2.dp e2, hs.1, hs.2, res0 zd q (.bl _)⟩
    · cases h
  · cases h
def rInT (K : PySem.W.Frag) (n : Bool) : R2 := fun x y H Q => ∃ d ds, Dp K H x d ∧ Dp K H y (.tuple ds) ∧ SeqAt.shaped d = true ∧ SeqAt.shaped (.tuple ds) = true ∧ Q (.bl (if n then !ds.any fun z => PyData.eqv z d else ds.any fun z => PyData.eqv z d)) H
theorem op_inDT (hu : X.A.units + 65 < cLine) : OpR X (compareOp .In) (rInT X.K false) := by
  intro pins s σ H x y v u Q I rx ry h
  obtain ⟨d, ds, hd, he, sd, se, q⟩ := h
  obtain ⟨as, r1⟩ := Dp.reads I d x v hd rx
  obtain ⟨bs, r2⟩ := Dp.reads I (.tuple ds) y u he ry
  exact SeqAt.in_tuple_reads r2 r1 (SeqAt.canLay_of_shaped se) (SeqAt.canLay_of_shaped sd) (room_in_shaped sd hu) ⟨.bl _, H, I, rfl, q⟩
theorem op_notInDT (hu : X.A.units + 65 < cLine) : OpR X (compareOp .NotIn) (rInT X.K true) := by
  intro pins s σ H x y v u Q I rx ry h
  obtain ⟨d, ds, hd, he, sd, se, q⟩ := h
  obtain ⟨as, r1⟩ := Dp.reads I d x v hd rx
  obtain ⟨bs, r2⟩ := Dp.reads I (.tuple ds) y u he ry
  exact SeqAt.notIn_tuple_reads r2 r1 (SeqAt.canLay_of_shaped se) (SeqAt.canLay_of_shaped sd) (room_in_shaped sd hu) ⟨.bl _, H, I, rfl, q⟩
theorem od_in (hu : X.A.units + 65 < cLine) : OpR X (compareOp .In) (rD2 X.K X.mg inD false) := opi (OpR.or (op_inD hu) (op_inDT hu)) fun x y H Q ⟨Z, d, e, u, zd, p1, p2, h, q⟩ => by
  unfold inD at h; split at h
  · split at h
    · rename_i a b e1 e2 hs
      cases h
      exact .inl ⟨a, b, p1.dp e1, p2.dp e2, hs.1, hs.2, res0 zd q (.bl _)⟩
    · cases h
  · split at h
    · rename_i a b e1 e2 hs
      cases h
      exact .inr ⟨a, b, p1.dp e1, p2.dp e2, hs.1, hs.2, res0 zd q (.bl _)⟩
    · cases h
  · cases h
theorem od_notin (hu : X.A.units + 65 < cLine) : OpR X (compareOp .NotIn) (rD2 X.K X.mg notinD false) := opi (OpR.or (op_notInD hu) (op_notInDT hu)) fun x y H Q ⟨Z, d, e, u, zd, p1, p2, h, q⟩ => by
  unfold notinD at h; split at h
  · split at h
    · rename_i a b e1 e2 hs
      cases h
      exact .inl ⟨a, b, p1.dp e1, p2.dp e2, hs.1, hs.2, res0 zd q (.bl _)⟩
    · cases h
  · split at h
    · rename_i a b e1 e2 hs
      cases h
      exact .inr ⟨a, b, p1.dp e1, p2.dp e2, hs.1, hs.2, res0 zd q (.bl _)⟩
    · cases h
  · cases h
theorem ud_neg : UnR X (unaryOp .USub) (rD1 X.K X.mg negD false) := by
  intro pins s σ H x v Q I rx ⟨Z, d, u, zd, p1, h, q⟩
  refine un_neg pins s σ H x v Q I rx ?_
  unfold negD at h; split at h
  · cases h; exact ⟨_, p1.int, res0 zd q (.int _)⟩
  · cases h
end
end DL
/-! DL5: truth and tests, rows of parts, displays, subscripts, slices, built-ins of one part. -/
namespace DL
open PySem PySem.Spec PyProof.Rows L2

/-! ### truth -/
def tru : D → Option Bool
  | .non => some false
  | .bl b => some b
  | .int i => some (i != 0)
  | .str s => if s.length ≤ 16777216 then some ((s.length : Int) != 0) else none
  | .tup xs => some (!xs.isEmpty)
  | .lst xs => some (!xs.isEmpty)
  | _ => none
theorem rps_empty {K : PySem.W.Frag} {mg : Str → Option Value} {Z : Addr → Prop} {H : Hp} {ds : List D} {vs : List V} (r : Rps K mg Z H ds vs) : ds.isEmpty = vs.isEmpty := by cases r <;> rfl
theorem Pk.tru {K : PySem.W.Frag} {mg : Str → Option Value} {Z : Addr → Prop} {H : Hp} {d : D} {v : V} {k : Bool} (h : Pk K mg Z H d v) (e : tru d = some k) : TruV K v H k := by
  have hz : sizeLine = 16777216 := sizeLine_eq
  cases d with
  | non => cases e; rw [h.non]; rfl
  | bl b => cases e; rw [h.bl]; rfl
  | int i => cases e; rw [h.int]; rfl
  | str s =>
    simp only [DL.tru] at e
    split at e
    · cases e; rw [h.str]; exact ⟨by omega, rfl⟩
    · cases e
  | tup xs =>
    cases e
    obtain ⟨a, vs, rfl, f, r⟩ := h.tup
    exact .inr (.inl ⟨vs, f.sq, by rw [rps_empty r]⟩)
  | lst xs =>
    cases e
    obtain ⟨a, vs, rfl, f, r⟩ := h.lst
    exact .inl ⟨vs, f, by rw [rps_empty r]⟩
  | dct _ => cases e
  | dtt _ => cases e
  | set _ => cases e
  | obj _ _ => cases e
  | glo _ => cases e
def mTru (m : Gm → R D) : Gm → R Bool := fun Γ => (m Γ).bind fun d Γ1 => R.of (tru d) Γ1
def mNotT (m : Gm → R Bool) : Gm → R Bool := fun Γ => (m Γ).bind fun b Γ1 => .ok (!b) Γ1
def mAndT (m1 m2 : Gm → R Bool) : Gm → R Bool := fun Γ => (m1 Γ).bind fun b Γ1 => if b = true then m2 Γ1 else .ok false Γ1
def mOrT (m1 m2 : Gm → R Bool) : Gm → R Bool := fun Γ => (m1 Γ).bind fun b Γ1 => if b = true then .ok true Γ1 else m2 Γ1
/-- and, or as values -/
def mAndV (m1 m2 : Gm → R D) : Gm → R D := fun Γ => (m1 Γ).bind fun d Γ1 => match tru d with
  | some true => m2 Γ1
  | some false => .ok d Γ1
  | none => .no
def mOrV (m1 m2 : Gm → R D) : Gm → R D := fun Γ => (m1 Γ).bind fun d Γ1 => match tru d with
  | some true => .ok d Γ1
  | some false => m2 Γ1
  | none => .no
def mNotV (m1 : Gm → R D) : Gm → R D := fun Γ => (m1 Γ).bind fun d Γ1 => match tru d with
  | some b => .ok (.bl (!b)) Γ1
  | none => .no
def mIte (mt : Gm → R Bool) (m1 m2 : Gm → R D) : Gm → R D := fun Γ => (mt Γ).bind fun b Γ1 => if b = true then m1 Γ1 else m2 Γ1
/-- a test of a bool: its kind is told -/
def Blf (f : D → D → Option D) : Prop := ∀ d e u, f d e = some u → ∃ k, u = .bl k
theorem blf_cmp {p : Int → Int → Bool} : Blf (cmpI p) := fun d e u h => by unfold cmpI at h; split at h <;> cases h; exact ⟨_, rfl⟩
theorem blf_is : Blf isD := fun d e u h => by unfold isD at h; split at h <;> cases h <;> exact ⟨_, rfl⟩
theorem blf_isnot : Blf isnotD := fun d e u h => by unfold isnotD at h; split at h <;> cases h <;> exact ⟨_, rfl⟩
theorem blf_eq : Blf eqD := fun d e u h => by unfold eqD at h; split at h <;> first | (split at h <;> cases h; exact ⟨_, rfl⟩) | cases h
theorem blf_ne : Blf neD := fun d e u h => by unfold neD at h; split at h <;> first | (split at h <;> cases h; exact ⟨_, rfl⟩) | cases h
theorem blf_in : Blf inD := fun d e u h => by unfold inD at h; split at h <;> first | (split at h <;> cases h; exact ⟨_, rfl⟩) | cases h
theorem blf_notin : Blf notinD := fun d e u h => by unfold notinD at h; split at h <;> first | (split at h <;> cases h; exact ⟨_, rfl⟩) | cases h

abbrev DW (X : Cx) (S : Sx) (C : Xd → Gm → Prop) (Δ : Fl) (e : Expr) (m : Gm → R Bool) (Δ' : Fl) : Prop := PW X e (rdT X.K X.mg S C Δ m Δ')
section
variable {X : Cx} {S : Sx} {C : Xd → Gm → Prop} {Δ Δ1 Δ2 : Fl} {a b c : Expr} {rest : List Expr} {m m1 m2 : Gm → R D} {t t1 t2 : Gm → R Bool} {k k1 k2 : Kd} {pos : Pos}
theorem dt_val (ha : DE X S C Δ a m Δ1 k) (he : ∀ whole, isTrue a X.env whole = (do let v ← whole; standAt a.pos; holding [v] (truthy v)) := by intro _; rfl) : DT X S C Δ a (mTru m) Δ1 :=
  (pt_truth ha he).weak fun σ H Q ⟨Z, Γ, s, h⟩ => ⟨Z, Γ, s, h.bind.mono (fun d Γ1 h1 Z1 H1 v g1 r1 => by
    obtain ⟨k, hk, q⟩ := h1.of
    exact ⟨k, (r1.pk g1.s).tru hk, q Z1 H1 g1⟩) fun _ _ c => c⟩
theorem dt_cmp {op : CmpOp} {f : D → D → Option D} (hf : Blf f) (ho : OpR X (compareOp op) (rD2 X.K X.mg f false)) (hm : behindInMarks op b = false) (ha : DE X S C Δ a m1 Δ1 k1) (hb : DE X S C Δ1 b m2 Δ2 k2) (hk : KeepK k1 m2) :
    DT X S C Δ (.Compare a [op] [b] pos) (mTru (mBin f m1 m2)) Δ2 :=
  (pt_cmpR ho ha hb hm).weak fun σ H Q ⟨Z, Γ, s, h⟩ => by
    have h' : Post ((m1 Γ).bind fun d Γ1 => (m2 Γ1).bind fun e Γ2 => (R.of (f d e) Γ2).bind fun u Γ3 => R.of (tru u) Γ3) (fun b Γ' => ∀ Z' H', Go X.K X.mg S σ Δ Z Γ H Δ2 Z' Γ' H' → Q b H') C := by
      unfold mTru mBin at h
      cases e1 : m1 Γ with
      | ok d1 Γ1 =>
        rw [e1] at h
        simp only [R.bind_ok] at h ⊢
        cases e2 : m2 Γ1 with
        | ok d2 Γ2 => rw [e2] at h; exact h
        | ex x Γ2 => rw [e2] at h; exact h
        | no => rw [e2] at h; exact h
      | ex x Γ1 => rw [e1] at h; exact h
      | no => rw [e1] at h; exact h
    refine ⟨Z, Γ, s, h'.bind'.mono (fun d Γ1 ⟨_, h1⟩ Z1 H1 x g1 r1 => ⟨Z1, Γ1, g1.s, h1.bind'.mono (fun e Γ2 ⟨e2, h2⟩ Z2 H2 y g2 r2 => ?_) fun _ _ c => c⟩) fun _ _ c => c⟩
    have g := g1.trans g2
    have p1 := (r1.lift g1.s g2 fun i e => hk i e _ _ _ e2).pk g.s
    obtain ⟨u, hu, h3⟩ := h2.bind.of
    obtain ⟨k, rfl⟩ := hf _ _ _ hu
    refine ⟨Z2, d, e, _, g.s.zd, p1, r2.pk g.s, hu, fun Z' H' v g0 r => ?_⟩
    cases r
    exact ⟨k, rfl, h3 Z' H' (g.trans (.gr0 g.s g0))⟩
theorem dt_not (ha : DT X S C Δ a t Δ1) : DT X S C Δ (.UnaryOp .Not a pos) (mNotT t) Δ1 :=
  (pt_not ha).weak fun σ H Q ⟨Z, Γ, s, h⟩ => ⟨Z, Γ, s, h.bind.mono (fun d Γ1 h1 Z1 H1 g1 => h1 Z1 H1 g1) fun _ _ c => c⟩
theorem PW.weak' {e : Expr} {t u : TT} (h : PW X e t) (hw : ∀ σ H Q, u σ H Q → t σ H Q) : PW X e u := ⟨fun wh pins s σ H Q I q => h.run wh pins s σ H Q I (hw σ H Q q)⟩
theorem dw_and1 (ha : DT X S C Δ a t Δ1) : DW X S C Δ (.BoolOp .And [a] pos) t Δ1 := pw_and1 ha
theorem dw_or1 (ha : DT X S C Δ a t Δ1) : DW X S C Δ (.BoolOp .Or [a] pos) t Δ1 := pw_or1 ha
theorem dw_and (ha : DT X S C Δ a t1 Δ1) (hb : DW X S C Δ1 (.BoolOp .And (b :: rest) pos) t2 Δ1) : DW X S C Δ (.BoolOp .And (a :: b :: rest) pos) (mAndT t1 t2) Δ1 :=
  PW.weak' (pw_and ha hb) fun σ H Q ⟨Z, Γ, s, h⟩ => ⟨Z, Γ, s, h.bind.mono (fun d Γ1 h1 Z1 H1 g1 => by
    cases d with
    | true =>
      rw [if_pos rfl] at h1 ⊢
      exact ⟨Z1, Γ1, g1.s, h1.mono (fun b Γ2 h2 Z2 H2 g2 => h2 Z2 H2 (g1.trans g2)) fun _ _ c => c⟩
    | false => rw [if_neg Bool.false_ne_true] at h1 ⊢; exact h1 Z1 H1 g1) fun _ _ c => c⟩
theorem dw_or (ha : DT X S C Δ a t1 Δ1) (hb : DW X S C Δ1 (.BoolOp .Or (b :: rest) pos) t2 Δ1) : DW X S C Δ (.BoolOp .Or (a :: b :: rest) pos) (mOrT t1 t2) Δ1 :=
  PW.weak' (pw_or ha hb) fun σ H Q ⟨Z, Γ, s, h⟩ => ⟨Z, Γ, s, h.bind.mono (fun d Γ1 h1 Z1 H1 g1 => by
    cases d with
    | true => rw [if_pos rfl] at h1 ⊢; exact h1 Z1 H1 g1
    | false =>
      rw [if_neg Bool.false_ne_true] at h1 ⊢
      exact ⟨Z1, Γ1, g1.s, h1.mono (fun b Γ2 h2 Z2 H2 g2 => h2 Z2 H2 (g1.trans g2)) fun _ _ c => c⟩) fun _ _ c => c⟩
theorem dt_bool {op : BoolOp} {es : List Expr} (h : DW X S C Δ (.BoolOp op es pos) t Δ1) : DT X S C Δ (.BoolOp op es pos) t Δ1 := h.pt
/-- .. as values, frozen -/
theorem de_one {op : BoolOp} (h : DE X S C Δ a m Δ1 k) : DE X S C Δ (.BoolOp op [a] pos) m Δ1 k := pe_one h
theorem de_and (ha : DE X S C Δ a m1 Δ1 .im) (hb : DE X S C Δ1 (.BoolOp .And (b :: rest) pos) m2 Δ1 .im) : DE X S C Δ (.BoolOp .And (a :: b :: rest) pos) (mAndV m1 m2) Δ1 .im :=
  (pe_andT ha hb).weak fun σ H Q ⟨Z, Γ, s, h⟩ => ⟨Z, Γ, s, h.bind.mono (fun d Γ1 h1 Z1 H1 v g1 r1 => by
    cases e : tru d with
    | none => rw [e] at h1; exact h1.elim
    | some k =>
      rw [e] at h1
      refine ⟨k, (Pk.rp r1).tru e, ?_⟩
      cases k with
      | true => rw [if_pos rfl]; exact ⟨Z1, Γ1, g1.s, h1.mono (fun b Γ2 h2 Z2 H2 v g2 r2 => h2 Z2 H2 v (g1.trans g2) r2) fun _ _ c => c⟩
      | false => rw [if_neg Bool.false_ne_true]; exact h1 Z1 H1 v g1 r1) fun _ _ c => c⟩
theorem de_or (ha : DE X S C Δ a m1 Δ1 .im) (hb : DE X S C Δ1 (.BoolOp .Or (b :: rest) pos) m2 Δ1 .im) : DE X S C Δ (.BoolOp .Or (a :: b :: rest) pos) (mOrV m1 m2) Δ1 .im :=
  (pe_orT ha hb).weak fun σ H Q ⟨Z, Γ, s, h⟩ => ⟨Z, Γ, s, h.bind.mono (fun d Γ1 h1 Z1 H1 v g1 r1 => by
    cases e : tru d with
    | none => rw [e] at h1; exact h1.elim
    | some k =>
      rw [e] at h1
      refine ⟨k, (Pk.rp r1).tru e, ?_⟩
      cases k with
      | true => rw [if_pos rfl]; exact h1 Z1 H1 v g1 r1
      | false => rw [if_neg Bool.false_ne_true]; exact ⟨Z1, Γ1, g1.s, h1.mono (fun b Γ2 h2 Z2 H2 v g2 r2 => h2 Z2 H2 v (g1.trans g2) r2) fun _ _ c => c⟩) fun _ _ c => c⟩
theorem de_not (ha : DE X S C Δ a m1 Δ1 k) : DE X S C Δ (.UnaryOp .Not a pos) (mNotV m1) Δ1 .im :=
  (pe_notT ha).weak fun σ H Q ⟨Z, Γ, s, h⟩ => ⟨Z, Γ, s, h.bind.mono (fun d Γ1 h1 Z1 H1 v g1 r1 => by
    cases e : tru d with
    | none => rw [e] at h1; exact h1.elim
    | some k =>
      rw [e] at h1
      exact ⟨k, (r1.pk g1.s).tru e, h1 Z1 H1 _ g1 (.bl _)⟩) fun _ _ c => c⟩
theorem de_ite (hc : DT X S C Δ c t Δ1) (ha : DE X S C Δ1 a m1 Δ2 k) (hb : DE X S C Δ1 b m2 Δ2 k) : DE X S C Δ (.IfExp c a b pos) (mIte t m1 m2) Δ2 k :=
  (pe_ifExp hc ha hb).weak fun σ H Q ⟨Z, Γ, s, h⟩ => ⟨Z, Γ, s, h.bind.mono (fun d Γ1 h1 Z1 H1 g1 => by
    cases d with
    | true =>
      rw [if_pos rfl] at h1 ⊢
      exact ⟨Z1, Γ1, g1.s, h1.mono (fun b Γ2 h2 Z2 H2 v g2 r2 => h2 Z2 H2 v (g1.trans g2) (r2.start g1.g.th)) fun _ _ c => c⟩
    | false =>
      rw [if_neg Bool.false_ne_true] at h1 ⊢
      exact ⟨Z1, Γ1, g1.s, h1.mono (fun b Γ2 h2 Z2 H2 v g2 r2 => h2 Z2 H2 v (g1.trans g2) (r2.start g1.g.th)) fun _ _ c => c⟩) fun _ _ c => c⟩
end

/-! ### rows of frozen parts -/
def evE : List (Gm → R D) → Gm → R (List D)
  | [], Γ => .ok [] Γ
  | m :: ms, Γ => (m Γ).bind fun d Γ1 => (evE ms Γ1).bind fun ds Γ2 => .ok (d :: ds) Γ2
theorem evE_len : ∀ {ms : List (Gm → R D)} {Γ Γ' : Gm} {ds : List D}, evE ms Γ = .ok ds Γ' → ds.length = ms.length
  | [], _, _, _, e => by cases e; rfl
  | m :: ms, Γ, Γ', ds, e => by
    unfold evE at e
    cases e1 : m Γ with
    | ok d Γ1 =>
      rw [e1, R.bind_ok] at e
      cases e2 : evE ms Γ1 with
      | ok ds2 Γ2 => rw [e2, R.bind_ok] at e; cases e; simp [evE_len e2]
      | ex x Γ2 => rw [e2] at e; cases e
      | no => rw [e2] at e; cases e
    | ex x Γ2 => rw [e1] at e; cases e
    | no => rw [e1] at e; cases e
def rdL (K : PySem.W.Frag) (mg : Str → Option Value) (S : Sx) (C : Xd → Gm → Prop) (Δ : Fl) (m : Gm → R (List D)) (Δ' : Fl) : TA := fun σ H Q =>
  ∃ Z Γ, SR K mg S Δ Z Γ σ H ∧ Post (m Γ) (fun ds Γ' => ∀ Z' H' vs, Go K mg S σ Δ Z Γ H Δ' Z' Γ' H' → Rps K mg Z' H' ds vs → Q vs H') C
abbrev DL' (X : Cx) (S : Sx) (C : Xd → Gm → Prop) (Δ : Fl) (es : List Expr) (ms : List (Gm → R D)) (Δ' : Fl) : Prop := PA X es (rdL X.K X.mg S C Δ (evE ms) Δ')
def mTup (ms : List (Gm → R D)) : Gm → R D := fun Γ => (evE ms Γ).bind fun ds Γ1 => .ok (.tup ds) Γ1
def mLst (ms : List (Gm → R D)) : Gm → R D := fun Γ => (evE ms Γ).bind fun ds Γ1 => .ok (.lst ds) Γ1
section
variable {X : Cx} {S : Sx} {C : Xd → Gm → Prop} {Δ Δ1 Δ2 : Fl} {e : Expr} {es : List Expr} {m : Gm → R D} {ms : List (Gm → R D)} {pos : Pos}
theorem dl_nil : DL' X S C Δ [] [] Δ := pa_nil.weak fun σ H Q ⟨Z, Γ, s, h⟩ => h Z H [] (.refl s) .nil
theorem dl_cons (h1 : DE X S C Δ e m Δ1 .im) (h2 : DL' X S C Δ1 es ms Δ2) (hs : starEach (e :: es) X.env = (false, eval e X.env) :: starEach es X.env := by rfl) : DL' X S C Δ (e :: es) (m :: ms) Δ2 :=
  (pa_cons h1 h2 hs).weak fun σ H Q ⟨Z, Γ, s, h⟩ => ⟨Z, Γ, s, (Post.bind (f := fun d Γ1 => (evE ms Γ1).bind fun ds Γ2 => .ok (d :: ds) Γ2) h).mono (fun d Γ1 h1 Z1 H1 v g1 r1 => ⟨Z1, Γ1, g1.s, h1.bind.mono (fun ds Γ2 h2 Z2 H2 vs g2 r2 =>
    h2 Z2 H2 (v :: vs) (g1.trans g2) (.cons (Rp.ag (g2.ag g1.s) r1) r2)) fun _ _ c => c⟩) fun _ _ c => c⟩
theorem de_tup {x1} (h : DL' X S C Δ es ms Δ1) (hl : ms.length ≤ 1000 := by first | decide | exact Nat.le_of_ble_eq_true rfl) : DE X S C Δ (.Tuple es x1 pos) (mTup ms) Δ1 .im :=
  (pe_tup h).weak fun σ H Q ⟨Z, Γ, s, hq⟩ => ⟨Z, Γ, s, hq.bind'.mono (fun ds Γ1 ⟨e1, h1⟩ Z1 H1 vs g1 r1 => by
    refine ⟨by rw [← r1.length, evE_len e1, sizeLine_eq]; omega, fun p n => ?_⟩
    exact resT (us := ds) g1.s.zd (fun Z' H' v g0 r => h1 Z' H' v (g1.trans (.gr0 g1.s g0)) r) r1 n) fun _ _ c => c⟩
theorem de_lst (h : DL' X S C Δ es ms Δ1) (hl : ms.length ≤ 1000 := by first | decide | exact Nat.le_of_ble_eq_true rfl) : DE X S C Δ (.List es pos) (mLst ms) Δ1 .ow :=
  (pe_lst h).weak fun σ H Q ⟨Z, Γ, s, hq⟩ => ⟨Z, Γ, s, hq.bind'.mono (fun ds Γ1 ⟨e1, h1⟩ Z1 H1 vs g1 r1 => by
    refine ⟨by rw [← r1.length, evE_len e1, sizeLine_eq]; omega, fun p n => ?_⟩
    exact resL (us := ds) g1.s.zd (fun Z' H' v g0 r => h1 Z' H' v (g1.trans (.gr0 g1.s g0)) (r.kr g1.s g0 g1.g.th)) r1 n) fun _ _ c => c⟩
end
end DL
/-! DL6: subscripts, slices, built-ins. -/
namespace DL
open PySem PySem.Spec PyProof.Rows L2

/-! ### sum of a tuple -/
section
variable {prog : Program} {w : World} {A : Around} {E : Value → Shared → Prop} {s : Shared} {l : Addr} {its : List Value} {ns : List Int} {Q : Value → Shared → Prop}
theorem sum_rawT (hh : A.handled = none) (hl : s.heap.IsTuple l its.toArray) (hi : IntsAre its ns)
    (h : ∀ h' tk t', (∀ b o, s.heap.get? b = some o → h'.get? b = some o) → Q (.int ns.sum t') { s with heap := h', toks := tk }) : wpAny (model prog w) A (call (.builtin "sum") [.ref l]) Q E s := by
  obtain ⟨xs, e⟩ := hi.allInts.items
  have hn : numsOf (intItems xs).toList = ns := by rw [← e]; exact hi.numsOf
  rw [nums_intItems] at hn
  rw [e] at hl
  refine call_sum_walkG (wpAny_pyIter_tuple hl ?_)
  have hlt : l < s.heap.objs.size := by obtain ⟨_, e, _⟩ := hl; exact Heap.lt_size e
  have hlI : l ≠ s.heap.objs.size := Nat.ne_of_lt hlt
  refine ⟨_, _, _, _, _, _, numAt xs, rfl, Walks.tuple (A := A.in1) hh _ l hlI (intItems xs), ⟨⟨_, Heap.get?_push_size _ rfl, rfl, rfl⟩, hl.push _⟩, fun b hb => ?_, (fun _ _ => intItems_at), fun h' tk t' hk => ?_⟩
  · show b < (s.heap.push _).objs.size
    rw [Heap.size_push]
    rcases List.mem_cons.mp hb with rfl | hb
    · exact Nat.lt_succ_self _
    · rcases List.mem_cons.mp hb with rfl | hb
      · exact Nat.lt_succ_of_lt hlt
      · cases hb
  · have := h h' tk t' (fun b o eo => hk b o (fun hm => by
      rcases List.mem_cons.mp hm with e1 | hm
      · exact absurd (e1 ▸ Heap.lt_size eo) (Nat.lt_irrefl _)
      · cases hm) (Heap.get?_push_of_some _ eo))
    rw [preSum_eq, List.take_of_length_le (by simp [intItems]), hn]; exact this
end
def rSumT (K : PySem.W.Frag) : List V → Hp → VK → Prop := fun vs H Q => ∃ (a : Addr) (ns : List Int), vs = [V.ref a] ∧ SqT K H a (ns.map V.int) ∧ Q (.int ns.sum) H
theorem cr_sumT {X : Cx} (hc : X.calm = true) : CallR X (.builtin "sum") (rSumT X.K) := by
  intro pins s σ H vs us Q I r h
  obtain ⟨a, ns, rfl, hs, q⟩ := h
  obtain ⟨its, rv, hl, _⟩ := I.tuple hs
  rw [Vals.ref1 r]
  exact sum_rawT (I.ok.hd hc) hl rv.ints fun h' tk t' hk => ⟨.int _, H, I.kept hk, ⟨_, rfl⟩, q⟩

/-! ### subscripts -/
def ixD : D → D → Option D
  | .tup xs, .int i => atI xs i
  | .lst xs, .int i => atI xs i
  | .str s, .int i => if s.length ≤ 16777216 then (atI s.cps.toList i).map fun c => .str ⟨#[c]⟩ else none
  | _, _ => none
theorem atI_rps {K : PySem.W.Frag} {mg : Str → Option Value} {Z : Addr → Prop} {H : Hp} {ds : List D} {vs : List V} {i : Int} {d : D} (r : Rps K mg Z H ds vs) (h : atI ds i = some d) : ∃ v, atI vs i = some v ∧ Rp K mg Z H d v := by
  unfold atI at h ⊢
  rw [← r.length]
  cases e : ixN ds.length i with
  | none => rw [e] at h; cases h
  | some j =>
    rw [e] at h
    exact r.get h
def IxR' (X : Cx) (r : R2) : Prop := IxR X r
theorem IxR_imp {X : Cx} {r r' : R2} (h : IxR X r) (w : ∀ x y H Q, r' x y H Q → r x y H Q) : IxR X r' :=
  fun value slice pins s σ H x y v u Q I rx ry q hs => h value slice pins s σ H x y v u Q I rx ry (w x y H Q q) hs
theorem xd_ix {X : Cx} : IxR X (rD2 X.K X.mg ixD false) := IxR_imp ix_seq fun x y H Q ⟨Z, d, e, u, zd, p1, p2, h, q⟩ => by
  have hz : sizeLine = 16777216 := sizeLine_eq
  unfold ixD at h; split at h
  · obtain ⟨a, vs, rfl, f, r⟩ := p1.tup
    obtain ⟨v, hv, rv⟩ := atI_rps r h
    exact .inr (.inl ⟨a, vs, _, v, rfl, p2.int, f.sq, hv, res0 zd q rv⟩)
  · obtain ⟨a, vs, rfl, f, r⟩ := p1.lst
    obtain ⟨v, hv, rv⟩ := atI_rps r h
    exact .inl ⟨a, vs, _, v, rfl, p2.int, f, hv, res0 zd q rv⟩
  · split at h
    · obtain ⟨c, hc, rfl⟩ := Option.map_eq_some_iff.mp h
      exact .inr (.inr ⟨_, _, c, p1.str, p2.int, by omega, hc, res0 zd q (.str _)⟩)
    · cases h
  · cases h

/-! ### slices -/
def cutL (xs : List D) (lo hi : Option Int) : List D := (xs.drop (HT.sIx xs.length 0 lo)).take (HT.sIx xs.length xs.length hi - HT.sIx xs.length 0 lo)
theorem cut_rps {K : PySem.W.Frag} {mg : Str → Option Value} {Z : Addr → Prop} {H : Hp} {ds : List D} {vs : List V} {lo hi : Option Int} (r : Rps K mg Z H ds vs) : Rps K mg Z H (cutL ds lo hi) (cutV vs lo hi) := by
  unfold cutL cutV
  rw [← r.length]
  exact (r.drop _).take _
/-- a tuple's or a text's slice -/
def slD : D → Option Int → Option Int → Option D
  | .tup xs, lo, hi => some (.tup (cutL xs lo hi))
  | .str s, lo, hi => if s.length ≤ 16777216 then some (.str (Txt.slice s lo hi)) else none
  | _, _, _ => none
/-- a list's slice -/
def slL : D → Option Int → Option Int → Option D
  | .lst xs, lo, hi => some (.lst (cutL xs lo hi))
  | _, _, _ => none
def rS (K : PySem.W.Frag) (mg : Str → Option Value) (f : D → Option Int → Option Int → Option D) (b : Bool) : V → Option Int → Option Int → Hp → VK → Prop := fun x lo hi H Q =>
  ∃ Z d u, Zd Z H ∧ Pk K mg Z H d x ∧ f d lo hi = some u ∧ ∀ Z' H' v, Gr0 Z Z' H H' → ResB K mg H Z' H' b u v → Q v H'
theorem SlR_imp {X : Cx} {r r' : V → Option Int → Option Int → Hp → VK → Prop} (h : SlR X r) (w : ∀ x lo hi H Q, r' x lo hi H Q → r x lo hi H Q) : SlR X r' :=
  fun pins s σ H x v vl vu lo hi sl Q I rx hs pl pu q => h pins s σ H x v vl vu lo hi sl Q I rx hs pl pu (w x lo hi H Q q)
theorem sIx_le' (n d : Nat) (hd : d ≤ n) (o : Option Int) : HT.sIx n d o ≤ n := HT.sIx_le n d hd o
theorem cut_whole {xs : List D} {lo hi : Option Int} (h : HT.sIx xs.length 0 lo = 0 ∧ HT.sIx xs.length xs.length hi = xs.length) : cutL xs lo hi = xs := by
  unfold cutL
  rw [h.1, h.2]
  simp
theorem sd_sl {X : Cx} : SlR X (rS X.K X.mg slD false) := SlR_imp (SlR.or sl_tupA C8.sl_txt) fun x lo hi H Q ⟨Z, d, u, zd, p1, h, q⟩ => by
  have hz : sizeLine = 16777216 := sizeLine_eq
  unfold slD at h; split at h
  · cases h
    obtain ⟨a, vs, rfl, f, r⟩ := p1.tup
    refine .inl ⟨a, vs, rfl, f.sq, fun hw => ?_, fun hw p n => resT zd q (cut_rps r) n⟩
    rw [cut_whole (by rw [r.length]; exact hw)] at q
    exact res0 zd q (.tup f r)
  · split at h
    · cases h; exact .inr ⟨_, p1.str, by omega, res0 zd q (.str _)⟩
    · cases h
  · cases h
theorem sd_slL {X : Cx} : SlR X (rS X.K X.mg slL true) := SlR_imp sl_list fun x lo hi H Q ⟨Z, d, u, zd, p1, h, q⟩ => by
  unfold slL at h; split at h
  · cases h
    obtain ⟨a, vs, rfl, f, r⟩ := p1.lst
    exact ⟨a, vs, rfl, f, fun p n => resL zd q (cut_rps r) n⟩
  · cases h
def toI : D → Option (Option Int)
  | .int i => some (some i)
  | _ => none
def mNoP : Gm → R (Option Int) := fun Γ => .ok none Γ
def mP (m : Gm → R D) : Gm → R (Option Int) := fun Γ => (m Γ).bind fun d Γ1 => R.of (toI d) Γ1
def mSl (f : D → Option Int → Option Int → Option D) (m : Gm → R D) (ml mu : Gm → R (Option Int)) : Gm → R D := fun Γ => (m Γ).bind fun d Γ1 => (ml Γ1).bind fun l Γ2 => (mu Γ2).bind fun u Γ3 => R.of (f d l u) Γ3
def rdO (K : PySem.W.Frag) (mg : Str → Option Value) (S : Sx) (C : Xd → Gm → Prop) (Δ : Fl) (m : Gm → R (Option Int)) (Δ' : Fl) : TO := fun σ H Q =>
  ∃ Z Γ, SR K mg S Δ Z Γ σ H ∧ Post (m Γ) (fun o Γ' => ∀ Z' H', Go K mg S σ Δ Z Γ H Δ' Z' Γ' H' → Q o H') C
abbrev DO (X : Cx) (S : Sx) (C : Xd → Gm → Prop) (Δ : Fl) (e : Option Expr) (m : Gm → R (Option Int)) (Δ' : Fl) : Prop := PO X e (rdO X.K X.mg S C Δ m Δ')
def KeepO (k : Kd) (m : Gm → R (Option Int)) : Prop := ∀ i, k = .sl i → ∀ Γ d Γ', m Γ = .ok d Γ' → Γ'[i]? = Γ[i]?
theorem koim (m : Gm → R (Option Int)) : KeepO .im m := fun _ e => nomatch e
theorem koow (m : Gm → R (Option Int)) : KeepO .ow m := fun _ e => nomatch e
theorem ko_no (k : Kd) : KeepO k mNoP := fun _ _ Γ d Γ' e => by cases e; rfl
theorem ko_p {m : Gm → R D} (h : Pu m) (k : Kd) : KeepO k (mP m) := fun i _ Γ d Γ' e => by
  unfold mP at e
  cases e1 : m Γ with
  | ok a Γ1 =>
    rw [e1, R.bind_ok] at e
    cases q : toI a with
    | some u => rw [q] at e; cases e; rw [h _ _ _ e1]
    | none => rw [q] at e; cases e
  | ex x Γ2 => rw [e1] at e; cases e
  | no => rw [e1] at e; cases e
section
variable {X : Cx} {S : Sx} {C : Xd → Gm → Prop} {Δ Δ1 Δ2 Δ3 : Fl} {a b : Expr} {lo hi : Option Expr} {m m1 m2 : Gm → R D} {ml mu : Gm → R (Option Int)} {k k1 k2 : Kd} {pos p2 : Pos}
theorem PO_weak {e : Option Expr} {t u : TO} (h : PO X e t) (hw : ∀ σ H Q, u σ H Q → t σ H Q) : PO X e u := ⟨fun pins s σ H Q I q => h.run pins s σ H Q I (hw σ H Q q)⟩
theorem do_no : DO X S C Δ none mNoP Δ := PO_weak po_none fun σ H Q ⟨Z, Γ, s, h⟩ => h Z H (.refl s)
theorem do_p (h : DE X S C Δ a m Δ1 k) : DO X S C Δ (some a) (mP m) Δ1 := PO_weak (po_some h) fun σ H Q ⟨Z, Γ, s, h⟩ => ⟨Z, Γ, s, h.bind.mono (fun d Γ1 h1 Z1 H1 v g1 r1 => by
  obtain ⟨u, hu, q⟩ := h1.of
  unfold toI at hu
  split at hu
  · cases hu; exact ⟨_, (r1.pk g1.s).int, q Z1 H1 g1⟩
  · cases hu) fun _ _ c => c⟩
theorem de_ix {f : D → D → Option D} {bo : Bool} (ho : IxR X (rD2 X.K X.mg f bo)) (ha : DE X S C Δ a m1 Δ1 k1) (hb : DE X S C Δ1 b m2 Δ2 k2) (hk : KeepK k1 m2) (hs : PlainIx b := by exact fun _ _ => rfl) :
    DE X S C Δ (.Subscript a b pos) (mBin f m1 m2) Δ2 (kb bo) :=
  (pe_ix ho ha hb hs).weak fun σ H Q ⟨Z, Γ, s, h⟩ => seq2 s h hk fun d e Γ2 Z2 H2 x y g p1 p2 h2 => fin2 g p1 p2 h2
theorem de_sl_ {f : D → Option Int → Option Int → Option D} {bo : Bool} (hr : SlR X (rS X.K X.mg f bo)) (ha : DE X S C Δ a m Δ1 k) (hl : DO X S C Δ1 lo ml Δ2) (hu : DO X S C Δ2 hi mu Δ3) (h1 : KeepO k ml) (h2 : KeepO k mu) :
    DE X S C Δ (.Subscript a (.Slice lo hi none p2) pos) (mSl f m ml mu) Δ3 (kb bo) :=
  (pe_slice hr ha hl hu).weak fun σ H Q ⟨Z, Γ, s, h⟩ => ⟨Z, Γ, s, h.bind.mono (fun d Γ1 q1 Z1 H1 v g1 r1 => ⟨Z1, Γ1, g1.s, q1.bind'.mono (fun l Γ2 ⟨e2, q2⟩ Z2 H2 g2 => ⟨Z2, Γ2, g2.s, q2.bind'.mono (fun u Γ3 ⟨e3, q3⟩ Z3 H3 g3 => by
    obtain ⟨w, hw, q⟩ := q3.of
    have r2 := r1.lift g1.s g2 fun i e => h1 i e _ _ _ e2
    have r3 := r2.lift g2.s g3 fun i e => h2 i e _ _ _ e3
    have g := (g1.trans g2).trans g3
    exact ⟨Z3, d, w, g3.s.zd, r3.pk g3.s, hw, fun Z' H' v g0 r => q Z' H' v (g.trans (.gr0 g3.s g0)) (r.kr g3.s g0 g.g.th)⟩) fun _ _ c => c⟩) fun _ _ c => c⟩) fun _ _ c => c⟩
end

/-! ### built-ins of one part -/
def rC1 (K : PySem.W.Frag) (mg : Str → Option Value) (f : D → Option D) (b : Bool) : List V → Hp → VK → Prop := fun xs H Q => ∃ x, xs = [x] ∧ rD1 K mg f b x H Q
theorem cri {X : Cx} {f : Value} {r r' : List V → Hp → VK → Prop} (h : CallR X f r) (w : ∀ xs H Q, r' xs H Q → r xs H Q) : CallR X f r' := fun pins s σ H xs us Q I rs q => h pins s σ H xs us Q I rs (w xs H Q q)
def intsD : List D → Option (List Int)
  | [] => some []
  | .int i :: ds => (intsD ds).map (i :: ·)
  | _ :: _ => none
def blsD : List D → Option (List Bool)
  | [] => some []
  | .bl i :: ds => (blsD ds).map (i :: ·)
  | _ :: _ => none
theorem rps_ints {K : PySem.W.Frag} {mg : Str → Option Value} {Z : Addr → Prop} {H : Hp} : ∀ {ds : List D} {vs : List V} {ns : List Int}, Rps K mg Z H ds vs → intsD ds = some ns → vs = ns.map V.int
  | _, _, ns, .nil, e => by cases e; rfl
  | .int i :: ds, _, ns, .cons r t, e => by
    cases r
    simp only [intsD, Option.map_eq_some_iff] at e
    obtain ⟨ms, e1, rfl⟩ := e
    rw [rps_ints t e1]; rfl
  | .non :: _, _, _, .cons _ _, e => by cases e
  | .bl _ :: _, _, _, .cons _ _, e => by cases e
  | .str _ :: _, _, _, .cons _ _, e => by cases e
  | .tup _ :: _, _, _, .cons _ _, e => by cases e
  | .lst _ :: _, _, _, .cons _ _, e => by cases e
  | .dct _ :: _, _, _, .cons _ _, e => by cases e
  | .set _ :: _, _, _, .cons _ _, e => by cases e
  | .obj _ _ :: _, _, _, .cons _ _, e => by cases e
  | .glo _ :: _, _, _, .cons _ _, e => by cases e
theorem rps_bls {K : PySem.W.Frag} {mg : Str → Option Value} {Z : Addr → Prop} {H : Hp} : ∀ {ds : List D} {vs : List V} {ns : List Bool}, Rps K mg Z H ds vs → blsD ds = some ns → vs = ns.map V.bl
  | _, _, ns, .nil, e => by cases e; rfl
  | .bl i :: ds, _, ns, .cons r t, e => by
    cases r
    simp only [blsD, Option.map_eq_some_iff] at e
    obtain ⟨ms, e1, rfl⟩ := e
    rw [rps_bls t e1]; rfl
  | .non :: _, _, _, .cons _ _, e => by cases e
  | .int _ :: _, _, _, .cons _ _, e => by cases e
  | .str _ :: _, _, _, .cons _ _, e => by cases e
  | .tup _ :: _, _, _, .cons _ _, e => by cases e
  | .lst _ :: _, _, _, .cons _ _, e => by cases e
  | .dct _ :: _, _, _, .cons _ _, e => by cases e
  | .set _ :: _, _, _, .cons _ _, e => by cases e
  | .obj _ _ :: _, _, _, .cons _ _, e => by cases e
  | .glo _ :: _, _, _, .cons _ _, e => by cases e
def lenD : D → Option D
  | .tup xs => some (.int xs.length)
  | .lst xs => some (.int xs.length)
  | .str s => if s.length ≤ 16777216 then some (.int s.length) else none
  | _ => none
def intD : D → Option D
  | .int i => some (.int i)
  | .bl b => some (.int (if b then 1 else 0))
  | _ => none
def absD : D → Option D
  | .int i => some (.int (if i < 0 then -i else i))
  | _ => none
def strD : D → Option D
  | .int i => if i.natAbs.log2 < 1920 then some (.str (toString i)) else none
  | _ => none
def sumD : D → Option D
  | .lst xs => (intsD xs).map fun ns => .int ns.sum
  | .tup xs => (intsD xs).map fun ns => .int ns.sum
  | _ => none
def tupleD : D → Option D
  | .tup xs => some (.tup xs)
  | .lst xs => some (.tup xs)
  | _ => none
/-- list(..): a new list -/
def listD : D → Option D
  | .tup xs => some (.lst xs)
  | .lst xs => some (.lst xs)
  | _ => none
def allD : D → Option D
  | .lst xs => (blsD xs).map fun ns => .bl (ns.all id)
  | _ => none
def anyD : D → Option D
  | .lst xs => (blsD xs).map fun ns => .bl (ns.any id)
  | _ => none
section
variable {X : Cx}
theorem cd_len : CallR X (.builtin "len") (rC1 X.K X.mg lenD false) := cri call_len fun xs H Q ⟨x, e, Z, d, u, zd, p1, h, q⟩ => by
  have hz : sizeLine = 16777216 := sizeLine_eq
  subst e
  unfold lenD at h; split at h
  · cases h
    obtain ⟨a, vs, rfl, f, r⟩ := p1.tup
    exact ⟨_, _, rfl, .inr ⟨vs, f.sq, r.length⟩, res0 zd q (.int _)⟩
  · cases h
    obtain ⟨a, vs, rfl, f, r⟩ := p1.lst
    exact ⟨_, _, rfl, .inl ⟨vs, f, r.length⟩, res0 zd q (.int _)⟩
  · split at h
    · cases h
      rw [p1.str]
      exact ⟨_, _, rfl, ⟨by omega, rfl⟩, res0 zd q (.int _)⟩
    · cases h
  · cases h
theorem cd_int : CallR X (.type "int") (rC1 X.K X.mg intD false) := cri call_int1 fun xs H Q ⟨x, e, Z, d, u, zd, p1, h, q⟩ => by
  subst e
  unfold intD at h; split at h
  · cases h; rw [p1.int]; exact .inl ⟨_, rfl, res0 zd q (.int _)⟩
  · cases h; rw [p1.bl]; exact .inr ⟨_, rfl, res0 zd q (.int _)⟩
  · cases h
theorem cd_abs : CallR X (.builtin "abs") (rC1 X.K X.mg absD false) := cri call_abs fun xs H Q ⟨x, e, Z, d, u, zd, p1, h, q⟩ => by
  subst e
  unfold absD at h; split at h
  · cases h; rw [p1.int]; exact ⟨_, rfl, res0 zd q (.int _)⟩
  · cases h
theorem cd_str : CallR X (.type "str") (rC1 X.K X.mg strD false) := cri call_str_int fun xs H Q ⟨x, e, Z, d, u, zd, p1, h, q⟩ => by
  subst e
  unfold strD at h; split at h
  · split at h
    · rename_i hl; cases h; rw [p1.int]; exact ⟨_, rfl, hl, res0 zd q (.str _)⟩
    · cases h
  · cases h
theorem cd_sum (hc : X.calm = true) : CallR X (.builtin "sum") (rC1 X.K X.mg sumD false) := cri (CallR.or (cr_sum hc) (cr_sumT hc)) fun xs H Q ⟨x, e, Z, d, u, zd, p1, h, q⟩ => by
  subst e
  unfold sumD at h; split at h
  · obtain ⟨ns, hn, rfl⟩ := Option.map_eq_some_iff.mp h
    obtain ⟨a, vs, rfl, f, r⟩ := p1.lst
    rw [rps_ints r hn] at f
    exact .inl ⟨a, ns, rfl, f, res0 zd q (.int _)⟩
  · obtain ⟨ns, hn, rfl⟩ := Option.map_eq_some_iff.mp h
    obtain ⟨a, vs, rfl, f, r⟩ := p1.tup
    have f' := f.sq
    rw [rps_ints r hn] at f'
    exact .inr ⟨a, ns, rfl, f', res0 zd q (.int _)⟩
  · cases h
theorem cd_tuple : CallR X (.type "tuple") (rC1 X.K X.mg tupleD false) := cri call_tuple_of fun xs H Q ⟨x, e, Z, d, u, zd, p1, h, q⟩ => by
  subst e
  unfold tupleD at h; split at h
  · cases h
    obtain ⟨a, vs, rfl, f, r⟩ := p1.tup
    exact ⟨a, vs, rfl, .inr ⟨f.sq, res0 zd q (.tup f r)⟩⟩
  · cases h
    obtain ⟨a, vs, rfl, f, r⟩ := p1.lst
    exact ⟨a, vs, rfl, .inl ⟨f, fun p n => resT zd q r n⟩⟩
  · cases h
theorem cd_list : CallR X (.type "list") (rC1 X.K X.mg listD true) := cri call_list_of fun xs H Q ⟨x, e, Z, d, u, zd, p1, h, q⟩ => by
  subst e
  unfold listD at h; split at h
  · cases h
    obtain ⟨a, vs, rfl, f, r⟩ := p1.tup
    exact ⟨a, vs, rfl, .inr f.sq, fun p n => resL zd q r n⟩
  · cases h
    obtain ⟨a, vs, rfl, f, r⟩ := p1.lst
    exact ⟨a, vs, rfl, .inl f, fun p n => resL zd q r n⟩
  · cases h
theorem cd_all (hc : X.calm = true) : CallR X (.builtin "all") (rC1 X.K X.mg allD false) := cri (cr_all hc) fun xs H Q ⟨x, e, Z, d, u, zd, p1, h, q⟩ => by
  subst e
  unfold allD at h; split at h
  · obtain ⟨ns, hn, rfl⟩ := Option.map_eq_some_iff.mp h
    obtain ⟨a, vs, rfl, f, r⟩ := p1.lst
    rw [rps_bls r hn] at f
    exact ⟨a, ns, rfl, f, res0 zd q (.bl _)⟩
  · cases h
theorem cd_any (hc : X.calm = true) : CallR X (.builtin "any") (rC1 X.K X.mg anyD false) := cri (cr_any hc) fun xs H Q ⟨x, e, Z, d, u, zd, p1, h, q⟩ => by
  subst e
  unfold anyD at h; split at h
  · obtain ⟨ns, hn, rfl⟩ := Option.map_eq_some_iff.mp h
    obtain ⟨a, vs, rfl, f, r⟩ := p1.lst
    rw [rps_bls r hn] at f
    exact ⟨a, ns, rfl, f, res0 zd q (.bl _)⟩
  · cases h
end
section
variable {X : Cx} {S : Sx} {C : Xd → Gm → Prop} {Δ Δ1 Δ2 : Fl} {a b : Expr} {m m1 m2 : Gm → R D} {k k1 k2 : Kd} {pos p : Pos} {x : Str} {id T : String} {f : D → Option D} {bo : Bool}
theorem un_fin {t : TE} (w : ∀ σ H Q, (rdE X.K X.mg S C Δ m Δ1 k σ H fun v H1 => rD1 X.K X.mg f bo v H1 Q) → t σ H Q) : ∀ σ H Q, rdE X.K X.mg S C Δ (mUn f m) Δ1 (kb bo) σ H Q → t σ H Q := fun σ H Q ⟨Z, Γ, s, h⟩ =>
  w σ H Q ⟨Z, Γ, s, h.bind.mono (fun d Γ1 h1 Z1 H1 v g1 r1 => by
    obtain ⟨u, hu, q⟩ := h1.of
    exact ⟨Z1, d, u, g1.s.zd, r1.pk g1.s, hu, fun Z' H' v g0 r => q Z' H' v (g1.trans (.gr0 g1.s g0)) (r.kr g1.s g0 g1.g.th)⟩) fun _ _ c => c⟩
/-- f(e), f a built-in function -/
theorem de_call1 (hc : CallR X (.builtin id) (rC1 X.K X.mg f bo)) (hm : X.mg x = none) (hv : bootBuiltins x = some (.builtin id)) (ha : DE X S C Δ a m Δ1 k) (hg : Gl X x := by rfl) (hn : x ≠ "__name__" := by decide) (hdb : (x == ("__debug__" : Str)) = false := by decide)
    (he : starEach (a :: []) X.env = (false, eval a X.env) :: starEach [] X.env := by rfl) (hpl : (backTo pos (starEach [] X.env)).any (·.1) = false := by rfl) : DE X S C Δ (.Call (.Name x p) [a] [] pos) (mUn f m) Δ1 (kb bo) :=
  (pe_callB hc hg hm hv (pa_cons ha pa_nil he) hn hdb he hpl).weak (un_fin fun σ H Q ⟨Z, Γ, s, h⟩ => ⟨Z, Γ, s, h.mono (fun d Γ1 h1 Z1 H1 v g1 r1 => ⟨v, rfl, h1 Z1 H1 v g1 r1⟩) fun _ _ c => c⟩)
/-- T(e), T a built-in type -/
theorem de_ty1 (hc : CallR X (.type T) (rC1 X.K X.mg f bo)) (hm : X.mg x = none) (hv : bootBuiltins x = some (.type T)) (ha : DE X S C Δ a m Δ1 k) (hg : Gl X x := by rfl) (hn : x ≠ "__name__" := by decide) (hdb : (x == ("__debug__" : Str)) = false := by decide)
    (he : starEach (a :: []) X.env = (false, eval a X.env) :: starEach [] X.env := by rfl) (hpl : (backTo pos (starEach [] X.env)).any (·.1) = false := by rfl) : DE X S C Δ (.Call (.Name x p) [a] [] pos) (mUn f m) Δ1 (kb bo) :=
  (pe_callTy hc hg hm hv (pa_cons ha pa_nil he) hn hdb he hpl).weak (un_fin fun σ H Q ⟨Z, Γ, s, h⟩ => ⟨Z, Γ, s, h.mono (fun d Γ1 h1 Z1 H1 v g1 r1 => ⟨v, rfl, h1 Z1 H1 v g1 r1⟩) fun _ _ c => c⟩)
end
end DL
/-! DL7: statements. -/
namespace DL
open PySem PySem.Spec PyProof.Rows L2

def isPM (P : List Nat) (i : Nat) : Bool := P.contains i
/-- the slots of owned arguments alone -/
def mask (P : List Nat) (Γ : Gm) : Gm := Γ.mapIdx fun i o => if P.contains i then o else none
/-- which slots are the owned arguments' -/
def PMs (S : Sx) (P : List Nat) : Prop := S.PM.map (·.1) = P
theorem PMs.mem {S : Sx} {P : List Nat} (h : PMs S P) {p : Nat × Addr} (m : p ∈ S.PM) : p.1 ∈ P := by
  rw [← h]; exact List.mem_map_of_mem m
theorem PMs.own {S : Sx} {P : List Nat} {Δ : Fl} (h : PMs S P) (hd : (P.all fun i => Δ[i]? == some true) = true) : ∀ p ∈ S.PM, DL.own Δ p.1 := fun p m => by
  have := List.all_eq_true.mp hd p.1 (h.mem m)
  show Δ[p.1]? = some true
  simpa using this
def Rt (K : PySem.W.Frag) (mg : Str → Option Value) (S : Sx) (Z : Addr → Prop) (H : Hp) : Bool → D → V → Prop
  | false, d, v => Rp K mg Z H d v
  | true, d, v => ∃ a : Addr, v = .ref a ∧ Ow K mg Z H a d ∧ ¬ Z a ∧ ¬ S.M a ∧ S.H0 a = none
/-- what a body is asked within: S the entry, C what becomes of exceptions, P the owned arguments' slots, ro: an owned result, Δl the flags at break and continue -/
structure Bx where
  S : Sx
  C : Xd → Gm → Prop
  P : List Nat
  n : Nat
  Δx : Fl
  ro : Bool
  Δl : Fl
  F : List Nat
def Bx.nf (B : Bx) (i : Nat) : Bool := B.P.contains i || B.F.contains i
/-- the flags of the owned arguments alone -/
def flP (n : Nat) (P : List Nat) : Fl := (List.range n).map fun i => P.contains i
theorem flP_own {n : Nat} {P : List Nat} (h : ∀ i ∈ P, i < n) (j : Nat) : own (flP n P) j ↔ j ∈ P := by
  unfold own flP
  by_cases hj : j < n
  · rw [List.getElem?_map, List.getElem?_range hj]; simp
  · rw [List.getElem?_eq_none (by simpa using hj)]
    simp only [reduceCtorEq, false_iff]
    intro m
    exact hj (h j m)
theorem flP_len {n : Nat} {P : List Nat} : (flP n P).length = n := by simp [flP]
def SPost (K : PySem.W.Frag) (mg : Str → Option Value) (B : Bx) (Δ' : Fl) (Dn : Ends) (Z : Addr → Prop) (H : Hp) : SE → Prop
  | .nx Γ' => ∀ Z' σ' H', SR K mg B.S Δ' Z' Γ' σ' H' → Ag Z Z' H H' → Dn.nx σ' H'
  | .rt d Γ' => ∀ Z' σ' H' v, SR K mg B.S (flP B.n B.P) Z' (mask B.P Γ') σ' H' → Rt K mg B.S Z' H' B.ro d v → Dn.rt v H'
  | .bk Γ' => ∀ Z' σ' H', SR K mg B.S B.Δl Z' Γ' σ' H' → Ag Z Z' H H' → Dn.bk σ' H'
  | .ct Γ' => ∀ Z' σ' H', SR K mg B.S B.Δl Z' Γ' σ' H' → Ag Z Z' H H' → Dn.ct σ' H'
  | .ex x Γ' => B.C x Γ'
  | .no => False
def rdS (K : PySem.W.Frag) (mg : Str → Option Value) (B : Bx) (Δ : Fl) (m : Gm → SE) (Δ' : Fl) : TS := fun Dn σ H =>
  ∃ Z Γ, SR K mg B.S Δ Z Γ σ H ∧ SPost K mg B Δ' Dn Z H (m Γ)
abbrev DS (X : Cx) (B : Bx) (Δ : Fl) (st : Stmt) (m : Gm → SE) (Δ' : Fl) : Prop := PS X st (rdS X.K X.mg B Δ m Δ')
abbrev DSs (X : Cx) (B : Bx) (Δ : Fl) (sts : List Stmt) (m : Gm → SE) (Δ' : Fl) : Prop := PSs X sts (rdS X.K X.mg B Δ m Δ')
def R.toS {α : Type} (r : R α) (f : α → Gm → SE) : SE := match r with
  | .ok a Γ => f a Γ
  | .ex x Γ => .ex x Γ
  | .no => .no
@[simp] theorem R.toS_ok {α : Type} (a : α) (Γ : Gm) (f : α → Gm → SE) : (R.ok a Γ).toS f = f a Γ := (rfl)
@[simp] theorem R.toS_ex {α : Type} (x : Xd) (Γ : Gm) (f : α → Gm → SE) : (R.ex x Γ : R α).toS f = .ex x Γ := (rfl)
@[simp] theorem R.toS_no {α : Type} (f : α → Gm → SE) : (R.no : R α).toS f = .no := (rfl)
theorem SPost.bind {α : Type} {K : PySem.W.Frag} {mg : Str → Option Value} {B : Bx} {Δ' : Fl} {Dn : Ends} {Z : Addr → Prop} {H : Hp} {r : R α} {f : α → Gm → SE} (h : SPost K mg B Δ' Dn Z H (r.toS f)) : Post r (fun a Γ => r = .ok a Γ ∧ SPost K mg B Δ' Dn Z H (f a Γ)) B.C := by
  cases r with
  | ok a Γ => exact ⟨rfl, h⟩
  | ex x Γ => exact h
  | no => exact h
def SE.seq (r : SE) (f : Gm → SE) : SE := match r with
  | .nx Γ => f Γ
  | r => r
@[simp] theorem SE.seq_nx (Γ : Gm) (f : Gm → SE) : (SE.nx Γ).seq f = f Γ := (rfl)
@[simp] theorem SE.seq_rt (d : D) (Γ : Gm) (f : Gm → SE) : (SE.rt d Γ).seq f = .rt d Γ := (rfl)
@[simp] theorem SE.seq_bk (Γ : Gm) (f : Gm → SE) : (SE.bk Γ).seq f = .bk Γ := (rfl)
@[simp] theorem SE.seq_ct (Γ : Gm) (f : Gm → SE) : (SE.ct Γ).seq f = .ct Γ := (rfl)
@[simp] theorem SE.seq_ex (x : Xd) (Γ : Gm) (f : Gm → SE) : (SE.ex x Γ).seq f = .ex x Γ := (rfl)
@[simp] theorem SE.seq_no (f : Gm → SE) : (SE.no).seq f = .no := (rfl)

theorem Ag.refl {Z : Addr → Prop} {H : Hp} : Ag Z Z H H := ⟨fun _ z => z, fun _ _ => rfl⟩
theorem Ag.trans {Z Z1 Z2 : Addr → Prop} {H H1 H2 : Hp} (a : Ag Z Z1 H H1) (b : Ag Z1 Z2 H1 H2) : Ag Z Z2 H H2 := ⟨fun x z => b.zs x (a.zs x z), fun x z => (b.eq x (a.zs x z)).trans (a.eq x z)⟩
theorem SPost.from {K : PySem.W.Frag} {mg : Str → Option Value} {B : Bx} {Δ' : Fl} {Dn : Ends} {Z Z1 : Addr → Prop} {H H1 : Hp} {r : SE} (h : SPost K mg B Δ' Dn Z H r) (g : Ag Z Z1 H H1) : SPost K mg B Δ' Dn Z1 H1 r := by
  cases r with
  | nx Γ => exact fun Z' σ' H' s a => h Z' σ' H' s (g.trans a)
  | rt d Γ => exact h
  | bk Γ => exact fun Z' σ' H' s a => h Z' σ' H' s (g.trans a)
  | ct Γ => exact fun Z' σ' H' s a => h Z' σ' H' s (g.trans a)
  | ex x Γ => exact h
  | no => exact h
/-! ### the state behind stores -/
section
variable {K : PySem.W.Frag} {mg : Str → Option Value} {S : Sx} {Δ Δ' : Fl} {Z Z' : Addr → Prop} {Γ : Gm} {σ : Sg} {H H' : Hp} {i : Nat} {d : D} {v : V}
theorem own_set {b : Bool} {j : Nat} : own (Δ.set i b) j ↔ (j = i ∧ i < Δ.length ∧ b = true) ∨ (j ≠ i ∧ own Δ j) := by
  unfold own
  by_cases h : i = j
  · subst h
    by_cases hl : i < Δ.length
    · rw [List.getElem?_set_self hl]; simp [hl]
    · rw [List.getElem?_eq_none (by simpa using hl)]; simp [hl]
  · rw [List.getElem?_set_ne h]
    simp [Ne.symm h]
/-- a frozen value is put into slot i -/
theorem SR.setIm (s : SR K mg S Δ Z Γ σ H) (r : Rp K mg Z H d v) (hi : S.Nf i) : SR K mg S (Δ.set i false) Z (Γ.set i (some d)) (σ.set i (some v)) H := by
  have hl := s.len
  have no : ∀ j, own (Δ.set i false) j ↔ j ≠ i ∧ own Δ j := fun j => by rw [own_set]; simp
  refine ⟨by simpa using hl, by simpa using s.dl, s.zd, s.z0, s.keep, s.new, fun j e he o => ?_, fun j e he o => ?_, fun j k e e' a hjk h1 o1 h2 o2 q => ?_, fun j a m => ?_, s.an, fun j u m => by
    have hj : i ≠ j := fun z => hi.f u (z ▸ m)
    rw [List.getElem?_set_ne hj]
    exact s.fx j u m⟩
  · by_cases hj : i = j
    · subst hj
      by_cases hil : i < Γ.length
      · rw [List.getElem?_set_self hil] at he
        cases he
        exact ⟨v, by rw [List.getElem?_set_self (by omega)], r⟩
      · rw [List.getElem?_eq_none (by simpa using hil)] at he; cases he
    · rw [List.getElem?_set_ne hj] at he ⊢
      exact s.im j e he fun q => o ((no j).mpr ⟨Ne.symm hj, q⟩)
  · obtain ⟨hj, o⟩ := (no j).mp o
    rw [List.getElem?_set_ne (Ne.symm hj)] at he ⊢
    exact s.ow j e he o
  · obtain ⟨hj, o1⟩ := (no j).mp o1
    obtain ⟨hk, o2⟩ := (no k).mp o2
    rw [List.getElem?_set_ne (Ne.symm hj)] at h1 q
    rw [List.getElem?_set_ne (Ne.symm hk)] at h2 ⊢
    exact s.ap j k e e' a hjk h1 o1 h2 o2 q
  · have hj : i ≠ j := fun z => hi.p a (z ▸ m)
    obtain ⟨q, o, e, he⟩ := s.par j a m
    rw [List.getElem?_set_ne hj, List.getElem?_set_ne hj]
    exact ⟨q, (no j).mpr ⟨Ne.symm hj, o⟩, e, he⟩
/-- an owned value is put into slot i -/
theorem SR.setOw {a : Addr} (s : SR K mg S Δ Z Γ σ H) (w : Ow K mg Z H a d) (nz : ¬ Z a) (no : ¬ OA Δ Γ σ a) (n0 : S.H0 a = none) (hi : S.Nf i) :
    SR K mg S (Δ.set i true) Z (Γ.set i (some d)) (σ.set i (some (V.ref a))) H := by
  have hl := s.len
  have hd := s.dl
  refine ⟨by simpa using hl, by simpa using s.dl, s.zd, s.z0, s.keep, s.new, fun j e he o => ?_, fun j e he o => ?_, fun j k e e' b hjk h1 o1 h2 o2 q => ?_, fun j b m => ?_, s.an, fun j u m => by
    have hj : i ≠ j := fun z => hi.f u (z ▸ m)
    rw [List.getElem?_set_ne hj]
    exact s.fx j u m⟩
  · by_cases hj : i = j
    · subst hj
      by_cases hil : i < Γ.length
      · exact absurd (own_set.mpr (.inl ⟨rfl, by omega, rfl⟩)) o
      · rw [List.getElem?_eq_none (by simpa using hil)] at he; cases he
    · rw [List.getElem?_set_ne hj] at he ⊢
      exact s.im j e he fun q => o (own_set.mpr (.inr ⟨Ne.symm hj, q⟩))
  · by_cases hj : i = j
    · subst hj
      by_cases hil : i < Γ.length
      · rw [List.getElem?_set_self hil] at he
        cases he
        exact ⟨a, by rw [List.getElem?_set_self (by omega)], w, nz, .inr n0⟩
      · rw [List.getElem?_eq_none (by simpa using hil)] at he; cases he
    · rcases own_set.mp o with ⟨z, _⟩ | ⟨_, o⟩
      · exact absurd z.symm hj
      rw [List.getElem?_set_ne hj] at he ⊢
      exact s.ow j e he o
  · -- addresses apart
    have key : ∀ {j : Nat} {e : D} {b : Addr}, i ≠ j → (Γ.set i (some d))[j]? = some (some e) → own (Δ.set i true) j → (σ.set i (some (V.ref a)))[j]? = some (some (V.ref b)) → OA Δ Γ σ b := fun {j e b} hj h1 o1 q => by
      rcases own_set.mp o1 with ⟨z, _⟩ | ⟨_, o1⟩
      · exact absurd z.symm hj
      rw [List.getElem?_set_ne hj] at h1 q
      exact ⟨j, e, o1, h1, q⟩
    have at_i : ∀ {b : Addr}, (σ.set i (some (V.ref a)))[i]? = some (some (V.ref b)) → b = a := fun {b} q => by
      by_cases hil : i < σ.length
      · rw [List.getElem?_set_self hil] at q; cases q; rfl
      · rw [List.getElem?_eq_none (by simpa using hil)] at q; cases q
    intro q2
    by_cases hj : i = j
    · subst hj
      have := at_i q
      subst this
      exact no (key hjk h2 o2 q2)
    · by_cases hk : i = k
      · subst hk
        have := at_i q2
        subst this
        exact no (key hj h1 o1 q)
      · rcases own_set.mp o1 with ⟨z, _⟩ | ⟨_, o1⟩
        · exact absurd z.symm hj
        rcases own_set.mp o2 with ⟨z, _⟩ | ⟨_, o2⟩
        · exact absurd z.symm hk
        rw [List.getElem?_set_ne hj] at h1 q
        rw [List.getElem?_set_ne hk] at h2 q2
        exact s.ap j k e e' b hjk h1 o1 h2 o2 q q2
  · have hj : i ≠ j := fun z => hi.p b (z ▸ m)
    obtain ⟨q, o, e, he⟩ := s.par j b m
    rw [List.getElem?_set_ne hj, List.getElem?_set_ne hj]
    exact ⟨q, own_set.mpr (.inr ⟨Ne.symm hj, o⟩), e, he⟩
/-- a slot forgotten -/
theorem SR.forget (s : SR K mg S Δ Z Γ σ H) (hi : ∀ a, (i, a) ∉ S.PM) : SR K mg S Δ Z (Γ.set i none) σ H := by
  have g : ∀ {j : Nat} {e : D}, (Γ.set i none)[j]? = some (some e) → Γ[j]? = some (some e) := fun {j e} h => by
    by_cases hj : i = j
    · subst hj
      by_cases hil : i < Γ.length
      · rw [List.getElem?_set_self hil] at h; cases h
      · rw [List.getElem?_eq_none (by simpa using hil)] at h; cases h
    · rwa [List.getElem?_set_ne hj] at h
  refine ⟨by simpa using s.len, by simpa using s.dl, s.zd, s.z0, s.keep, s.new, fun j e he o => s.im j e (g he) o, fun j e he o => s.ow j e (g he) o, fun j k e e' a hjk h1 o1 h2 o2 q => s.ap j k e e' a hjk (g h1) o1 (g h2) o2 q, fun j a m => ?_, s.an, s.fx⟩
  have hj : i ≠ j := fun z => hi a (z ▸ m)
  obtain ⟨q, o, e, he⟩ := s.par j a m
  exact ⟨q, o, e, by rw [List.getElem?_set_ne hj]; exact he⟩
/-- the thing that slot i owns is changed -/
theorem SR.mut {a : Addr} {o : HO} {d0 : D} (s : SR K mg S Δ Z Γ σ H) (oi : own Δ i) (hi : Γ[i]? = some (some d0)) (hs : σ[i]? = some (some (V.ref a))) (w : Ow K mg Z (upd H a o) a d) : SR K mg S Δ Z (Γ.set i (some d)) σ (upd H a o) := by
  obtain ⟨a', ha, w0, nz, hm⟩ := s.ow i d0 hi oi
  rw [hs] at ha; cases ha
  have hil : i < Γ.length := (List.getElem?_eq_some_iff.mp hi).1
  have ag : Ag Z Z H (upd H a o) := ⟨fun _ z => z, fun x z => upd_ne fun e => nz (e ▸ z)⟩
  have bnd : ∀ {j : Nat} {e : D}, (Γ.set i (some d))[j]? = some (some e) → (j = i ∧ e = d) ∨ (j ≠ i ∧ Γ[j]? = some (some e)) := fun {j e} h => by
    by_cases hj : i = j
    · subst hj
      rw [List.getElem?_set_self hil] at h
      cases h; exact .inl ⟨rfl, rfl⟩
    · rw [List.getElem?_set_ne hj] at h; exact .inr ⟨Ne.symm hj, h⟩
  have bnd' : ∀ {j : Nat} {e : D}, (Γ.set i (some d))[j]? = some (some e) → ∃ e', Γ[j]? = some (some e') := fun {j e} h => by
    rcases bnd h with ⟨rfl, rfl⟩ | ⟨_, h⟩
    · exact ⟨_, hi⟩
    · exact ⟨_, h⟩
  refine ⟨by simpa using s.len, by simpa using s.dl, s.zd.upd (fun xs e => w.ntup xs (by rw [upd_same, e])), s.z0, fun x u e m => ?_, s.new, fun j e he no => ?_, fun j e he oj => ?_, fun j k e e' b hjk h1 o1 h2 o2 q => ?_, fun j b m => ?_, S.anc _ _ _ _ s.an ag, s.fx⟩
  · have hx : x ≠ a := fun z => by
      subst z
      rcases hm with hm | hm
      · exact m hm
      · rw [hm] at e; cases e
    rw [upd_ne hx]; exact s.keep x u e m
  · rcases bnd he with ⟨rfl, rfl⟩ | ⟨_, he⟩
    · exact absurd oi no
    · obtain ⟨v, hv, r⟩ := s.im j e he no
      exact ⟨v, hv, r.ag ag⟩
  · rcases bnd he with ⟨rfl, rfl⟩ | ⟨hj, he⟩
    · exact ⟨a, hs, w, nz, hm⟩
    · obtain ⟨b, hb, wb, nzb, mb⟩ := s.ow j e he oj
      have hba : b ≠ a := fun z => by
        subst z
        exact s.ap j i e d0 b hj he oj hi oi hb hs
      exact ⟨b, hb, wb.ag ag (upd_ne hba), nzb, mb⟩
  · obtain ⟨f1, g1⟩ := bnd' h1
    obtain ⟨f2, g2⟩ := bnd' h2
    exact s.ap j k f1 f2 b hjk g1 o1 g2 o2 q
  · obtain ⟨q, oj, e, he⟩ := s.par j b m
    refine ⟨q, oj, ?_⟩
    by_cases hj : i = j
    · subst hj; exact ⟨d, by rw [List.getElem?_set_self hil]⟩
    · exact ⟨e, by rw [List.getElem?_set_ne hj]; exact he⟩
theorem mask_get {P : List Nat} {j : Nat} : (mask P Γ)[j]? = (Γ[j]?).map fun o => if P.contains j then o else none := by
  unfold mask
  rw [List.getElem?_mapIdx]
/-- the owned arguments alone -/
theorem SR.masked {P : List Nat} {Δx : Fl} (s : SR K mg S Δ Z Γ σ H) (hP : PMs S P) (hx : ∀ j, own Δx j ↔ j ∈ P) (hxl : Δx.length = Δ.length) : SR K mg S Δx Z (mask P Γ) σ H := by
  have g : ∀ {j : Nat} {e : D}, (mask P Γ)[j]? = some (some e) → j ∈ P ∧ Γ[j]? = some (some e) := fun {j e} h => by
    rw [mask_get, Option.map_eq_some_iff] at h
    obtain ⟨o, h1, h2⟩ := h
    split at h2
    · rename_i c
      exact ⟨by simpa using c, by rw [h1, h2]⟩
    · cases h2
  have inP : ∀ {j : Nat}, j ∈ P → own Δ j := fun {j} m => by
    rw [← hP] at m
    obtain ⟨p, hp, rfl⟩ := List.mem_map.mp m
    exact (s.par p.1 p.2 hp).2.1
  refine ⟨by simp [mask, s.len], by simp [mask, hxl, s.dl], s.zd, s.z0, s.keep, s.new, fun j e he no => absurd ((hx j).mpr (g he).1) no, fun j e he o => s.ow j e (g he).2 (inP (g he).1), fun j k e e' a hjk h1 o1 h2 o2 q => s.ap j k e e' a hjk (g h1).2 (inP (g h1).1) (g h2).2 (inP (g h2).1) q, fun j a m => ?_, s.an, s.fx⟩
  obtain ⟨q, o, e, he⟩ := s.par j a m
  have jP := hP.mem m
  refine ⟨q, (hx j).mpr jP, e, ?_⟩
  rw [mask_get, he]
  simp [jP]
end
end DL
/-! DL8: rules of statements, loops. -/
namespace DL
open PySem PySem.Spec PyProof.Rows L2

structure Okb (B : Bx) : Prop where
  pm : PMs B.S B.P
  lt : ∀ i ∈ B.P, i < B.n
  fx : ∀ i v, (i, v) ∈ B.S.Fx → i ∈ B.F
theorem Okb.noP {B : Bx} (o : Okb B) {i : Nat} (h : B.P.contains i = false) : ∀ a, (i, a) ∉ B.S.PM := fun a m => by
  have := o.pm.mem m
  rw [List.contains_eq_mem] at h
  simp at h
  exact h this
theorem Okb.no {B : Bx} (o : Okb B) {i : Nat} (h : B.nf i = false) : B.S.Nf i := by
  unfold Bx.nf at h
  rw [Bool.or_eq_false_iff] at h
  exact ⟨o.noP h.1, fun v m => by
    have := o.fx i v m
    have h2 := h.2
    rw [List.contains_eq_mem] at h2
    simp at h2
    exact h2 this⟩
theorem Okb.f0 {B : Bx} (o : Okb B) (h : B.F = []) : B.S.Fx = [] := by
  cases e : B.S.Fx with
  | nil => rfl
  | cons p l =>
    have := o.fx p.1 p.2 (by rw [e]; exact List.mem_cons_self ..)
    rw [h] at this; cases this
def mSet (i : Nat) (m : Gm → R D) : Gm → SE := fun Γ => (m Γ).toS fun d Γ1 => .nx (Γ1.set i (some d))
def mEx (m : Gm → R D) : Gm → SE := fun Γ => (m Γ).toS fun _ Γ1 => .nx Γ1
def mRet (m : Gm → R D) : Gm → SE := fun Γ => (m Γ).toS fun d Γ1 => .rt d Γ1
def mRetN : Gm → SE := fun Γ => .rt .non Γ
def mNx : Gm → SE := fun Γ => .nx Γ
def mBk : Gm → SE := fun Γ => .bk Γ
def mCt : Gm → SE := fun Γ => .ct Γ
def mSeq (m1 m2 : Gm → SE) : Gm → SE := fun Γ => (m1 Γ).seq m2
def mIf (t : Gm → R Bool) (m1 m2 : Gm → SE) : Gm → SE := fun Γ => (t Γ).toS fun b Γ1 => if b = true then m1 Γ1 else m2 Γ1
/-- xs.append(e) -/
def mApp (s : Nat) (m : Gm → R D) : Gm → SE := fun Γ => match Γ[s]? with
  | some (some (.lst _)) => (m Γ).toS fun d Γ1 => match Γ1[s]? with
    | some (some (.lst xs)) => if xs.length < 16777216 then .nx (Γ1.set s (some (.lst (xs ++ [d])))) else .no
    | _ => .no
  | _ => .no
/-- xs[i] = e -/
def mSt (s : Nat) (m mi : Gm → R D) : Gm → SE := fun Γ => (m Γ).toS fun d Γ1 => match Γ1[s]? with
  | some (some _) => (mi Γ1).toS fun q Γ2 => match Γ2[s]?, q with
    | some (some (.lst xs)), .int k => match ixN xs.length k with
      | some j => .nx (Γ2.set s (some (.lst (xs.set j d))))
      | none => .no
    | _, _ => .no
  | _ => .no
def mAug (i : Nat) (f : D → D → Option D) (m : Gm → R D) : Gm → SE := fun Γ => match Γ[i]? with
  | some (some d) => (m Γ).toS fun e Γ1 => match f d e with
    | some u => .nx (Γ1.set i (some u))
    | none => .no
  | _ => .no
section
variable {X : Cx} {B : Bx} {Δ Δ1 Δ2 : Fl} {e c : Expr} {m : Gm → R D} {t : Gm → R Bool} {m1 m2 : Gm → SE} {st : Stmt} {sts a b : List Stmt} {pos pos' : Pos} {x : Str} {k : Kd} {bo : Bool}
theorem ss_nil : DSs X B Δ [] mNx Δ := pss_nil.weak fun Dn σ H ⟨Z, Γ, s, h⟩ => h Z σ H s .refl
theorem seq_ok {m1 m2 : Gm → SE} : ∀ Dn σ H, rdS X.K X.mg B Δ (mSeq m1 m2) Δ2 Dn σ H → rdS X.K X.mg B Δ m1 Δ1 { Dn with nx := rdS X.K X.mg B Δ1 m2 Δ2 Dn } σ H := fun Dn σ H ⟨Z, Γ, s, h⟩ => by
  refine ⟨Z, Γ, s, ?_⟩
  unfold mSeq at h
  cases e1 : m1 Γ with
  | nx Γ1 => rw [e1] at h; exact fun Z' σ' H' s' g => ⟨Z', Γ1, s', h.from g⟩
  | rt d Γ1 => rw [e1] at h; exact h
  | bk Γ1 => rw [e1] at h; exact h
  | ct Γ1 => rw [e1] at h; exact h
  | ex x Γ1 => rw [e1] at h; exact h
  | no => rw [e1] at h; exact h
theorem ss_cons (h1 : DS X B Δ st m1 Δ1) (h2 : DSs X B Δ1 sts m2 Δ2) : DSs X B Δ (st :: sts) (mSeq m1 m2) Δ2 := (pss_cons h1 h2).weak seq_ok
theorem ss_one (h1 : DS X B Δ st m1 Δ1) : DSs X B Δ [st] m1 Δ1 := pss_one h1
theorem ds_pass : DS X B Δ (.Pass pos) mNx Δ := ps_pass.weak fun Dn σ H ⟨Z, Γ, s, h⟩ => h Z σ H s .refl
/-- the flags at the end may be fewer -/
theorem weakF (ob : Okb B) (hs : sub Δ2 Δ1 = true) (hP : (B.P.all fun i => Δ2[i]? == some true) = true) : ∀ Dn σ H, rdS X.K X.mg B Δ m1 Δ2 Dn σ H → rdS X.K X.mg B Δ m1 Δ1 Dn σ H := fun Dn σ H ⟨Z, Γ, s, h⟩ => by
  refine ⟨Z, Γ, s, ?_⟩
  cases e1 : m1 Γ with
  | nx Γ1 =>
    rw [e1] at h
    intro Z' σ' H' s' a
    obtain ⟨Z2, g⟩ := s'.freezeGo hs (ob.pm.own hP)
    exact h Z2 σ' H' g.s (a.trans (g.ag s'))
  | rt d Γ1 => rw [e1] at h; exact h
  | bk Γ1 => rw [e1] at h; exact h
  | ct Γ1 => rw [e1] at h; exact h
  | ex x Γ1 => rw [e1] at h; exact h
  | no => rw [e1] at h; exact h
theorem ss_weak (ob : Okb B) (h : DSs X B Δ sts m1 Δ1) (hs : sub Δ2 Δ1 = true := by rfl) (hP : (B.P.all fun i => Δ2[i]? == some true) = true := by rfl) : DSs X B Δ sts m1 Δ2 := h.weak (weakF ob hs hP)
theorem ds_weak (ob : Okb B) (h : DS X B Δ st m1 Δ1) (hs : sub Δ2 Δ1 = true := by rfl) (hP : (B.P.all fun i => Δ2[i]? == some true) = true := by rfl) : DS X B Δ st m1 Δ2 := h.weak (weakF ob hs hP)
/-- the flags at the start may be more -/
theorem preF (ob : Okb B) (hs : sub Δ1 Δ = true) (hP : (B.P.all fun i => Δ1[i]? == some true) = true) : ∀ Dn σ H, rdS X.K X.mg B Δ m1 Δ2 Dn σ H → rdS X.K X.mg B Δ1 m1 Δ2 Dn σ H := fun Dn σ H ⟨Z, Γ, s, h⟩ => by
  obtain ⟨Z2, g⟩ := s.freezeGo hs (ob.pm.own hP)
  exact ⟨Z2, Γ, g.s, h.from (g.ag s)⟩
theorem ss_pre (ob : Okb B) (h : DSs X B Δ1 sts m1 Δ2) (hs : sub Δ1 Δ = true := by rfl) (hP : (B.P.all fun i => Δ1[i]? == some true) = true := by rfl) : DSs X B Δ sts m1 Δ2 := h.weak (preF ob hs hP)
theorem ds_pre (ob : Okb B) (h : DS X B Δ1 st m1 Δ2) (hs : sub Δ1 Δ = true := by rfl) (hP : (B.P.all fun i => Δ1[i]? == some true) = true := by rfl) : DS X B Δ st m1 Δ2 := h.weak (preF ob hs hP)
/-- slots forgotten behind a statement -/
def delG : List Nat → Gm → Gm
  | [], Γ => Γ
  | i :: is, Γ => delG is (Γ.set i none)
def mDel (is : List Nat) (m : Gm → SE) : Gm → SE := fun Γ => match m Γ with
  | .nx Γ1 => .nx (delG is Γ1)
  | .ct Γ1 => .ct (delG is Γ1)
  | r => r
theorem SR.del {K : PySem.W.Frag} {mg : Str → Option Value} {S : Sx} {Z : Addr → Prop} {σ : Sg} {H : Hp} : ∀ (is : List Nat) {Γ : Gm}, (∀ i ∈ is, ∀ a, (i, a) ∉ S.PM) → SR K mg S Δ Z Γ σ H → SR K mg S Δ Z (delG is Γ) σ H
  | [], _, _, s => s
  | i :: is, _, h, s => SR.del is (fun j hj => h j (List.mem_cons_of_mem _ hj)) (s.forget (h i (List.mem_cons_self ..)))
theorem delF (ob : Okb B) {is : List Nat} (hi : (is.all fun i => !B.P.contains i) = true) : ∀ Dn σ H, rdS X.K X.mg B Δ (mDel is m1) Δ1 Dn σ H → rdS X.K X.mg B Δ m1 Δ1 Dn σ H := fun Dn σ H ⟨Z, Γ, s, h⟩ => by
  have no : ∀ i ∈ is, ∀ a, (i, a) ∉ B.S.PM := fun i m => ob.noP (by simpa using List.all_eq_true.mp hi i m)
  refine ⟨Z, Γ, s, ?_⟩
  unfold mDel at h
  cases e1 : m1 Γ with
  | nx Γ1 => rw [e1] at h; exact fun Z' σ' H' s' a => h Z' σ' H' (s'.del is no) a
  | rt d Γ1 => rw [e1] at h; exact h
  | bk Γ1 => rw [e1] at h; exact h
  | ct Γ1 => rw [e1] at h; exact fun Z' σ' H' s' a => h Z' σ' H' (s'.del is no) a
  | ex x Γ1 => rw [e1] at h; exact h
  | no => rw [e1] at h; exact h
theorem ds_del (ob : Okb B) (is : List Nat) (h : DS X B Δ st m1 Δ1) (hi : (is.all fun i => !B.P.contains i) = true := by rfl) : DS X B Δ st (mDel is m1) Δ1 := h.weak (delF ob hi)
theorem ss_del (ob : Okb B) (is : List Nat) (h : DSs X B Δ sts m1 Δ1) (hi : (is.all fun i => !B.P.contains i) = true := by rfl) : DSs X B Δ sts (mDel is m1) Δ1 := h.weak (delF ob hi)

theorem ds_set (ob : Okb B) (i : Nat) (hN : X.N.Nodup) (he : DE X B.S B.C Δ e m Δ1 (kb bo)) (hp : B.nf i = false := by rfl) (hi : X.N[i]? = some x := by rfl) (hx : Loc X.env.scope x := by first | exact .inl rfl | exact .inr rfl)
    (hs : swapsWith e (some (.Name x pos')) pos.line X.env = pure false := by rfl) (hf : X.fn x = true ∨ X.env.scope.names.lookup x = some .local := by first | exact .inl rfl | exact .inr rfl) : DS X B Δ (.Assign [.Name x pos'] e pos) (mSet i m) (Δ1.set i bo) :=
  (ps_set hN hi hx he hs hf).weak fun Dn σ H ⟨Z, Γ, s, h⟩ => ⟨Z, Γ, s, h.bind.mono (fun d Γ1 ⟨_, h1⟩ Z1 H1 v g1 r1 => by
    refine h1 Z1 _ H1 ?_ (g1.ag s)
    cases bo with
    | false => exact g1.s.setIm r1 (ob.no hp)
    | true =>
      obtain ⟨a, rfl, w, nz, no, n0⟩ := r1
      exact g1.s.setOw w nz no (s.fresh n0) (ob.no hp)) fun _ _ c => c⟩
theorem ds_expr (he : DE X B.S B.C Δ e m Δ1 k) (hs : swapsWith e none pos.line X.env = pure false := by rfl) : DS X B Δ (.Expr e pos) (mEx m) Δ1 :=
  (ps_expr he hs).weak fun Dn σ H ⟨Z, Γ, s, h⟩ => ⟨Z, Γ, s, h.bind.mono (fun d Γ1 ⟨_, h1⟩ Z1 H1 v g1 r1 => h1 Z1 σ H1 g1.s (g1.ag s)) fun _ _ c => c⟩
theorem SR.ret {K : PySem.W.Frag} {mg : Str → Option Value} {Z : Addr → Prop} {Γ : Gm} {σ : Sg} {H : Hp} (ob : Okb B) (s : SR K mg B.S Δ Z Γ σ H) (hl : Δ.length = B.n) : SR K mg B.S (flP B.n B.P) Z (mask B.P Γ) σ H :=
  s.masked ob.pm (flP_own ob.lt) (by rw [flP_len, hl])
theorem ds_ret (ob : Okb B) (hr : B.ro = false) (he : DE X B.S B.C Δ e m Δ1 .im) (hl : Δ1.length = B.n := by rfl) : DS X B Δ (.Return (some e) pos) (mRet m) Δ2 :=
  (ps_ret he).weak fun Dn σ H ⟨Z, Γ, s, h⟩ => ⟨Z, Γ, s, h.bind.mono (fun d Γ1 ⟨_, h1⟩ Z1 H1 v g1 r1 => h1 Z1 σ H1 v (g1.s.ret ob hl) (by rw [hr]; exact r1)) fun _ _ c => c⟩
theorem ds_retOw (ob : Okb B) (hr : B.ro = true) (he : DE X B.S B.C Δ e m Δ1 .ow) (hl : Δ1.length = B.n := by rfl) : DS X B Δ (.Return (some e) pos) (mRet m) Δ2 :=
  (ps_ret he).weak fun Dn σ H ⟨Z, Γ, s, h⟩ => ⟨Z, Γ, s, h.bind.mono (fun d Γ1 ⟨_, h1⟩ Z1 H1 v g1 r1 => by
    obtain ⟨a, rfl, w, nz, no, n0⟩ := r1
    exact h1 Z1 σ H1 _ (g1.s.ret ob hl) (by rw [hr]; exact ⟨a, rfl, w, nz, fun z => no (g1.s.mOA z), s.fresh n0⟩)) fun _ _ c => c⟩
theorem ds_retSl (ob : Okb B) (hr : B.ro = true) {i : Nat} (he : DE X B.S B.C Δ e m Δ1 (.sl i)) (hi : Δ1[i]? = some true := by rfl) (hp : B.nf i = false := by rfl) (hl : Δ1.length = B.n := by rfl) : DS X B Δ (.Return (some e) pos) (mRet m) Δ2 :=
  (ps_ret he).weak fun Dn σ H ⟨Z, Γ, s, h⟩ => ⟨Z, Γ, s, h.bind.mono (fun d Γ1 ⟨_, h1⟩ Z1 H1 v g1 r1 => by
    obtain ⟨e1, e2⟩ := r1
    obtain ⟨a, ha, w, nz, hm⟩ := g1.s.ow i d e1 hi
    rw [e2] at ha; cases ha
    have nM : ¬ B.S.M a := fun ⟨j, m⟩ => by
      obtain ⟨q, o, d2, e3⟩ := g1.s.par j a m
      have hij : i ≠ j := fun z => (ob.no hp).p a (z ▸ m)
      exact g1.s.ap i j d d2 a hij e1 hi e3 o e2 q
    exact h1 Z1 σ H1 _ (g1.s.ret ob hl) (by rw [hr]; exact ⟨a, rfl, w, nz, nM, hm.resolve_left nM⟩)) fun _ _ c => c⟩
theorem ds_retN (ob : Okb B) (hr : B.ro = false) (hl : Δ.length = B.n := by rfl) : DS X B Δ (.Return none pos) mRetN Δ2 :=
  ps_retN.weak fun Dn σ H ⟨Z, Γ, s, h⟩ => h Z σ H _ (s.ret ob hl) (by rw [hr]; exact .non)
theorem ds_if (hc : DT X B.S B.C Δ c t Δ1) (ha : DSs X B Δ1 a m1 Δ2) (hb : DSs X B Δ1 b m2 Δ2) : DS X B Δ (.If c a b pos) (mIf t m1 m2) Δ2 :=
  (ps_if hc ha hb).weak fun Dn σ H ⟨Z, Γ, s, h⟩ => ⟨Z, Γ, s, h.bind.mono (fun d Γ1 ⟨_, h1⟩ Z1 H1 g1 => by
    cases d with
    | true => rw [if_pos rfl] at h1 ⊢; exact ⟨Z1, Γ1, g1.s, h1.from (g1.ag s)⟩
    | false => rw [if_neg Bool.false_ne_true] at h1 ⊢; exact ⟨Z1, Γ1, g1.s, h1.from (g1.ag s)⟩) fun _ _ c => c⟩
theorem ds_break (ob : Okb B) (hs : sub B.Δl Δ = true := by rfl) (hP : (B.P.all fun i => B.Δl[i]? == some true) = true := by rfl) : DS X B Δ (.Break pos) mBk Δ2 :=
  ps_break.weak fun Dn σ H ⟨Z, Γ, s, h⟩ => by
    obtain ⟨Z2, g⟩ := s.freezeGo hs (ob.pm.own hP)
    exact h Z2 σ H g.s (g.ag s)
theorem ds_continue (ob : Okb B) (hs : sub B.Δl Δ = true := by rfl) (hP : (B.P.all fun i => B.Δl[i]? == some true) = true := by rfl) : DS X B Δ (.Continue pos) mCt Δ2 :=
  ps_continue.weak fun Dn σ H ⟨Z, Γ, s, h⟩ => by
    obtain ⟨Z2, g⟩ := s.freezeGo hs (ob.pm.own hP)
    exact h Z2 σ H g.s (g.ag s)
/-- what an owned list slot holds -/
theorem SR.owl {K : PySem.W.Frag} {mg : Str → Option Value} {S : Sx} {Z : Addr → Prop} {Γ : Gm} {σ : Sg} {H : Hp} {i : Nat} {ds : List D} (s : SR K mg S Δ Z Γ σ H) (e : Γ[i]? = some (some (.lst ds))) (o : own Δ i) :
    ∃ (a : Addr) (vs : List V), σ[i]? = some (some (V.ref a)) ∧ H a = some (.lst vs) ∧ Rps K mg Z H ds vs := by
  obtain ⟨a, ha, w, nz, hm⟩ := s.ow i _ e o
  cases w with
  | lst h r => exact ⟨a, _, ha, h, r⟩
theorem agU {Z : Addr → Prop} {H : Hp} {a : Addr} {o : HO} (nz : ¬ Z a) : Ag Z Z H (upd H a o) := ⟨fun _ z => z, fun x z => upd_ne fun e => nz (by rw [← e]; exact z)⟩
theorem SR.lenB {K : PySem.W.Frag} {mg : Str → Option Value} {S : Sx} {Z : Addr → Prop} {Γ : Gm} {σ : Sg} {H : Hp} {i : Nat} {d : D} {a : Addr} {vs : List V} {d' : List D} (s : SR K mg S Δ Z Γ σ H) (o : own Δ i) (e : Γ[i]? = some (some d)) (ha : σ[i]? = some (some (V.ref a))) (h : H a = some (.lst vs))
    {ws : List V} (r : Rps K mg Z H d' ws) (nz : ¬ Z a) : SR K mg S Δ Z (Γ.set i (some (.lst d'))) σ (upd H a (.lst ws)) := by
  have ag : Ag Z Z H (upd H a (.lst ws)) := ⟨fun _ z => z, fun x z => upd_ne fun e => nz (by rw [← e]; exact z)⟩
  exact s.mut o e ha (.lst upd_same (r.ag ag))
theorem ds_app (s0 : Nat) {aN : Str} {p1 p2 p3 : Pos} (he : DE X B.S B.C Δ e m Δ1 .im) (ho : Δ[s0]? = some true := by rfl) (ho1 : Δ1[s0]? = some true := by rfl) (hN : X.N[s0]? = some aN := by rfl) (hv : Vis X.env.scope aN := by first | exact Or.inl rfl | exact Or.inr (Or.inl rfl) | exact Or.inr (Or.inr rfl))
    (hd : (aN == ("__debug__" : Str)) = false := by decide) (hcd : (aN == ("__classdict__" : Str)) = false := by decide)
    (hbase : attributeBase (.Name aN p1) "append" X.env (eval (.Name aN p1) X.env) = eval (.Name aN p1) X.env := by rfl)
    (hfew : ((backTo p3 (starEach (e :: []) X.env)).all (fun x => !x.1) && (backToKw p3 (keywordEach [] X.env)).all (fun x => x.1.isSome)
      && decide ((e :: ([] : List Expr)).length + ([] : List Keyword).length + (if ([] : List Keyword).isEmpty then 0 else 1) < 30)) = true := by rfl)
    (hline : (p2.endLine == p3.line) = true := by rfl) (hst : starEach (e :: []) X.env = (false, eval e X.env) :: starEach [] X.env := by rfl) (hplain : (backTo p3 (starEach [] X.env)).any (·.1) = false := by rfl)
    (hs : swapsWith (.Call (.Attribute (.Name aN p1) "append" p2) [e] [] p3) none pos.line X.env = pure false := by rfl) :
    DS X B Δ (.Expr (.Call (.Attribute (.Name aN p1) "append" p2) [e] [] p3) pos) (mApp s0 m) Δ1 :=
  (ps_expr (pe_bm PySem.F.plainAttrs_list PySem.F.slot_list_append PySem.F.type_list_append mt_append (pe_var hN hv hd hcd) (pa_cons he pa_nil hst) hbase hfew hline hst hplain) hs).weak fun Dn σ H ⟨Z, Γ, s, h⟩ => by
    unfold mApp at h
    split at h
    · rename_i ds e0
      obtain ⟨a, vs, ha, hH, r⟩ := s.owl e0 ho
      refine ⟨_, ha, Or.inl ⟨rfl, vs, .of hH⟩, Z, Γ, s, h.bind.mono (fun d Γ1 ⟨_, h1⟩ Z1 H1 v g1 r1 => ?_) fun _ _ c => c⟩
      split at h1
      · rename_i xs e1
        split at h1
        · rename_i hlen
          obtain ⟨a', vs1, ha', hH1, rr⟩ := g1.s.owl e1 ho1
          rw [ha] at ha'; cases ha'
          obtain ⟨b, hb, _, nz, _⟩ := g1.s.ow s0 _ e1 ho1
          rw [ha] at hb; cases hb
          exact ⟨a, vs1, v, rfl, rfl, hH1, by rw [← rr.length, sizeLine_eq]; exact hlen, h1 Z1 σ _ (g1.s.lenB ho1 e1 ha hH1 (rr.append (.cons r1 .nil)) nz) ((g1.ag s).trans (agU nz))⟩
        · exact h1.elim
      · exact h1.elim
    · exact h.elim
theorem ds_st (s0 : Nat) {aN : Str} {p1 p2 : Pos} {ei : Expr} {mi : Gm → R D} (he : DE X B.S B.C Δ e m Δ1 .im) (hi : DE X B.S B.C Δ1 ei mi Δ2 k) (ho : Δ2[s0]? = some true := by rfl) (hN : X.N[s0]? = some aN := by rfl) (hv : Vis X.env.scope aN := by first | exact Or.inl rfl | exact Or.inr (Or.inl rfl) | exact Or.inr (Or.inr rfl))
    (hd : (aN == ("__debug__" : Str)) = false := by decide) (hcd : (aN == ("__classdict__" : Str)) = false := by decide)
    (ha : ∀ v, assign (.Subscript (.Name aN p1) ei p2) X.env v = (do
      let ov ← holding [v] (eval (.Name aN p1) X.env)
      let iv ← holding [v, ov] (eval ei X.env)
      standAt p2
      holding [v, ov, iv] (setItem ov iv v)
      release [v, ov, iv] []) := by intro _; rfl)
    (hs : swapsWithSole [.Subscript (.Name aN p1) ei p2] e pos.line X.env = pure false := by rfl) (hw : swappedStores [.Subscript (.Name aN p1) ei p2] e X.env = pure none := by rfl)
    (h1 : (assignEach [.Subscript (.Name aN p1) ei p2] X.env).map (·.2) = [assign (.Subscript (.Name aN p1) ei p2) X.env] := by rfl) :
    DS X B Δ (.Assign [.Subscript (.Name aN p1) ei p2] e pos) (mSt s0 m mi) Δ2 :=
  (ps_asg he (pg_sub (pe_var hN hv hd hcd) hi set_list ha) hs hw h1).weak fun Dn σ H ⟨Z, Γ, s, h⟩ => ⟨Z, Γ, s, h.bind.mono (fun d Γ1 ⟨_, h1⟩ Z1 H1 v g1 r1 => by
    split at h1
    · rename_i d0 e0
      obtain ⟨v0, hv0⟩ := g1.s.bound e0
      refine ⟨v0, hv0, Z1, Γ1, g1.s, h1.bind.mono (fun q Γ2 ⟨eq2, h2⟩ Z2 H2 w g2 r2 => ?_) fun _ _ c => c⟩
      split at h2
      · rename_i xs kk e2 _
        split at h2
        · rename_i j hj
          obtain ⟨a, vs1, ha', hH1, rr⟩ := g2.s.owl e2 ho
          rw [hv0] at ha'; cases ha'
          obtain ⟨b, hb, _, nz, _⟩ := g2.s.ow s0 _ e2 ho
          rw [hv0] at hb; cases hb
          exact ⟨a, vs1, kk, j, rfl, (r2.pk g2.s).int, hH1, by rw [← rr.length]; exact hj, h2 Z2 σ _ (g2.s.lenB ho e2 hv0 hH1 (rr.set (Rp.ag (g2.ag g1.s) r1) j) nz) (((g1.ag s).trans (g2.ag g1.s)).trans (agU nz))⟩
        · exact h2.elim
      · exact h2.elim
    · exact h1.elim) fun _ _ c => c⟩
theorem ds_aug (ob : Okb B) (i : Nat) {op : Operator} {f : D → D → Option D} (hN : X.N.Nodup) (ho : OpR X (inplaceOp op) (rD2 X.K X.mg f false)) (he : DE X B.S B.C Δ e m Δ1 k) (hp : B.nf i = false := by rfl) (hi0 : Δ[i]? ≠ some true := by decide) (hi1 : Δ1[i]? ≠ some true := by decide) (hi : X.N[i]? = some x := by rfl)
    (hx : Loc X.env.scope x := by first | exact .inl rfl | exact .inr rfl) (hf : X.fn x = true ∨ X.env.scope.names.lookup x = some .local := by first | exact .inl rfl | exact .inr rfl) : DS X B Δ (.AugAssign (.Name x pos') op e pos) (mAug i f m) (Δ1.set i false) :=
  (ps_aug hN hi hx he (fun pins s σ H x y v u Q I rx ry q => ho pins s σ H x y v u Q I rx ry q) hf).weak fun Dn σ H ⟨Z, Γ, s, h⟩ => by
    unfold mAug at h
    split at h
    · rename_i d0 e0
      obtain ⟨v0, hv0, rp0⟩ := s.im i d0 e0 hi0
      refine ⟨v0, hv0, Z, Γ, s, h.bind.mono (fun d Γ1 ⟨_, h1⟩ Z1 H1 v g1 r1 => ?_) fun _ _ c => c⟩
      split at h1
      · rename_i u hu
        exact ⟨Z1, d0, d, u, g1.s.zd, .rp (rp0.ag (g1.ag s)), r1.pk g1.s, hu, fun Z' H' w g0 r => h1 Z' _ H' ((g1.s.gr0 g0).setIm r (ob.no hp)) ((g1.ag s).trans (g0.ag0 g1.s.zd))⟩
      · exact h1.elim
    · exact h.elim
end
def addI : D → D → Option D
  | .int i, .int j => some (.int (i + j))
  | _, _ => none
theorem iod_add {X : Cx} : OpR X (inplaceOp .Add) (rD2 X.K X.mg addI false) := opi iop_add fun x y H Q ⟨Z, d, e, u, zd, p1, p2, h, q⟩ => by
  unfold addI at h; split at h
  · cases h; exact ⟨_, _, p1.int, p2.int, res0 zd q (.int _)⟩
  · cases h
end DL
/-! DL9: loops, what they walk, targets. -/
namespace DL
open PySem PySem.Spec PyProof.Rows L2

/-! ### what is walked -/
/-- an iterator hands out these items, whatever comes (what is frozen stays) -/
def ItOk (K : PySem.W.Frag) (mg : Str → Option Value) (Z1 : Addr → Prop) (H1 : Hp) (J : It) (items : List D) : Prop := ∀ i Z H, Ag Z1 Z H1 H → Zd Z H →
  (i < items.length → J.go i H ∧ ∀ x H', J.yld i H x H' → ∃ Z' d, items[i]? = some d ∧ Gr0 Z Z' H H' ∧ Rp K mg Z' H' d x) ∧ (items.length ≤ i → J.stop i H)
def rdI (K : PySem.W.Frag) (mg : Str → Option Value) (S : Sx) (C : Xd → Gm → Prop) (Δ : Fl) (m : Gm → R (List D)) (Δ' : Fl) : TI := fun σ H Rr =>
  ∃ Z Γ, SR K mg S Δ Z Γ σ H ∧ Post (m Γ) (fun items Γ' => ∀ Z' H' J, Go K mg S σ Δ Z Γ H Δ' Z' Γ' H' → ItOk K mg Z' H' J items → Rr J H') C
abbrev DI (X : Cx) (S : Sx) (C : Xd → Gm → Prop) (Δ : Fl) (tg e : Expr) (m : Gm → R (List D)) (Δ' : Fl) : Prop := PI X tg e (rdI X.K X.mg S C Δ m Δ')
theorem PI_weak {X : Cx} {tg e : Expr} {t u : TI} (h : PI X tg e t) (hw : ∀ σ H Q, u σ H Q → t σ H Q) : PI X tg e u := ⟨fun pins s σ H Q I q => h.run pins s σ H Q I (hw σ H Q q)⟩
def itemsD : D → Option (List D)
  | .tup xs => some xs
  | .lst xs => some xs
  | _ => none
def mIt (m : Gm → R D) : Gm → R (List D) := fun Γ => (m Γ).bind fun d Γ1 => R.of (itemsD d) Γ1
def iSeq (K : PySem.W.Frag) (tl : TE) : TI := fun σ H R => tl σ H fun x H1 => ∃ a, x = .ref a ∧ (((∃ xs, SqL K H1 a xs) ∧ R (Itl K a) H1) ∨ ((∃ xs, SqT K H1 a xs) ∧ R (Itt K a) H1))
theorem pi_seq {X : Cx} {tg l : Expr} {tl : TE} (hl : PE X l tl) : PI X tg l (iSeq X.K tl) := by
  refine ⟨fun pins s σ H R I h => ?_⟩
  refine thn (hl.run pins s σ H _ I h) fun v s1 ⟨x, H1, I1, r1, q1⟩ => ?_
  obtain ⟨a, e, q⟩ := q1
  subst e
  cases r1
  rcases q with ⟨⟨xs, hq⟩, q⟩ | ⟨⟨xs, hq⟩, q⟩
  · obtain ⟨its, rv, p, hz⟩ := I1.list hq
    refine wpAny_pyIter_list p.isList ?_
    refine ⟨s1.heap.objs.size, [s1.heap.objs.size], _, _, H1, rfl, I1.kept (t' := s1.toks) fun b o e => Heap.get?_push_of_some _ e, turn_list a _, ⟨_, Heap.get?_push_size _ rfl, rfl, rfl⟩, fun b hb => ?_, q⟩
    have e : b = s1.heap.objs.size := by simpa using hb
    subst e
    exact I1.fpOk (Nat.le_refl _) (I1.hok.fresh (Nat.le_refl _))
  · obtain ⟨its, rv, p, hz⟩ := I1.tuple hq
    refine wpAny_pyIter_tuple (show s1.heap.IsTuple a its.toArray from p) ?_
    refine ⟨s1.heap.objs.size, [s1.heap.objs.size], _, _, H1, rfl, I1.kept (t' := s1.toks) fun b o e => Heap.get?_push_of_some _ e, turn_tuple a _, ⟨_, Heap.get?_push_size _ rfl, rfl, rfl⟩, fun b hb => ?_, q⟩
    have e : b = s1.heap.objs.size := by simpa using hb
    subst e
    exact I1.fpOk (Nat.le_refl _) (I1.hok.fresh (Nat.le_refl _))
section
variable {K : PySem.W.Frag} {mg : Str → Option Value} {Z : Addr → Prop} {H : Hp} {a : Addr} {vs : List V} {ds : List D}
theorem itl_ok (f : FL K Z H a vs) (r : Rps K mg Z H ds vs) : ItOk K mg Z H (Itl K a) ds := fun i Z' H' g zd => by
  have f' := (f.ag g).sq
  have r' := r.ag g
  refine ⟨fun hi => ?_, fun hi => ⟨vs, f', by rw [← r.length]; exact hi⟩⟩
  obtain ⟨v, hv, rv⟩ := r'.get (List.getElem?_eq_getElem hi)
  refine ⟨⟨vs, v, f', hv⟩, fun x H2 ⟨e, y⟩ => ?_⟩
  subst e
  have q := y vs f'
  rw [hv] at q; cases q
  exact ⟨Z', _, List.getElem?_eq_getElem hi, .refl zd, rv⟩
theorem itt_ok (f : FT K Z H a vs) (r : Rps K mg Z H ds vs) : ItOk K mg Z H (Itt K a) ds := fun i Z' H' g zd => by
  have f' := (f.ag g).sq
  have r' := r.ag g
  refine ⟨fun hi => ?_, fun hi => ⟨vs, f', by rw [← r.length]; exact hi⟩⟩
  obtain ⟨v, hv, rv⟩ := r'.get (List.getElem?_eq_getElem hi)
  refine ⟨⟨vs, v, f', hv⟩, fun x H2 ⟨e, y⟩ => ?_⟩
  subst e
  have q := y vs f'
  rw [hv] at q; cases q
  exact ⟨Z', _, List.getElem?_eq_getElem hi, .refl zd, rv⟩
/-- whole numbers lo, lo + 1, .. -/
def rangeD (lo : Int) (n : Nat) : List D := (List.range n).map fun k => .int (lo + (k : Nat))
theorem rangeD_get {lo : Int} {n i : Nat} (h : i < n) : (rangeD lo n)[i]? = some (.int (lo + (i : Nat))) := by
  unfold rangeD
  rw [List.getElem?_map, List.getElem?_range h]; rfl
theorem rangeD_len {lo : Int} {n : Nat} : (rangeD lo n).length = n := by simp [rangeD]
theorem itr_ok {lo : Int} {n : Nat} : ItOk K mg Z H (Itr lo n) (rangeD lo n) := fun i Z' H' g zd => by
  rw [rangeD_len]
  refine ⟨fun hi => ⟨hi, fun x H2 ⟨e, y⟩ => ?_⟩, fun hi => hi⟩
  subst e; subst y
  exact ⟨Z', _, rangeD_get hi, .refl zd, .int _⟩
end
section
variable {X : Cx} {S : Sx} {C : Xd → Gm → Prop} {Δ Δ1 Δ2 : Fl} {tg a b c : Expr} {m m1 m2 m3 : Gm → R D} {k k1 k2 : Kd} {pos p : Pos}
/-- over a list or a tuple -/
theorem di_seq (ha : DE X S C Δ a m Δ1 .im) : DI X S C Δ tg a (mIt m) Δ1 := PI_weak (pi_seq ha) fun σ H Q ⟨Z, Γ, s, h⟩ => ⟨Z, Γ, s, h.bind.mono (fun d Γ1 h1 Z1 H1 v g1 r1 => by
  obtain ⟨items, hi, q⟩ := h1.of
  unfold itemsD at hi
  split at hi
  · cases hi
    cases r1 with
    | tup f r => exact ⟨_, rfl, .inr ⟨⟨_, f.sq⟩, q Z1 H1 _ g1 (itt_ok f r)⟩⟩
  · cases hi
    cases r1 with
    | lst f r => exact ⟨_, rfl, .inl ⟨⟨_, f.sq⟩, q Z1 H1 _ g1 (itl_ok f r)⟩⟩
  · cases hi) fun _ _ c => c⟩
abbrev two62 : Int := 4611686018427387904
def rg1 : D → Option (List D)
  | .int j => if -two62 ≤ j ∧ j < two62 then some (rangeD 0 j.toNat) else none
  | _ => none
def rg2 : D → D → Option (List D)
  | .int i, .int j => if -two62 ≤ i ∧ i < two62 ∧ -two62 ≤ j ∧ j < two62 then some (rangeD i (j - i).toNat) else none
  | _, _ => none
/-- i, i - 1, .. above j -/
def downD (lo : Int) (n : Nat) : List D := (List.range n).map fun k => .int (lo + (k : Nat) * (-1))
def mR1 (m : Gm → R D) : Gm → R (List D) := fun Γ => (m Γ).bind fun d Γ1 => R.of (rg1 d) Γ1
def mR2 (m1 m2 : Gm → R D) : Gm → R (List D) := fun Γ => (m1 Γ).bind fun d Γ1 => (m2 Γ1).bind fun e Γ2 => R.of (rg2 d e) Γ2
theorem di_range1 (hm : X.mg "range" = none) (ha : DE X S C Δ a m Δ1 k) (hg : Gl X "range" := by rfl) (hs : starEach [a] X.env = [(false, eval a X.env)] := by rfl) (hs2 : starEach (a :: []) X.env = (false, eval a X.env) :: starEach [] X.env := by rfl) :
    DI X S C Δ tg (.Call (.Name "range" p) [a] [] pos) (mR1 m) Δ1 := PI_weak (pi_range1 hg hm (pa_cons ha pa_nil hs2) hs) fun σ H Q ⟨Z, Γ, s, h⟩ => ⟨Z, Γ, s, h.bind.mono (fun d Γ1 h1 Z1 H1 v g1 r1 => by
  obtain ⟨items, hi, q⟩ := h1.of
  unfold rg1 at hi
  split at hi
  · split at hi
    · rename_i j hj
      cases hi
      rw [(r1.pk g1.s).int]
      exact ⟨j, rfl, by unfold two62 at hj; omega, by unfold two62 at hj; omega, q Z1 H1 _ g1 itr_ok⟩
    · cases hi
  · cases hi) fun _ _ c => c⟩
theorem di_range2 (hm : X.mg "range" = none) (ha : DE X S C Δ a m1 Δ1 .im) (hb : DE X S C Δ1 b m2 Δ2 k) (hg : Gl X "range" := by rfl) (hs : starEach [a, b] X.env = [(false, eval a X.env), (false, eval b X.env)] := by rfl) (hs2 : starEach [b] X.env = [(false, eval b X.env)] := by rfl)
    (hs3 : starEach (a :: [b]) X.env = (false, eval a X.env) :: starEach [b] X.env := by rfl) (hs4 : starEach (b :: []) X.env = (false, eval b X.env) :: starEach [] X.env := by rfl) :
    DI X S C Δ tg (.Call (.Name "range" p) [a, b] [] pos) (mR2 m1 m2) Δ2 := PI_weak (pi_range2 hg hm (pa_cons ha (pa_cons hb pa_nil hs4) hs3) hs hs2) fun σ H Q ⟨Z, Γ, s, h⟩ => ⟨Z, Γ, s, h.bind.mono (fun d Γ1 h1 Z1 H1 v g1 r1 => ⟨Z1, Γ1, g1.s, h1.bind.mono (fun e Γ2 h2 Z2 H2 w g2 r2 => by
  obtain ⟨items, hi, q⟩ := h2.of
  unfold rg2 at hi
  split at hi
  · split at hi
    · rename_i i j hj
      cases hi
      cases r1
      rw [(r2.pk g2.s).int]
      exact ⟨i, j, rfl, by unfold two62 at hj; omega, q Z2 H2 _ (g1.trans g2) itr_ok⟩
    · cases hi
  · cases hi) fun _ _ c => c⟩) fun _ _ c => c⟩
end

/-! ### targets -/
/-- ts: the slots that are stored to -/
def rdG (K : PySem.W.Frag) (mg : Str → Option Value) (S : Sx) (Δ : Fl) (g : D → Gm → Option Gm) (Δ' : Fl) (ts : List Nat) : TG := fun v σ H Q =>
  ∃ Z Γ d Γ', SR K mg S Δ Z Γ σ H ∧ Rp K mg Z H d v ∧ g d Γ = some Γ' ∧ ∀ σ', SR K mg S Δ' Z Γ' σ' H → (∀ i, i ∉ ts → σ'[i]? = σ[i]? ∧ Γ'[i]? = Γ[i]?) → σ'.length = σ.length → Q σ' H
def rdGs (K : PySem.W.Frag) (mg : Str → Option Value) (S : Sx) (Δ : Fl) (g : List D → Gm → Option Gm) (Δ' : Fl) (ts : List Nat) : TGs := fun vs σ H Q =>
  ∃ Z Γ ds Γ', SR K mg S Δ Z Γ σ H ∧ Rps K mg Z H ds vs ∧ g ds Γ = some Γ' ∧ ∀ σ', SR K mg S Δ' Z Γ' σ' H → (∀ i, i ∉ ts → σ'[i]? = σ[i]? ∧ Γ'[i]? = Γ[i]?) → σ'.length = σ.length → Q σ' H
abbrev DG (X : Cx) (S : Sx) (Δ : Fl) (tg : Expr) (g : D → Gm → Option Gm) (Δ' : Fl) (ts : List Nat) : Prop := PG X tg (rdG X.K X.mg S Δ g Δ' ts)
abbrev DGs (X : Cx) (S : Sx) (Δ : Fl) (tgs : List Expr) (g : List D → Gm → Option Gm) (Δ' : Fl) (ts : List Nat) : Prop := PGs X tgs (rdGs X.K X.mg S Δ g Δ' ts)
def gN (i : Nat) : D → Gm → Option Gm := fun d Γ => some (Γ.set i (some d))
def gsNil : List D → Gm → Option Gm := fun ds Γ => match ds with
  | [] => some Γ
  | _ => none
def gsCons (g : D → Gm → Option Gm) (gs : List D → Gm → Option Gm) : List D → Gm → Option Gm := fun ds Γ => match ds with
  | [] => none
  | d :: ds => (g d Γ).bind fun Γ1 => gs ds Γ1
def gT (gs : List D → Gm → Option Gm) : D → Gm → Option Gm := fun d Γ => match d with
  | .tup ds => gs ds Γ
  | _ => none
def gLen : Nat → (List D → Gm → Option Gm) → Prop := fun n gs => ∀ ds Γ Γ', gs ds Γ = some Γ' → ds.length = n
theorem gLen_nil : gLen 0 gsNil := fun ds Γ Γ' e => by cases ds with | nil => rfl | cons _ _ => cases e
theorem gLen_cons {n : Nat} {g : D → Gm → Option Gm} {gs : List D → Gm → Option Gm} (h : gLen n gs) : gLen (n + 1) (gsCons g gs) := fun ds Γ Γ' e => by
  cases ds with
  | nil => cases e
  | cons d ds =>
    simp only [gsCons, Option.bind_eq_some_iff] at e
    obtain ⟨Γ1, _, e2⟩ := e
    rw [List.length_cons, h _ _ _ e2]
section
variable {X : Cx} {B : Bx} {Δ Δ1 Δ2 : Fl} {tg : Expr} {tgs : List Expr} {x : Str} {pos : Pos} {g : D → Gm → Option Gm} {gs : List D → Gm → Option Gm} {ts ts2 : List Nat}
theorem PG_weak {t u : TG} (h : PG X tg t) (hw : ∀ v σ H Q, u v σ H Q → t v σ H Q) : PG X tg u := ⟨fun pins s σ H v uu Q I r q => h.run pins s σ H v uu Q I r (hw v σ H Q q)⟩
theorem PGs_weak {t u : TGs} (h : PGs X tgs t) (hw : ∀ v σ H Q, u v σ H Q → t v σ H Q) : PGs X tgs u := ⟨fun pins s σ H v uu Q I r q => h.run pins s σ H v uu Q I r (hw v σ H Q q)⟩
theorem dg_n (ob : Okb B) (i : Nat) (hN : X.N.Nodup) (hp : B.nf i = false := by rfl) (hi : X.N[i]? = some x := by rfl) (hx : Loc X.env.scope x := by first | exact .inl rfl | exact .inr rfl)
    (hf : X.fn x = true ∨ X.env.scope.names.lookup x = some .local := by first | exact .inl rfl | exact .inr rfl) : DG X B.S Δ (.Name x pos) (gN i) (Δ.set i false) [i] :=
  PG_weak (pg_name hN hi hx hf) fun v σ H Q ⟨Z, Γ, d, Γ', s, r, e, q⟩ => by
    cases e
    exact q _ (s.setIm r (ob.no hp)) (fun j hj => by
      have : i ≠ j := fun z => hj (by rw [z]; exact List.mem_cons_self ..)
      exact ⟨List.getElem?_set_ne this, List.getElem?_set_ne this⟩) (List.length_set ..)
theorem dgs_nil {S : Sx} : DGs X S Δ [] gsNil Δ [] := PGs_weak pgs_nil fun vs σ H Q ⟨Z, Γ, ds, Γ', s, r, e, q⟩ => by
  cases r with
  | nil => cases e; exact ⟨rfl, q σ s (fun _ _ => ⟨rfl, rfl⟩) rfl⟩
  | cons _ _ => cases e
theorem dgs_cons {S : Sx} (h1 : DG X S Δ tg g Δ1 ts) (h2 : DGs X S Δ1 tgs gs Δ2 ts2) (hs : (assignEach (tg :: tgs) X.env).map (·.2) = assign tg X.env :: (assignEach tgs X.env).map (·.2) := by rfl) : DGs X S Δ (tg :: tgs) (gsCons g gs) Δ2 (ts ++ ts2) :=
  PGs_weak (pgs_cons h1 h2 hs) fun vs σ H Q ⟨Z, Γ, ds, Γ', s, r, e, q⟩ => by
    cases r with
    | nil => cases e
    | cons r1 r2 =>
      simp only [gsCons, Option.bind_eq_some_iff] at e
      obtain ⟨Γ1, e1, e2⟩ := e
      exact ⟨_, _, rfl, Z, Γ, _, Γ1, s, r1, e1, fun σ' s' f l => ⟨Z, Γ1, _, Γ', s', r2, e2, fun σ2 s2 f2 l2 => q σ2 s2 (fun i hi => ⟨(f2 i fun z => hi (List.mem_append_right _ z)).1.trans (f i fun z => hi (List.mem_append_left _ z)).1, (f2 i fun z => hi (List.mem_append_right _ z)).2.trans (f i fun z => hi (List.mem_append_left _ z)).2⟩) (l2.trans l)⟩⟩
theorem dg_tup {S : Sx} {k n : Nat} (h : DGs X S Δ tgs gs Δ1 ts) (hl : gLen n gs) (hc : X.calm = true := by rfl) (hn : (assignEach tgs X.env).length = n := by rfl) (hst : (assignEach tgs X.env).findIdx? (·.1) = none := by rfl) : DG X S Δ (.Tuple tgs k pos) (gT gs) Δ1 ts :=
  PG_weak (pg_tup hc h hn hst) fun v σ H Q ⟨Z, Γ, d, Γ', s, r, e, q⟩ => by
    cases r with
    | tup f r => exact ⟨_, _, rfl, f.sq, by rw [← r.length]; exact hl _ _ _ e, Z, Γ, _, Γ', s, r, e, q⟩
    | _ => cases e
end

/-! ### for, while -/
def forD (g : D → Gm → Option Gm) (body : Gm → SE) : List D → Gm → SE
  | [], Γ => .nx Γ
  | x :: xs, Γ => match g x Γ with
    | none => .no
    | some Γ1 => match body Γ1 with
      | .nx Γ2 => forD g body xs Γ2
      | .ct Γ2 => forD g body xs Γ2
      | .bk Γ2 => .nx Γ2
      | r => r
def mFor (mi : Gm → R (List D)) (g : D → Gm → Option Gm) (body : Gm → SE) : Gm → SE := fun Γ => (mi Γ).toS fun items Γ1 => forD g body items Γ1
def whN (t : Gm → R Bool) (body : Gm → SE) : Nat → Gm → SE
  | 0, _ => .no
  | n + 1, Γ => (t Γ).toS fun b Γ1 => if b = true then (match body Γ1 with
      | .nx Γ2 => whN t body n Γ2
      | .ct Γ2 => whN t body n Γ2
      | .bk Γ2 => .nx Γ2
      | r => r) else .nx Γ1
open Classical in
noncomputable def mWhile (t : Gm → R Bool) (body : Gm → SE) : Gm → SE := fun Γ => if h : ∃ n, whN t body n Γ ≠ .no then whN t body h.choose Γ else .no
theorem whN_mono {t : Gm → R Bool} {body : Gm → SE} : ∀ {n m : Nat} {Γ : Gm}, n ≤ m → whN t body n Γ ≠ .no → whN t body m Γ = whN t body n Γ
  | 0, _, _, _, h => absurd rfl h
  | n + 1, 0, _, hm, _ => absurd hm (by omega)
  | n + 1, m + 1, Γ, hm, h => by
    unfold whN at h ⊢
    cases e : t Γ with
    | ok b Γ1 =>
      rw [e] at h
      simp only [R.toS_ok] at h ⊢
      cases b with
      | false => rfl
      | true =>
        rw [if_pos rfl] at h ⊢
        rw [if_pos rfl]
        cases eb : body Γ1 with
        | nx Γ2 => rw [eb] at h; exact whN_mono (Nat.le_of_succ_le_succ hm) h
        | ct Γ2 => rw [eb] at h; exact whN_mono (Nat.le_of_succ_le_succ hm) h
        | bk Γ2 => rfl
        | rt _ _ => rfl
        | ex _ _ => rfl
        | no => rfl
    | ex x Γ1 => rfl
    | no => rfl
theorem mWhile_of {t : Gm → R Bool} {body : Gm → SE} {n : Nat} {Γ : Gm} (h : whN t body n Γ ≠ .no) : mWhile t body Γ = whN t body n Γ := by
  have hx : ∃ n, whN t body n Γ ≠ .no := ⟨n, h⟩
  unfold mWhile
  rw [dif_pos hx]
  have hc := hx.choose_spec
  rcases Nat.le_total n hx.choose with l | l
  · exact whN_mono l h
  · exact (whN_mono l hc).symm
theorem mWhile_eq {t : Gm → R Bool} {body : Gm → SE} {Γ : Gm} (h : mWhile t body Γ ≠ .no) : ∃ n, whN t body n Γ = mWhile t body Γ := by
  unfold mWhile at h ⊢
  split at h
  · rename_i hx; exact ⟨hx.choose, by rw [dif_pos hx]⟩
  · exact absurd rfl h
/-- one turn -/
theorem mWhile_turn {t : Gm → R Bool} {body : Gm → SE} (Γ : Gm) : mWhile t body Γ = (t Γ).toS fun b Γ1 => if b = true then (match body Γ1 with
      | .nx Γ2 => mWhile t body Γ2
      | .ct Γ2 => mWhile t body Γ2
      | .bk Γ2 => .nx Γ2
      | r => r) else .nx Γ1 := by
  -- a turn more than what stands behind it
  have key : ∀ {Γ2 : Gm}, mWhile t body Γ2 ≠ .no → ∃ n, whN t body n Γ2 = mWhile t body Γ2 := fun h => mWhile_eq h
  have no_of : ∀ {Γ2 : Gm}, mWhile t body Γ2 = .no → ∀ n, whN t body n Γ2 = .no := fun {Γ2} h n => by
    cases e : whN t body n Γ2 with
    | no => rfl
    | _ =>
      have := mWhile_of (t := t) (body := body) (n := n) (Γ := Γ2) (by rw [e]; intro z; cases z)
      rw [h, e] at this
      cases this
  have up : ∀ {r : SE}, (∃ n, whN t body (n + 1) Γ = r) → r ≠ .no → mWhile t body Γ = r := fun {r} ⟨n, e⟩ h => by rw [mWhile_of (n := n + 1) (by rw [e]; exact h), e]
  have dn : (∀ n, whN t body (n + 1) Γ = .no) → mWhile t body Γ = .no := fun h => by
    unfold mWhile
    rw [dif_neg]
    rintro ⟨n, hn⟩
    cases n with
    | zero => exact hn rfl
    | succ n => exact hn (h n)
  cases e : t Γ with
  | ok b Γ1 =>
    simp only [R.toS_ok]
    cases b with
    | false => exact up ⟨0, by unfold whN; rw [e]; rfl⟩ (by intro z; cases z)
    | true =>
      rw [if_pos rfl]
      have st : ∀ n, whN t body (n + 1) Γ = (match body Γ1 with
          | .nx Γ2 => whN t body n Γ2
          | .ct Γ2 => whN t body n Γ2
          | .bk Γ2 => .nx Γ2
          | r => r) := fun n => by
        conv => lhs; unfold whN
        rw [e]; rfl
      cases eb : body Γ1 with
      | nx Γ2 =>
        rw [eb] at st
        by_cases h : mWhile t body Γ2 = .no
        · exact Eq.trans (dn fun n => by rw [st]; exact no_of h n) h.symm
        · obtain ⟨n, hn⟩ := key h
          exact up ⟨n, by rw [st]; exact hn⟩ h
      | ct Γ2 =>
        rw [eb] at st
        by_cases h : mWhile t body Γ2 = .no
        · exact Eq.trans (dn fun n => by rw [st]; exact no_of h n) h.symm
        · obtain ⟨n, hn⟩ := key h
          exact up ⟨n, by rw [st]; exact hn⟩ h
      | bk Γ2 => rw [eb] at st; exact up ⟨0, st 0⟩ (by intro z; cases z)
      | rt _ _ => rw [eb] at st; exact up ⟨0, st 0⟩ (by intro z; cases z)
      | ex _ _ => rw [eb] at st; exact up ⟨0, st 0⟩ (by intro z; cases z)
      | no => rw [eb] at st; exact dn st
  | ex x Γ1 => exact up ⟨0, by unfold whN; rw [e]; rfl⟩ (by intro z; cases z)
  | no => exact dn fun n => by unfold whN; rw [e]; rfl

section
variable {X : Cx} {B : Bx} {Δ Δ1 Δ2 : Fl} {tg iter c : Expr} {body : List Stmt} {mi : Gm → R (List D)} {t : Gm → R Bool} {g : D → Gm → Option Gm} {mb : Gm → SE} {pos : Pos} {ts : List Nat}
/-- what a loop's own ends are to reach -/
theorem ds_for (hp : PassesOwn (model X.prog X.w) X.A X.env X.xe) (hi : DI X B.S B.C Δ tg iter mi Δ1) (hg : DG X B.S Δ1 tg g Δ2 ts) (hb : DSs X { B with Δl := Δ1 } Δ2 body mb Δ1) (hc : X.calm = true := by rfl)
    (hs : ∀ x, foldedSetIterable iter X.env x = pure x := by intro _; rfl) : DS X B Δ (.For tg iter body [] pos) (mFor mi g mb) Δ1 :=
  (ps_for hp hc hi hg hb hs).weak fun Dn σ H ⟨Z, Γ, s, h⟩ => ⟨Z, Γ, s, h.bind.mono (fun items Γ1 ⟨_, h1⟩ Z1 H1 J g1 it => by
    refine ⟨fun i m σ' H' => m = items.length - i ∧ ∃ Z' Γ', SR X.K X.mg B.S Δ1 Z' Γ' σ' H' ∧ Ag Z1 Z' H1 H' ∧ SPost X.K X.mg B Δ1 Dn Z1 H1 (forD g mb (items.drop i) Γ'),
      ⟨_, rfl, Z1, Γ1, g1.s, .refl, by rw [List.drop_zero]; exact h1.from (g1.ag s)⟩, ?_⟩
    rintro i m σ' H' ⟨rfl, Z', Γ', s', ag, hq⟩
    obtain ⟨o1, o2⟩ := it i Z' H' ag s'.zd
    by_cases hlt : i < items.length
    · obtain ⟨go, yl⟩ := o1 hlt
      refine .inr ⟨go, fun σ2 H2 => ∃ Z2 Γ2, SR X.K X.mg B.S Δ1 Z2 Γ2 σ2 H2 ∧ Ag Z1 Z2 H1 H2 ∧ SPost X.K X.mg B Δ1 Dn Z1 H1 (forD g mb (items.drop (i + 1)) Γ2), fun σ2 H2 hn => ⟨items.length - (i + 1), by omega, rfl, hn⟩, fun x H2 y => ?_⟩
      obtain ⟨Z2, d, hd, g0, r⟩ := yl x H2 y
      have hde : items.drop i = d :: items.drop (i + 1) := by
        rw [List.getElem?_eq_getElem hlt] at hd
        cases hd
        exact List.drop_eq_getElem_cons hlt
      rw [hde] at hq
      unfold forD at hq
      cases eg : g d Γ' with
      | none => rw [eg] at hq; exact hq.elim
      | some Γ2 =>
        rw [eg] at hq
        have ag2 : Ag Z1 Z2 H1 H2 := ag.trans (g0.ag0 s'.zd)
        refine ⟨Z2, Γ', d, Γ2, s'.gr0 g0, r, eg, fun σ3 s3 _ _ => ⟨Z2, Γ2, s3, ?_⟩⟩
        dsimp only at hq
        cases eb : mb Γ2 with
        | nx Γ3 => rw [eb] at hq; exact fun Z4 σ4 H4 s4 a4 => ⟨Z4, Γ3, s4, ag2.trans a4, hq⟩
        | ct Γ3 => rw [eb] at hq; exact fun Z4 σ4 H4 s4 a4 => ⟨Z4, Γ3, s4, ag2.trans a4, hq⟩
        | bk Γ3 => rw [eb] at hq; exact fun Z4 σ4 H4 s4 a4 => hq Z4 σ4 H4 s4 (ag2.trans a4)
        | rt d3 Γ3 => rw [eb] at hq; exact hq
        | ex x3 Γ3 => rw [eb] at hq; exact hq
        | no => rw [eb] at hq; exact hq
    · refine .inl ⟨o2 (by omega), ?_⟩
      rw [List.drop_of_length_le (by omega)] at hq
      exact hq Z' σ' H' s' ag) fun _ _ c => c⟩
theorem ds_while (hp : PassesOwn (model X.prog X.w) X.A X.env X.xe) (hc : DT X B.S B.C Δ c t Δ) (hb : DSs X { B with Δl := Δ } Δ body mb Δ) : DS X B Δ (.While c body [] pos) (mWhile t mb) Δ :=
  (ps_while hp hc hb).weak fun Dn σ H ⟨Z, Γ, s, h⟩ => by
    have hne : mWhile t mb Γ ≠ .no := fun z => by rw [z] at h; exact h
    obtain ⟨n, hn⟩ := mWhile_eq hne
    rw [← hn] at h
    refine ⟨fun m σ' H' => ∃ Z' Γ', SR X.K X.mg B.S Δ Z' Γ' σ' H' ∧ SPost X.K X.mg B Δ Dn Z' H' (whN t mb m Γ') ∧ Ag Z Z' H H' ∧ SPost X.K X.mg B Δ Dn Z H (whN t mb m Γ'), ⟨n, Z, Γ, s, h, .refl, h⟩, ?_⟩
    rintro m σ' H' ⟨Z', Γ', s', _, ag, hq⟩
    cases m with
    | zero => exact hq.elim
    | succ m =>
      unfold whN at hq
      refine ⟨Z', Γ', s', hq.bind.mono (fun b Γ1 ⟨_, h1⟩ Z1 H1 g1 => ?_) fun _ _ c => c⟩
      have ag1 := ag.trans (g1.ag s')
      cases b with
      | false => rw [if_neg Bool.false_ne_true] at h1; show (if false = true then _ else Dn.nx σ' H1); rw [if_neg Bool.false_ne_true]; exact h1 Z1 σ' H1 g1.s ag1
      | true =>
        rw [if_pos rfl] at h1
        show (if true = true then _ else Dn.nx σ' H1)
        rw [if_pos rfl]
        refine ⟨fun σ2 H2 => ∃ Z2 Γ2, SR X.K X.mg B.S Δ Z2 Γ2 σ2 H2 ∧ Ag Z Z2 H H2 ∧ SPost X.K X.mg B Δ Dn Z H (whN t mb m Γ2), fun σ2 H2 ⟨Z2, Γ2, s2, a2, q2⟩ => ⟨m, Nat.lt_succ_self m, Z2, Γ2, s2, q2.from a2, a2, q2⟩, Z1, Γ1, g1.s, ?_⟩
        cases eb : mb Γ1 with
        | nx Γ3 => rw [eb] at h1; exact fun Z4 σ4 H4 s4 a4 => ⟨Z4, Γ3, s4, ag1.trans a4, h1⟩
        | ct Γ3 => rw [eb] at h1; exact fun Z4 σ4 H4 s4 a4 => ⟨Z4, Γ3, s4, ag1.trans a4, h1⟩
        | bk Γ3 => rw [eb] at h1; exact fun Z4 σ4 H4 s4 a4 => h1 Z4 σ4 H4 s4 (ag1.trans a4)
        | rt d3 Γ3 => rw [eb] at h1; exact h1
        | ex x3 Γ3 => rw [eb] at h1; exact h1
        | no => rw [eb] at h1; exact h1
end
end DL
/-! DL10: what a def promises, calls. -/
namespace DL
open PySem PySem.Spec PyProof.Rows L2

/-! ### exceptions that leave -/
def TkC (X : Cx) (S : Sx) (C : Xd → Gm → Prop) (Δx : Fl) : Prop :=
  ∃ W, Takes X W ∧ ∀ x Γ Z σ H cls dd, SR X.K X.mg S Δx Z Γ σ H → Xr X.K X.mg Z H x cls dd → C x Γ → W cls dd σ H
theorem Xr.ag {K : PySem.W.Frag} {mg : Str → Option Value} {Z Z' : Addr → Prop} {H H' : Hp} {x : Xd} {cls : Value} {dd : Option Addr} (h : Xr K mg Z H x cls dd) (g : Ag Z Z' H H') : Xr K mg Z' H' x cls dd := by
  obtain ⟨C, e1, e2, h⟩ := h
  refine ⟨C, e1, e2, ?_⟩
  rcases h with h | ⟨d, fs, e3, h, z, r⟩
  · exact .inl h
  · exact .inr ⟨d, fs, e3, (g.eq d z).trans h, g.zs d z, r.ag g⟩
/-- an exception that the code lets out -/
theorem TkC.out {X : Cx} {S : Sx} {C : Xd → Gm → Prop} {Δ Δx : Fl} {W : WX} {x : Xd} {Γ : Gm} {Z : Addr → Prop} {σ : Sg} {H : Hp} {cls : Value} {dd : Option Addr}
    (h : ∀ x Γ Z σ H cls dd, SR X.K X.mg S Δx Z Γ σ H → Xr X.K X.mg Z H x cls dd → C x Γ → W cls dd σ H) (s : SR X.K X.mg S Δ Z Γ σ H) (hs : sub Δx Δ = true) (hP : ∀ p ∈ S.PM, own Δx p.1) (r : Xr X.K X.mg Z H x cls dd) (c : C x Γ) : W cls dd σ H := by
  obtain ⟨Z', a, b, _, _⟩ := s.freeze hs hP
  exact h x Γ Z' σ H cls dd a (r.ag (s.agO b)) c

/-! ### the promise -/
structure ArgsOk (K : PySem.W.Frag) (mg : Str → Option Value) (Z : Addr → Prop) (H : Hp) (P : List Nat) (ds : List D) (vs : List V) : Prop where
  l : vs.length = ds.length
  im : ∀ i d, ds[i]? = some d → i ∉ P → ∃ v, vs[i]? = some v ∧ Rp K mg Z H d v
  ow : ∀ i d, ds[i]? = some d → i ∈ P → ∃ a : Addr, vs[i]? = some (V.ref a) ∧ Ow K mg Z H a d ∧ ¬ Z a
  ap : ∀ i j (a : Addr), i ≠ j → i ∈ P → j ∈ P → vs[i]? = some (V.ref a) → vs[j]? ≠ some (V.ref a)
def Mv (P : List Nat) (vs : List V) (a : Addr) : Prop := ∃ i, i ∈ P ∧ vs[i]? = some (V.ref a)
structure AfterD (K : PySem.W.Frag) (mg : Str → Option Value) (Z : Addr → Prop) (H : Hp) (P : List Nat) (vs : List V) (os : List D) (Z' : Addr → Prop) (H' : Hp) : Prop where
  g : Gr (Mv P vs) Z Z' H H'
  o : ∀ (k i : Nat) (a : Addr), P[k]? = some i → vs[i]? = some (V.ref a) → ∃ d, os[k]? = some d ∧ Ow K mg Z' H' a d ∧ ¬ Z' a
def RtC (K : PySem.W.Frag) (mg : Str → Option Value) (H : Hp) (Z' : Addr → Prop) (H' : Hp) : Bool → D → V → Prop
  | false, d, v => Rp K mg Z' H' d v
  | true, d, v => ∃ a : Addr, v = .ref a ∧ Ow K mg Z' H' a d ∧ ¬ Z' a ∧ H a = none
def FPost (K : PySem.W.Frag) (mg : Str → Option Value) (P : List Nat) (ro : Bool) (Z : Addr → Prop) (H : Hp) (vs : List V) (Q : VK) (E : XK) : FR → Prop
  | .rt d os => ∀ Z' H' v, AfterD K mg Z H P vs os Z' H' → RtC K mg H Z' H' ro d v → Q v H'
  | .ex x os => ∀ Z' H' cls dd, AfterD K mg Z H P vs os Z' H' → Xr K mg Z' H' x cls dd → E cls dd H'
  | .no => False
def spD (K : PySem.W.Frag) (mg : Str → Option Value) (F : List D → FR) (n : Nat) (P : List Nat) (ro : Bool) : Sp := fun vs H Q E =>
  vs.length = n ∧ ∃ Z ds, Zd Z H ∧ ArgsOk K mg Z H P ds vs ∧ FPost K mg P ro Z H vs Q E (F ds)

/-! ### a def's body -/
def g0 (n : Nat) (ds : List D) : Gm := ds.map some ++ List.replicate (n - ds.length) none
def outs (P : List Nat) (Γ : Gm) : List D := P.map fun i => match Γ[i]? with
  | some (some d) => d
  | _ => .non
def mFn (n : Nat) (P : List Nat) (ro : Bool) (m : Gm → SE) (ds : List D) : FR := match m (g0 n ds) with
  | .nx Γ => if ro = true then .no else .rt .non (outs P Γ)
  | .rt d Γ => .rt d (outs P Γ)
  | .ex x Γ => .ex x (outs P Γ)
  | _ => .no
/-- the entry -/
def Sx0 (Z : Addr → Prop) (H : Hp) (P : List Nat) (vs : List V) : Sx where
  Z0 := Z
  H0 := H
  PM := P.filterMap fun (i : Nat) => match vs[i]? with
    | some (V.ref a) => some (i, a)
    | _ => none
  An := fun _ _ => True
  anc := fun _ _ _ _ _ _ => trivial
  Fx := []
section
variable {K : PySem.W.Frag} {mg : Str → Option Value} {Z Z' : Addr → Prop} {H H' : Hp} {P : List Nat} {vs : List V} {ds : List D} {n : Nat}
theorem sx0_pm {i : Nat} {a : Addr} : (i, a) ∈ (Sx0 Z H P vs).PM ↔ i ∈ P ∧ vs[i]? = some (V.ref a) := by
  unfold Sx0
  simp only [List.mem_filterMap]
  constructor
  · rintro ⟨j, hj, e⟩
    split at e
    · rename_i b eb
      cases e; exact ⟨hj, eb⟩
    · cases e
  · rintro ⟨hi, e⟩
    exact ⟨i, hi, by rw [e]⟩
theorem sx0_m {a : Addr} : (Sx0 Z H P vs).M a ↔ Mv P vs a := by
  unfold Sx.M Mv
  simp only [sx0_pm]
theorem sx0_pms (h : ArgsOk K mg Z H P ds vs) (hP : ∀ i ∈ P, i < ds.length) : PMs (Sx0 Z H P vs) P := by
  unfold PMs Sx0
  dsimp only
  have : ∀ Q : List Nat, (∀ i ∈ Q, i ∈ P) → List.map (·.1) (Q.filterMap fun (i : Nat) => match vs[i]? with
    | some (V.ref a) => some (i, a)
    | _ => none) = Q := by
    intro Q
    induction Q with
    | nil => intro _; rfl
    | cons i Q ih =>
      intro hq
      have hi := hq i (List.mem_cons_self ..)
      have hl := hP i hi
      obtain ⟨a, ha, _⟩ := h.ow i (ds[i]'hl) (List.getElem?_eq_getElem hl) hi
      rw [List.filterMap_cons]
      simp only [ha, List.map_cons]
      rw [ih fun j hj => hq j (List.mem_cons_of_mem _ hj)]
  exact this P fun _ h => h
theorem start_get {N : List Str} {i : Nat} {v : V} (h : vs[i]? = some v) : (L2.start N vs)[i]? = some (some v) := by
  unfold L2.start
  have hi : i < vs.length := (List.getElem?_eq_some_iff.mp h).1
  rw [List.getElem?_append_left (by simpa using hi), List.getElem?_map, h]
  rfl
theorem g0_get {i : Nat} {d : D} (h : (g0 n ds)[i]? = some (some d)) : ds[i]? = some d := by
  unfold g0 at h
  by_cases hi : i < ds.length
  · rw [List.getElem?_append_left (by simpa using hi), List.getElem?_map] at h
    cases e : ds[i]? with
    | none => rw [e] at h; cases h
    | some u => rw [e] at h; cases h; rfl
  · rw [List.getElem?_append_right (by simpa using hi), List.getElem?_replicate] at h
    split at h <;> cases h
theorem g0_at {i : Nat} {d : D} (h : ds[i]? = some d) : (g0 n ds)[i]? = some (some d) := by
  unfold g0
  have hi : i < ds.length := (List.getElem?_eq_some_iff.mp h).1
  rw [List.getElem?_append_left (by simpa using hi), List.getElem?_map, h]
  rfl
theorem sr_start {N : List Str} (h : ArgsOk K mg Z H P ds vs) (zd : Zd Z H) (hl : ds.length ≤ N.length) (hP : ∀ i ∈ P, i < ds.length) : SR K mg (Sx0 Z H P vs) (flP N.length P) Z (g0 N.length ds) (L2.start N vs) H := by
  have fo : ∀ j, own (flP N.length P) j ↔ j ∈ P := fun j => flP_own (fun i hi => Nat.lt_of_lt_of_le (hP i hi) hl) j
  have sg : ∀ {i : Nat} {u : V}, (L2.start N vs)[i]? = some (some u) → vs[i]? = some u := fun {i u} e => by
    unfold L2.start at e
    by_cases hi : i < vs.length
    · rw [List.getElem?_append_left (by simpa using hi), List.getElem?_map] at e
      cases e2 : vs[i]? with
      | none => rw [e2] at e; cases e
      | some u => rw [e2] at e; cases e; rfl
    · rw [List.getElem?_append_right (by simpa using hi), List.getElem?_replicate] at e
      split at e <;> cases e
  refine ⟨?_, ?_, zd, fun _ z => z, fun a o e _ => e, fun a z => .inl z, fun i d e o => ?_, fun i d e o => ?_, fun i j d e a hij h1 o1 h2 o2 q1 q2 => ?_, fun i a m => ?_, trivial, fun _ _ h => nomatch h⟩
  · unfold g0 L2.start; simp; have := h.l; omega
  · rw [flP_len]; unfold g0; simp; omega
  · obtain ⟨v, hv, r⟩ := h.im i d (g0_get e) fun z => o ((fo i).mpr z)
    exact ⟨v, start_get hv, r⟩
  · have ip := (fo i).mp o
    obtain ⟨a, ha, w, nz⟩ := h.ow i d (g0_get e) ip
    exact ⟨a, start_get ha, w, nz, .inl (sx0_m.mpr ⟨i, ip, ha⟩)⟩
  · exact h.ap i j a hij ((fo i).mp o1) ((fo j).mp o2) (sg q1) (sg q2)
  · obtain ⟨ip, e⟩ := sx0_pm.mp m
    have hl := hP i ip
    exact ⟨start_get e, (fo i).mpr ip, _, g0_at (List.getElem?_eq_getElem hl)⟩
/-- what a body's state tells behind it -/
theorem after_of {Δ : Fl} {Γ : Gm} {σ : Sg} (zd : Zd Z H) (s : SR K mg (Sx0 Z H P vs) Δ Z' Γ σ H') : AfterD K mg Z H P vs (outs P Γ) Z' H' := by
  have th : ∀ a, Mv P vs a → ∃ i d, i ∈ P ∧ vs[i]? = some (V.ref a) ∧ Γ[i]? = some (some d) ∧ Ow K mg Z' H' a d ∧ ¬ Z' a := fun a ⟨i, ip, e⟩ => by
    obtain ⟨q, o, d, hd⟩ := s.par i a (sx0_pm.mpr ⟨ip, e⟩)
    obtain ⟨b, hb, w, nz, _⟩ := s.ow i d hd o
    rw [q] at hb; cases hb
    exact ⟨i, d, ip, e, hd, w, nz⟩
  refine ⟨⟨s.z0, fun a o e n => s.keep a o e fun m => n (sx0_m.mp m), fun a z => (s.new a z).imp id .inr, fun a o e => ?_, s.zd⟩, fun k i a hk e => ?_⟩
  · by_cases m : Mv P vs a
    · obtain ⟨_, _, _, _, _, w, _⟩ := th a m
      exact w.there
    · exact ⟨o, s.keep a o e fun z => m (sx0_m.mp z)⟩
  · have ip : i ∈ P := List.mem_of_getElem? hk
    obtain ⟨q, o, d, hd⟩ := s.par i a (sx0_pm.mpr ⟨ip, e⟩)
    obtain ⟨b, hb, w, nz, _⟩ := s.ow i d hd o
    rw [q] at hb; cases hb
    refine ⟨d, ?_, w, nz⟩
    unfold outs
    rw [List.getElem?_map, hk]
    simp [hd]
end
theorem outs_mask {P : List Nat} {Γ : Gm} : outs P (mask P Γ) = outs P Γ := by
  unfold outs
  apply List.map_congr_left
  intro i hi
  rw [mask_get]
  cases e : Γ[i]? with
  | none => rfl
  | some o => simp [hi]
section
variable {P : Program} {w : World} {K : PySem.W.Frag} {mg : Str → Option Value} {base : Heap}
/-- what is asked of a def's body: X the body's context, B what it is asked within -/
structure Body (X : Cx) (B : Bx) (k : Nat) : Prop where
  ob : Okb B
  tk : TkC X B.S B.C B.Δx
  hp : PassesOwn (model X.prog X.w) X.A X.env X.xe
  rm : Room k X.A
theorem fn_ok {x qual : Str} {st : Stmt} {f : Addr} {fd : FuncData} {N ps : List Str} {k : Nat} {Pm : List Nat} {ro : Bool} {m : Gm → SE} {Δe : Fl} {Fm : List D → FR} (F : Fun K x qual st f fd) (S : FnScope N ps (defScope st))
    (hF : Fm = mFn N.length Pm ro m)
    (hb : ∀ (cdv : Value) (A : Around) (outer : List Env) (s : Shared) (H : Hp) (E : XK) (S : Sx) (C : Xd → Gm → Prop),
      Body (cxOf (L2.CX P w) P w K mg base N qual (defScope st) f cdv A outer s H E) ⟨S, C, Pm, N.length, flP N.length Pm, ro, [], []⟩ k →
      DSs (cxOf (L2.CX P w) P w K mg base N qual (defScope st) f cdv A outer s H E) ⟨S, C, Pm, N.length, flP N.length Pm, ro, [], []⟩ (flP N.length Pm) (defBody st) m Δe)
    (hP : (Pm.all fun i => decide (i < ps.length)) = true := by rfl) (hN : ps.length ≤ N.length := by decide) (hd : N.Nodup := by decide) : FnOk P w K mg base (L2.CX P w) (k + 1) f fd ps (spD K mg Fm ps.length Pm ro) :=
  Fun.okX F S (fun vs H Q E h => h.1) fun cdv A outer s H vs Q E hr ⟨hl, Z, ds, zd, ao, hq⟩ => by
    have hP' : ∀ i ∈ Pm, i < ds.length := fun i hi => by
      have := List.all_eq_true.mp hP i hi
      rw [← ao.l, hl]; simpa using this
    have hPn : ∀ i ∈ Pm, i < N.length := fun i hi => by have := hP' i hi; rw [← ao.l, hl] at this; omega
    have pms : PMs (Sx0 Z H Pm vs) Pm := sx0_pms ao hP'
    have s0 := sr_start (N := N) ao zd (by rw [← ao.l, hl]; exact hN) hP'
    subst hF
    refine ⟨_, hb cdv A outer s H E (Sx0 Z H Pm vs) (fun x Γ => ∀ Z' H' cls dd, AfterD K mg Z H Pm vs (outs Pm Γ) Z' H' → Xr K mg Z' H' x cls dd → E cls dd H')
      ⟨⟨pms, hPn, fun _ _ h => nomatch h⟩, ⟨_, takes_of rfl rfl rfl rfl, fun x Γ Z' σ H' cls dd s r c => c Z' H' cls dd (after_of zd s) r⟩, passes_of rfl, hr⟩, Z, _, s0, ?_⟩
    unfold mFn at hq
    cases e : m (g0 N.length ds) with
    | nx Γ =>
      rw [e] at hq
      cases ro with
      | true => exact hq.elim
      | false => exact fun Z' σ' H' s' _ => hq Z' H' .non (after_of zd s') .non
    | rt d Γ =>
      rw [e] at hq
      refine fun Z' σ' H' v s' r => hq Z' H' v (by have := after_of zd s'; rwa [outs_mask] at this) ?_
      cases ro with
      | false => exact r
      | true =>
        obtain ⟨a, e1, w, nz, _, n0⟩ := r
        exact ⟨a, e1, w, nz, n0⟩
    | bk Γ => rw [e] at hq; exact hq.elim
    | ct Γ => rw [e] at hq; exact hq.elim
    | ex x Γ => rw [e] at hq; exact hq
    | no => rw [e] at hq; exact hq.elim
end
end DL
/-! DL11: calls. -/
namespace DL
open PySem PySem.Spec PyProof.Rows L2

/-- an argument: a value | the thing that slot i owns -/
inductive Am where
  | e (m : Gm → R D) | p (i : Nat)
def evA : List Am → Gm → R (List (Option D))
  | [], Γ => .ok [] Γ
  | .e m :: as, Γ => (m Γ).bind fun d Γ1 => (evA as Γ1).bind fun ds Γ2 => .ok (some d :: ds) Γ2
  | .p i :: as, Γ => match Γ[i]? with
    | some (some _) => (evA as Γ).bind fun ds Γ2 => .ok (none :: ds) Γ2
    | _ => .no
def fillA (Γ : Gm) : List Am → List (Option D) → Option (List D)
  | [], [] => some []
  | .e _ :: as, some d :: xs => match fillA Γ as xs with
    | some ds => some (d :: ds)
    | none => none
  | .p i :: as, none :: xs => match Γ[i]?, fillA Γ as xs with
    | some (some d), some ds => some (d :: ds)
    | _, _ => none
  | _, _ => none
def slotsA : List Am → List Nat
  | [] => []
  | .e _ :: as => slotsA as
  | .p i :: as => i :: slotsA as
def posA : Nat → List Am → List Nat
  | _, [] => []
  | k, .e _ :: as => posA (k + 1) as
  | k, .p _ :: as => k :: posA (k + 1) as
def setOuts : List Nat → List D → Gm → Gm
  | i :: is, d :: ds, Γ => setOuts is ds (Γ.set i (some d))
  | _, _, Γ => Γ
def mCall (F : List D → FR) (dds : List D) (as : List Am) : Gm → R D := fun Γ => (evA as Γ).bind fun xs Γ1 => match fillA Γ1 as xs with
  | some ds => match F (ds ++ dds) with
    | .rt d os => .ok d (setOuts (slotsA as) os Γ1)
    | .ex x os => .ex x (setOuts (slotsA as) os Γ1)
    | .no => .no
  | none => .no
/-- the arguments as they stand -/
inductive ArA (K : PySem.W.Frag) (mg : Str → Option Value) (σ : Sg) (Z : Addr → Prop) (H : Hp) : List Am → List (Option D) → List V → Prop
  | nil : ArA K mg σ Z H [] [] []
  | e {m : Gm → R D} {d : D} {v : V} {as : List Am} {xs : List (Option D)} {vs : List V} : Rp K mg Z H d v → ArA K mg σ Z H as xs vs → ArA K mg σ Z H (.e m :: as) (some d :: xs) (v :: vs)
  | p {i : Nat} {v : V} {as : List Am} {xs : List (Option D)} {vs : List V} : σ[i]? = some (some v) → ArA K mg σ Z H as xs vs → ArA K mg σ Z H (.p i :: as) (none :: xs) (v :: vs)
section
variable {K : PySem.W.Frag} {mg : Str → Option Value} {S : Sx} {σ : Sg} {Δ Δ1 : Fl} {Z Z' : Addr → Prop} {Γ Γ' : Gm} {H H' : Hp}
theorem ArA.ag (g : Ag Z Z' H H') : ∀ {as : List Am} {xs : List (Option D)} {vs : List V}, ArA K mg σ Z H as xs vs → ArA K mg σ Z' H' as xs vs
  | _, _, _, .nil => .nil
  | _, _, _, .e r t => .e (r.ag g) (ArA.ag g t)
  | _, _, _, .p q t => .p q (ArA.ag g t)
def rdAr (K : PySem.W.Frag) (mg : Str → Option Value) (S : Sx) (C : Xd → Gm → Prop) (Δ : Fl) (as : List Am) (Δ' : Fl) : TA := fun σ H Q =>
  ∃ Z Γ, SR K mg S Δ Z Γ σ H ∧ Post (evA as Γ) (fun xs Γ' => ∀ Z' H' vs, Go K mg S σ Δ Z Γ H Δ' Z' Γ' H' → ArA K mg σ Z' H' as xs vs → Q vs H') C
abbrev DAr (X : Cx) (S : Sx) (C : Xd → Gm → Prop) (Δ : Fl) (es : List Expr) (as : List Am) (Δ' : Fl) : Prop := PA X es (rdAr X.K X.mg S C Δ as Δ')
end
section
variable {X : Cx} {S : Sx} {C : Xd → Gm → Prop} {Δ Δ1 Δ2 : Fl} {e : Expr} {es : List Expr} {m : Gm → R D} {as : List Am} {pos : Pos}
theorem da_nil : DAr X S C Δ [] [] Δ := pa_nil.weak fun σ H Q ⟨Z, Γ, s, h⟩ => h Z H [] (.refl s) .nil
theorem da_e (h1 : DE X S C Δ e m Δ1 .im) (h2 : DAr X S C Δ1 es as Δ2) (hs : starEach (e :: es) X.env = (false, eval e X.env) :: starEach es X.env := by rfl) : DAr X S C Δ (e :: es) (.e m :: as) Δ2 :=
  (pa_cons h1 h2 hs).weak fun σ H Q ⟨Z, Γ, s, h⟩ => ⟨Z, Γ, s, h.bind.mono (fun d Γ1 h1 Z1 H1 v g1 r1 => ⟨Z1, Γ1, g1.s, h1.bind.mono (fun ds Γ2 h2 Z2 H2 vs g2 r2 => h2 Z2 H2 (v :: vs) (g1.trans g2) (.e (Rp.ag (g2.ag g1.s) r1) r2)) fun _ _ c => c⟩) fun _ _ c => c⟩
theorem da_p (i : Nat) {x : Str} (h2 : DAr X S C Δ es as Δ2) (hN : X.N[i]? = some x := by rfl) (hv : Vis X.env.scope x := by first | exact Or.inl rfl | exact Or.inr (Or.inl rfl) | exact Or.inr (Or.inr rfl)) (hd : (x == ("__debug__" : Str)) = false := by decide)
    (hcd : (x == ("__classdict__" : Str)) = false := by decide) (hs : starEach (Expr.Name x pos :: es) X.env = (false, eval (Expr.Name x pos) X.env) :: starEach es X.env := by rfl) : DAr X S C Δ (.Name x pos :: es) (.p i :: as) Δ2 :=
  (pa_cons (pe_var hN hv hd hcd) h2 hs).weak fun σ H Q ⟨Z, Γ, s, h⟩ => by
    unfold evA at h
    split at h
    · rename_i d e
      obtain ⟨v, hv⟩ := s.bound e
      exact ⟨v, hv, Z, Γ, s, h.bind.mono (fun ds Γ2 h2 Z2 H2 vs g2 r2 => h2 Z2 H2 (v :: vs) g2 (.p hv r2)) fun _ _ c => c⟩
    · exact h.elim
end

/-! ### the state behind a call -/
section
variable {K : PySem.W.Frag} {mg : Str → Option Value} {S : Sx} {σ : Sg} {Δ Δ1 : Fl} {Z Z' : Addr → Prop} {Γ Γ' : Gm} {H H' : Hp} {as : List Am} {xs : List (Option D)} {vs : List V} {ds : List D}
theorem SR.many {is : List Nat} (s : SR K mg S Δ Z Γ σ H) (ho : ∀ i ∈ is, own Δ i) (g : Gr (fun a => ∃ i d, i ∈ is ∧ Γ[i]? = some (some d) ∧ σ[i]? = some (some (V.ref a))) Z Z' H H')
    (hl : Γ'.length = Γ.length) (h1 : ∀ (j : Nat) e, Γ'[j]? = some (some e) → ∃ e', Γ[j]? = some (some e') ∧ ((j ∉ is ∧ e' = e) ∨ (j ∈ is ∧ ∀ a : Addr, σ[j]? = some (some (V.ref a)) → Ow K mg Z' H' a e)))
    (h2 : ∀ (j : Nat) e, Γ[j]? = some (some e) → ∃ e', Γ'[j]? = some (some e'))
    (h3 : ∀ (j : Nat) (a : Addr), j ∈ is → (∃ d, Γ[j]? = some (some d)) → σ[j]? = some (some (V.ref a)) → ¬ Z' a) : Go K mg S σ Δ Z Γ H Δ Z' Γ' H' := by
  have oa : ∀ a, (∃ i d, i ∈ is ∧ Γ[i]? = some (some d) ∧ σ[i]? = some (some (V.ref a))) → OA Δ Γ σ a := fun a ⟨i, d, hi, hd, ha⟩ => ⟨i, d, ho i hi, hd, ha⟩
  have ag : Ag Z Z' H H' := s.ag g oa
  refine ⟨⟨hl.trans s.len, s.dl.trans hl.symm, g.zd, fun a z => g.zs a (s.z0 a z), fun a o e m => g.kp a o (s.keep a o e m) fun z => ?_, fun a z => ?_, fun j e he o => ?_, fun j e he o => ?_, fun i j d e a hij e1 o1 e2 o2 => ?_, fun j a m => ?_, S.anc _ _ _ _ s.an ag, s.fx⟩, g.wide oa, fun x hx => ?_⟩
  · obtain ⟨i, d, hi, hd, ha⟩ := z
    obtain ⟨b, hb, _, _, mm⟩ := s.ow i d hd (ho i hi)
    rw [ha] at hb; cases hb
    rcases mm with mm | mm
    · exact m mm
    · rw [mm] at e; cases e
  · rcases g.nw a z with q | ⟨i, d, hi, hd, ha⟩ | q
    · exact s.new a q
    · exact absurd z (h3 i a hi ⟨d, hd⟩ ha)
    · exact .inr (s.fresh q)
  · obtain ⟨e', he', q⟩ := h1 j e he
    rcases q with ⟨_, rfl⟩ | ⟨q, _⟩
    · obtain ⟨v, hv, r⟩ := s.im j e' he' o
      exact ⟨v, hv, r.ag ag⟩
    · exact absurd (ho j q) o
  · obtain ⟨e', he', q⟩ := h1 j e he
    obtain ⟨a, ha, w, nz, mm⟩ := s.ow j e' he' o
    rcases q with ⟨hj, rfl⟩ | ⟨hj, q⟩
    · have na : ¬ ∃ i d, i ∈ is ∧ Γ[i]? = some (some d) ∧ σ[i]? = some (some (V.ref a)) := fun ⟨i, d, hi, hd, hb⟩ => by
        by_cases hij : i = j
        · exact hj (hij ▸ hi)
        · exact s.ap i j d e' a hij hd (ho i hi) he' o hb ha
      obtain ⟨u, hu⟩ := w.there
      refine ⟨a, ha, w.ag ag (by rw [g.kp a u hu na, hu]), fun z => ?_, mm⟩
      rcases g.nw a z with q | q | q
      · exact nz q
      · exact na q
      · rw [hu] at q; cases q
    · exact ⟨a, ha, q a ha, h3 j a hj ⟨_, he'⟩ ha, mm⟩
  · obtain ⟨d', hd', _⟩ := h1 i d e1
    obtain ⟨e', he', _⟩ := h1 j e e2
    exact s.ap i j d' e' a hij hd' o1 he' o2
  · obtain ⟨q, o, e, he⟩ := s.par j a m
    exact ⟨q, o, h2 j e he⟩
  · obtain ⟨i, d, o, hd, ha⟩ := hx
    obtain ⟨d', hd', _⟩ := h1 i d hd
    exact ⟨i, d', o, hd', ha⟩
theorem setOuts_len : ∀ (is : List Nat) (os : List D) (Γ : Gm), (setOuts is os Γ).length = Γ.length
  | [], os, Γ => by cases os <;> rfl
  | i :: is, [], Γ => rfl
  | i :: is, d :: os, Γ => by unfold setOuts; rw [setOuts_len]; simp
theorem setOuts_ne : ∀ (is : List Nat) (os : List D) (Γ : Gm) {j : Nat}, j ∉ is → (setOuts is os Γ)[j]? = Γ[j]?
  | [], os, Γ, j, _ => by cases os <;> rfl
  | i :: is, [], Γ, j, _ => rfl
  | i :: is, d :: os, Γ, j, h => by
    unfold setOuts
    rw [setOuts_ne is os _ fun z => h (List.mem_cons_of_mem _ z), List.getElem?_set_ne (fun (z : i = j) => h (by rw [← z]; exact List.mem_cons_self ..))]
theorem setOuts_at : ∀ (is : List Nat) (os : List D) (Γ : Gm) {j k : Nat} {d : D}, is.Nodup → is[k]? = some j → os[k]? = some d → j < Γ.length → (setOuts is os Γ)[j]? = some (some d)
  | [], os, Γ, j, k, d, _, h, _, _ => by simp at h
  | i :: is, [], Γ, j, k, d, _, _, h, _ => by simp at h
  | i :: is, e :: os, Γ, j, 0, d, nd, h1, h2, hl => by
    simp at h1 h2
    subst h1; subst h2
    unfold setOuts
    rw [setOuts_ne is os _ (List.nodup_cons.mp nd).1, List.getElem?_set_self hl]
  | i :: is, e :: os, Γ, j, k + 1, d, nd, h1, h2, hl => by
    unfold setOuts
    exact setOuts_at is os _ (List.nodup_cons.mp nd).2 (by simpa using h1) (by simpa using h2) (by simpa using hl)
/-- by place -/
theorem fill_get {Γ : Gm} {as : List Am} {xs : List (Option D)} {ds : List D} {vs : List V} (h : fillA Γ as xs = some ds) (a : ArA K mg σ Z H as xs vs) : ds.length = vs.length ∧ as.length = vs.length ∧ ∀ (j : Nat) (d : D), ds[j]? = some d →
    (∃ m v, as[j]? = some (Am.e m) ∧ vs[j]? = some v ∧ Rp K mg Z H d v) ∨ (∃ i v, as[j]? = some (Am.p i) ∧ vs[j]? = some v ∧ σ[i]? = some (some v) ∧ Γ[i]? = some (some d)) := by
  induction a generalizing ds with
  | nil =>
    unfold fillA at h; cases h
    exact ⟨rfl, rfl, fun j d e => by simp at e⟩
  | e r t ih =>
    unfold fillA at h
    split at h
    · rename_i ds e
      cases h
      obtain ⟨l1, l2, q⟩ := ih e
      refine ⟨by simp [l1], by simp [l2], fun j d e => ?_⟩
      cases j with
      | zero => simp at e; subst e; exact .inl ⟨_, _, rfl, rfl, r⟩
      | succ j => simpa using q j d (by simpa using e)
    · cases h
  | p hq t ih =>
    unfold fillA at h
    split at h
    · rename_i d0 ds e0 e
      cases h
      obtain ⟨l1, l2, q⟩ := ih e
      refine ⟨by simp [l1], by simp [l2], fun j d e => ?_⟩
      cases j with
      | zero => simp at e; subst e; exact .inr ⟨_, _, rfl, rfl, hq, e0⟩
      | succ j => simpa using q j d (by simpa using e)
    · cases h
theorem pos_mem : ∀ {as : List Am} {k j : Nat}, j ∈ posA k as ↔ k ≤ j ∧ ∃ i, as[j - k]? = some (Am.p i)
  | [], k, j => by simp [posA]
  | .e m :: as, k, j => by
    unfold posA
    rw [pos_mem (as := as)]
    constructor
    · rintro ⟨h, i, hi⟩
      refine ⟨by omega, i, ?_⟩
      have : j - k = (j - (k + 1)) + 1 := by omega
      rw [this, List.getElem?_cons_succ]; exact hi
    · rintro ⟨h, i, hi⟩
      by_cases hjk : j = k
      · subst hjk; simp at hi
      · have : j - k = (j - (k + 1)) + 1 := by omega
        rw [this, List.getElem?_cons_succ] at hi
        exact ⟨by omega, i, hi⟩
  | .p i0 :: as, k, j => by
    unfold posA
    rw [List.mem_cons, pos_mem (as := as)]
    constructor
    · rintro (rfl | ⟨h, i, hi⟩)
      · exact ⟨Nat.le_refl _, i0, by simp⟩
      · refine ⟨by omega, i, ?_⟩
        have : j - k = (j - (k + 1)) + 1 := by omega
        rw [this, List.getElem?_cons_succ]; exact hi
    · rintro ⟨h, i, hi⟩
      by_cases hjk : j = k
      · exact .inl hjk
      · have : j - k = (j - (k + 1)) + 1 := by omega
        rw [this, List.getElem?_cons_succ] at hi
        exact .inr ⟨by omega, i, hi⟩
theorem slots_at : ∀ {as : List Am} {k m i : Nat}, (slotsA as)[m]? = some i → ∃ j, (posA k as)[m]? = some j ∧ k ≤ j ∧ as[j - k]? = some (Am.p i)
  | [], k, m, i, h => by simp [slotsA] at h
  | .e _ :: as, k, m, i, h => by
    unfold slotsA at h
    obtain ⟨j, h1, h2, h3⟩ := slots_at (k := k + 1) h
    refine ⟨j, h1, by omega, ?_⟩
    have : j - k = (j - (k + 1)) + 1 := by omega
    rw [this, List.getElem?_cons_succ]; exact h3
  | .p i0 :: as, k, 0, i, h => by
    simp [slotsA] at h
    subst h
    exact ⟨k, by simp [posA], Nat.le_refl _, by simp⟩
  | .p i0 :: as, k, m + 1, i, h => by
    simp [slotsA] at h
    obtain ⟨j, h1, h2, h3⟩ := slots_at (k := k + 1) h
    refine ⟨j, by simpa [posA] using h1, by omega, ?_⟩
    have : j - k = (j - (k + 1)) + 1 := by omega
    rw [this, List.getElem?_cons_succ]; exact h3
theorem slot_mem : ∀ {as : List Am} {i : Nat}, i ∈ slotsA as ↔ ∃ j : Nat, as[j]? = some (Am.p i)
  | [], i => by simp [slotsA]
  | .e _ :: as, i => by
    unfold slotsA
    rw [slot_mem (as := as)]
    constructor
    · rintro ⟨j, h⟩; exact ⟨j + 1, by simpa using h⟩
    · rintro ⟨j, h⟩
      cases j with
      | zero => simp at h
      | succ j => exact ⟨j, by simpa using h⟩
  | .p i0 :: as, i => by
    unfold slotsA
    rw [List.mem_cons, slot_mem (as := as)]
    constructor
    · rintro (rfl | ⟨j, h⟩)
      · exact ⟨0, by simp⟩
      · exact ⟨j + 1, by simpa using h⟩
    · rintro ⟨j, h⟩
      cases j with
      | zero => simp at h; exact .inl h.symm
      | succ j => exact .inr ⟨j, by simpa using h⟩
theorem slot_inj : ∀ {as : List Am} {i j k : Nat}, (slotsA as).Nodup → as[j]? = some (Am.p i) → as[k]? = some (Am.p i) → j = k
  | [], i, j, k, _, h, _ => by simp at h
  | .e _ :: as, i, j, k, nd, h1, h2 => by
    cases j with
    | zero => simp at h1
    | succ j => cases k with
      | zero => simp at h2
      | succ k => exact congrArg (· + 1) (slot_inj (as := as) (i := i) nd (by simpa using h1) (by simpa using h2))
  | .p i0 :: as, i, j, k, nd, h1, h2 => by
    unfold slotsA at nd
    obtain ⟨n1, n2⟩ := List.nodup_cons.mp nd
    cases j with
    | zero => cases k with
      | zero => rfl
      | succ k =>
        simp at h1; subst h1
        exact absurd (slot_mem.mpr ⟨k, by simpa using h2⟩) n1
    | succ j => cases k with
      | zero =>
        simp at h2; subst h2
        exact absurd (slot_mem.mpr ⟨j, by simpa using h1⟩) n1
      | succ k => exact congrArg (· + 1) (slot_inj (as := as) (i := i) n2 (by simpa using h1) (by simpa using h2))
/-- what a call is given -/
theorem args_ok {dds : List D} {dvs : List V} (s : SR K mg S Δ Z Γ σ H) (hf : fillA Γ as xs = some ds) (ha : ArA K mg σ Z H as xs vs) (nd : (slotsA as).Nodup) (ho : ∀ i ∈ slotsA as, own Δ i) (hd : Rps K mg Z H dds dvs) : ArgsOk K mg Z H (posA 0 as) (ds ++ dds) (vs ++ dvs) := by
  obtain ⟨l1, l2, q⟩ := fill_get hf ha
  have inv : ∀ {j : Nat}, j ∈ posA 0 as → ∃ i, as[j]? = some (Am.p i) ∧ j < ds.length := fun {j} h => by
    obtain ⟨_, i, hi⟩ := pos_mem.mp h
    refine ⟨i, by simpa using hi, ?_⟩
    have := (List.getElem?_eq_some_iff.mp hi).1
    rw [l1, ← l2]; simpa using this
  have vat : ∀ {j : Nat}, j < ds.length → (vs ++ dvs)[j]? = vs[j]? := fun {j} h => by rw [List.getElem?_append_left (by omega)]
  have pl : ∀ {j : Nat}, j ∈ posA 0 as → ∃ (i : Nat) (d : D) (a : Addr), as[j]? = some (Am.p i) ∧ ds[j]? = some d ∧ (vs ++ dvs)[j]? = some (V.ref a) ∧ σ[i]? = some (some (V.ref a)) ∧ Γ[i]? = some (some d) ∧ Ow K mg Z H a d ∧ ¬ Z a ∧ own Δ i := fun {j} h => by
    obtain ⟨i, hi, hl⟩ := inv h
    obtain ⟨d, hd⟩ : ∃ d, ds[j]? = some d := ⟨_, List.getElem?_eq_getElem hl⟩
    rcases q j d hd with ⟨m, v, e, _⟩ | ⟨i', v, e, hv, hs, hg⟩
    · rw [hi] at e; cases e
    · rw [hi] at e; cases e
      have o := ho i (slot_mem.mpr ⟨j, hi⟩)
      obtain ⟨a, h1, w, nz, _⟩ := s.ow i d hg o
      rw [hs] at h1; cases h1
      exact ⟨i, d, a, hi, hd, by rw [vat hl, hv], hs, hg, w, nz, o⟩
  refine ⟨by rw [List.length_append, List.length_append, l1, hd.length], fun j d e hj => ?_, fun j d e hj => ?_, fun j k a hjk hj hk e1 e2 => ?_⟩
  · by_cases hl : j < ds.length
    · rw [List.getElem?_append_left hl] at e
      rcases q j d e with ⟨m, v, _, hv, r⟩ | ⟨i, v, hi, _⟩
      · exact ⟨v, by rw [vat hl, hv], r⟩
      · exact absurd (pos_mem.mpr ⟨Nat.zero_le _, i, by simpa using hi⟩) hj
    · rw [List.getElem?_append_right (by omega)] at e
      obtain ⟨v, hv, r⟩ := hd.get e
      exact ⟨v, by rw [List.getElem?_append_right (by omega), ← l1, hv], r⟩
  · obtain ⟨i, d', a, _, hd', hv, _, _, w, nz, _⟩ := pl hj
    obtain ⟨_, _, hl⟩ := inv hj
    rw [List.getElem?_append_left hl, hd'] at e
    cases e
    exact ⟨a, hv, w, nz⟩
  · obtain ⟨i, d, b, hi, _, hv, hs, hg, _, _, o⟩ := pl hj
    obtain ⟨i', d', b', hi', _, hv', hs', hg', _, _, o'⟩ := pl hk
    rw [hv] at e1; cases e1
    rw [hv'] at e2; cases e2
    by_cases hii : i = i'
    · subst hii; exact hjk (slot_inj nd hi hi')
    · exact s.ap i i' d d' a hii hg o hg' o' hs hs'
/-- the state behind a call -/
theorem SR.called {dds : List D} {dvs : List V} {os : List D} (s : SR K mg S Δ Z Γ σ H) (hf : fillA Γ as xs = some ds) (ha : ArA K mg σ Z H as xs vs) (nd : (slotsA as).Nodup) (ho : ∀ i ∈ slotsA as, own Δ i) (hd : Rps K mg Z H dds dvs)
    (af : AfterD K mg Z H (posA 0 as) (vs ++ dvs) os Z' H') : Go K mg S σ Δ Z Γ H Δ Z' (setOuts (slotsA as) os Γ) H' := by
  obtain ⟨l1, l2, q⟩ := fill_get hf ha
  -- a slot that was given
  have sl : ∀ {i : Nat}, i ∈ slotsA as → ∃ (m j : Nat) (a : Addr) (d : D), (slotsA as)[m]? = some i ∧ (posA 0 as)[m]? = some j ∧ (vs ++ dvs)[j]? = some (V.ref a) ∧ σ[i]? = some (some (V.ref a)) ∧ Γ[i]? = some (some d) := fun {i} h => by
    obtain ⟨m, hm⟩ := List.mem_iff_getElem?.mp h
    obtain ⟨j, h1, _, h3⟩ := slots_at (k := 0) hm
    have h3 : as[j]? = some (Am.p i) := by simpa using h3
    have hl : j < ds.length := by rw [l1, ← l2]; exact (List.getElem?_eq_some_iff.mp h3).1
    rcases q j _ (List.getElem?_eq_getElem hl) with ⟨_, _, e, _⟩ | ⟨i', v, e, hv, hs, hg⟩
    · rw [h3] at e; cases e
    · rw [h3] at e; cases e
      obtain ⟨a, h5, _⟩ := s.ow i _ hg (ho i h)
      rw [hs] at h5; cases h5
      exact ⟨m, j, a, _, hm, h1, by rw [List.getElem?_append_left (by omega), hv], hs, hg⟩
  have mv : ∀ a, Mv (posA 0 as) (vs ++ dvs) a → ∃ i d, i ∈ slotsA as ∧ Γ[i]? = some (some d) ∧ σ[i]? = some (some (V.ref a)) := fun a ⟨j, hj, e⟩ => by
    obtain ⟨_, i, hi⟩ := pos_mem.mp hj
    have hi : as[j]? = some (Am.p i) := by simpa using hi
    have hl : j < ds.length := by rw [l1, ← l2]; exact (List.getElem?_eq_some_iff.mp hi).1
    rcases q j _ (List.getElem?_eq_getElem hl) with ⟨_, _, e, _⟩ | ⟨i', v, e', hv, hs, hg⟩
    · rw [hi] at e; cases e
    · rw [hi] at e'; cases e'
      rw [List.getElem?_append_left (by omega), hv] at e
      cases e
      exact ⟨i, _, slot_mem.mpr ⟨j, hi⟩, hg, hs⟩
  have lt : ∀ {i : Nat} {d : D}, Γ[i]? = some (some d) → i < Γ.length := fun h => (List.getElem?_eq_some_iff.mp h).1
  have at_ : ∀ {i : Nat}, i ∈ slotsA as → ∃ (a : Addr) (d d' : D), σ[i]? = some (some (V.ref a)) ∧ Γ[i]? = some (some d) ∧ (setOuts (slotsA as) os Γ)[i]? = some (some d') ∧ Ow K mg Z' H' a d' ∧ ¬ Z' a := fun {i} h => by
    obtain ⟨m, j, a, d, h1, h2, h3, h4, h5⟩ := sl h
    obtain ⟨d', q1, q2, q3⟩ := af.o m j a h2 h3
    exact ⟨a, d, d', h4, h5, setOuts_at _ _ _ nd h1 q1 (lt h5), q2, q3⟩
  refine s.many (is := slotsA as) ho (af.g.wide mv) (setOuts_len _ _ _) (fun j e he => ?_) (fun j e he => ?_) fun j a hj _ hs => ?_
  · by_cases hj : j ∈ slotsA as
    · obtain ⟨a, d, d', q1, q2, q3, q4, _⟩ := at_ hj
      rw [q3] at he; cases he
      exact ⟨d, q2, .inr ⟨hj, fun b hb => by rw [q1] at hb; cases hb; exact q4⟩⟩
    · rw [setOuts_ne _ _ _ hj] at he
      exact ⟨e, he, .inl ⟨hj, rfl⟩⟩
  · by_cases hj : j ∈ slotsA as
    · obtain ⟨a, d, d', q1, q2, q3, q4, _⟩ := at_ hj
      exact ⟨d', q3⟩
    · exact ⟨e, by rw [setOuts_ne _ _ _ hj]; exact he⟩
  · obtain ⟨b, d, d', q1, q2, q3, q4, q5⟩ := at_ hj
    rw [hs] at q1; cases q1
    exact q5
end
/-- a def that may be called by its name -/
structure Cal (P : Program) (w : World) (K : PySem.W.Frag) (mg : Str → Option Value) (base : Heap) (k : Nat) (x : Str) (F : List D → FR) (n : Nat) (Pm : List Nat) (ro : Bool) (dds : List D) : Prop where
  ex : ∃ (f : Addr) (fd : FuncData) (ps : List Str) (ds : List Value) (dvs : List V), FnOk P w K mg base (L2.CX P w) k f fd ps (spD K mg F n Pm ro) ∧ mg x = some (.ref f) ∧ PySem.W.keepIn K (.ref f) = true ∧ Binds K fd ps ds ∧ Vals dvs ds ∧ (∀ Z H, Rps K mg Z H dds dvs)
section
variable {X : Cx} {S : Sx} {C : Xd → Gm → Prop} {Δ Δ1 Δx : Fl} {e : Expr} {es : List Expr} {as : List Am} {x : Str} {p pos : Pos} {k n : Nat} {F : List D → FR} {Pm : List Nat} {ro : Bool} {dds : List D}
theorem de_call {k' : Nat} (c : Cal X.prog X.w X.K X.mg X.base k x F n Pm ro dds) (hr : Room k' X.A) (tk : TkC X S C Δx) (ha : DAr X S C Δ (e :: es) as Δ1) (hpm : ∀ p ∈ S.PM, own Δx p.1) (hk : k ≤ k' := by decide) (hp : Pm = posA 0 as := by rfl) (hn : as.length + dds.length = n := by rfl)
    (nd : (slotsA as).Nodup := by decide) (ho : ((slotsA as).all fun i => Δ1[i]? == some true) = true := by rfl) (hs : sub Δx Δ1 = true := by rfl) (hg : Gl X x := by rfl) (hdb : (x == ("__debug__" : Str)) = false := by decide)
    (he : starEach (e :: es) X.env = (false, eval e X.env) :: starEach es X.env := by rfl) (hpl : (backTo pos (starEach es X.env)).any (·.1) = false := by rfl) : DE X S C Δ (.Call (.Name x p) (e :: es) [] pos) (mCall F dds as) Δ1 (kb ro) := by
  obtain ⟨f, fd, ps, ds, dvs, fo, hm, hkp, hb, hd, hdr⟩ := c.ex
  obtain ⟨W, tw, hw⟩ := tk
  have ho' : ∀ i ∈ slotsA as, own Δ1 i := fun i hi => by
    have := List.all_eq_true.mp ho i hi
    show Δ1[i]? = some true
    simpa using this
  refine (pe_callSD (E := WE W) fo (hr.mono hk) hg hm hkp hb hd (fun σ => passAt tw σ) ha hdb he hpl).weak fun σ H Q ⟨Z, Γ, s, h⟩ => ?_
  refine ⟨Z, Γ, s, h.bind.mono (fun xs Γ1 h1 Z1 H1 vs g1 r1 => ?_) fun _ _ c => c⟩
  cases ef : fillA Γ1 as xs with
  | none => rw [ef] at h1; exact h1.elim
  | some dl =>
    rw [ef] at h1
    obtain ⟨l1, l2, _⟩ := fill_get ef r1
    subst hp
    have hdl := (hdr Z1 H1).length
    refine ⟨by rw [List.length_append, ← l2, ← hdl]; exact hn, Z1, dl ++ dds, g1.s.zd, args_ok g1.s ef r1 nd ho' (hdr Z1 H1), ?_⟩
    dsimp only at h1
    cases eF : F (dl ++ dds) with
    | rt d os =>
      rw [eF] at h1
      intro Z2 H2 v af rt
      have g2 := g1.s.called ef r1 nd ho' (hdr Z1 H1) af
      refine h1 Z2 H2 v (g1.trans g2) ?_
      cases ro with
      | false => exact rt
      | true =>
        obtain ⟨a, e1, w, nz, n0⟩ := rt
        refine ⟨a, e1, w, nz, fun o => ?_, ?_⟩
        · obtain ⟨u, hu⟩ := g1.s.oaThere (g2.o _ o)
          rw [n0] at hu; cases hu
        · cases q : H a with
          | none => rfl
          | some o =>
            obtain ⟨o', e'⟩ := g1.g.th a o q
            rw [n0] at e'; cases e'
    | ex x os =>
      rw [eF] at h1
      intro Z2 H2 cls dd af rx
      have g2 := g1.s.called ef r1 nd ho' (hdr Z1 H1) af
      exact TkC.out hw g2.s hs hpm rx h1
    | no => rw [eF] at h1; exact h1.elim
end
end DL
/-! DL12: own exceptions: their __init__, raise. -/
namespace DL
open PySem PySem.Spec PyProof.Rows L2

/-- an own class over ValueError whose __init__ is ValueError's -/
structure BaseC (K : PySem.W.Frag) (mg : Str → Option Value) (x : Str) : Prop where
  ex : ∃ C, mg x = some (.ref C) ∧ PySem.W.specialIn K (.ref C) "__getattribute__" = some (some (.builtin "type.__getattribute__")) ∧ PySem.W.readsIn K C (.type "type") = true ∧ PySem.W.findCls K (.ref C) (.type "type") "__init__" = some (.val (.builtin "ValueError.__init__"))
section
variable {X : Cx} {e : Expr} {es : List Expr} {ta : TA} {p1 p2 pos : Pos} {x : Str}
theorem pe_binit {pl : Sem Bool} (B : BaseC X.K X.mg x) (ha : PA X (e :: es) ta) (hg : Gl X x := by rfl) (hdb : (x == ("__debug__" : Str)) = false := by decide)
    (hc : eval (.Call (.Attribute (.Name x p1) "__init__" p2) (e :: es) [] pos) X.env = (do
      let ov ← eval (.Name x p1) X.env
      standAt p2.atName
      let (f, first) ← holding [ov] (getMethod ov "__init__" pl)
      callWith pos f first (backTo pos (starEach (e :: es) X.env)) (backToKw pos (keywordEach [] X.env))) := by rfl)
    (he : starEach (e :: es) X.env = (false, eval e X.env) :: starEach es X.env := by rfl) (hpl : (backTo pos (starEach es X.env)).any (·.1) = false := by rfl) :
    PE X (.Call (.Attribute (.Name x p1) "__init__" p2) (e :: es) [] pos) (tVeI X.K ta) := by
  obtain ⟨C0, hm, h1, h2, h3⟩ := B.ex
  refine ⟨fun pins s σ H Q I h => ?_⟩
  refine PySem.W.methodCall_KW (ld_glob I hg hm ?_ hdb) hc
  refine PySem.W.method_cls I.kIn h1 ?_
  refine PySem.W.cls_value I.kIn h2 h3 (by decide +kernel) ?_
  show wpAny _ _ (callWith pos (Value.builtin "ValueError.__init__") [] (backTo pos (starEach (e :: es) X.env)) []) _ _ _
  refine PyProof.Rows.callWith_method1 (thn (ha.run pos pins _ σ H _ (I.tok _) h) fun us s1 ⟨vs, H1, I1, r1, a, C, ws, ev, hl, T, ea, q⟩ => ?_) he hpl
  subst ev
  cases r1 with
  | @cons _ u0 _ ur ra rw' =>
    obtain rfl : u0 = Value.ref a := ra
    have hlen : ur.length ≤ sizeLine := by
      rw [← Paired.length rw', sizeLine_eq]
      omega
    exact oinit_ok T I1 ea hlen fun s' J => ⟨.non, H1, J, rfl, q⟩
end
/-! ### the exception while its __init__ runs -/
def StX (a C : Addr) (H1 : Hp) (fs : List (Str × V)) (H : Hp) : Prop := H1 a = none ∧ ((fs = [] ∧ H = upd H1 a (exo a C none)) ∨
  (fs ≠ [] ∧ ∃ d, H1 d = none ∧ d ≠ a ∧ H a = some (exo a C (some d)) ∧ H d = some (exd d fs) ∧ ∀ b, b ≠ a → b ≠ d → H b = H1 b))
def valsX (ws : List V) (flds : List (Str × Nat)) : List (Str × V) := flds.map fun p => (p.1, match ws[p.2]? with
  | some v => v
  | none => V.non)
def FreeF (K : PySem.W.Frag) (C : Addr) (ns : List Str) : Prop := ∀ f ∈ ns, PySem.W.findIn K (.ref C) f = some none
def rdIni (K : PySem.W.Frag) (N : List Str) (n : Nat) (ns : List Str) (f0 f1 : List (Str × Nat)) : TS := fun D σ H => ∃ a C H1 ws, σ = L2.start N (.ref a :: ws) ∧ ws.length = n ∧ OexC K C ∧ FreeF K C ns ∧ StX a C H1 (valsX ws f0) H ∧ ∀ H', StX a C H1 (valsX ws f1) H' → D.nx σ H'
section
variable {X : Cx} {n : Nat} {ns : List Str} {f0 f1 f2 : List (Str × Nat)} {st : Stmt} {sts : List Stmt}
theorem ini_nil : PSs X [] (rdIni X.K X.N n ns f0 f0) := pss_nil.weak fun Dn σ H ⟨a, C, H1, ws, _, _, _, _, h, q⟩ => q H h
theorem ini_cons (h1 : PS X st (rdIni X.K X.N n ns f0 f1)) (h2 : PSs X sts (rdIni X.K X.N n ns f1 f2)) : PSs X (st :: sts) (rdIni X.K X.N n ns f0 f2) :=
  (pss_cons h1 h2).weak fun Dn σ H ⟨a, C, H1, ws, e, l, o, fr, h, q⟩ => ⟨a, C, H1, ws, e, l, o, fr, h, fun H' h' => ⟨a, C, H1, ws, e, l, o, fr, h', q⟩⟩
theorem ini_call {x : Str} {p1 p2 p3 p4 p5 pos : Pos} {m : Str} {j : Nat} {pl : Sem Bool} (B : BaseC X.K X.mg x) (h0 : X.N[0]? = some ("self" : Str) := by rfl) (hv : Vis X.env.scope "self" := by first | exact Or.inl rfl | exact Or.inr (Or.inl rfl) | exact Or.inr (Or.inr rfl)) (hg : Gl X x := by rfl) (hdb : (x == ("__debug__" : Str)) = false := by decide)
    (hs : swapsWith (.Call (.Attribute (.Name x p1) "__init__" p2) [.Name "self" p3, .Constant (.str m) j p4] [] p5) none pos.line X.env = pure false := by rfl)
    (he1 : starEach [Expr.Name "self" p3, .Constant (.str m) j p4] X.env = (false, eval (Expr.Name "self" p3) X.env) :: starEach [Expr.Constant (.str m) j p4] X.env := by rfl)
    (he2 : starEach [Expr.Constant (.str m) j p4] X.env = (false, eval (Expr.Constant (.str m) j p4) X.env) :: starEach [] X.env := by rfl)
    (hc : eval (.Call (.Attribute (.Name x p1) "__init__" p2) [.Name "self" p3, .Constant (.str m) j p4] [] p5) X.env = (do
      let ov ← eval (.Name x p1) X.env
      standAt p2.atName
      let (f, first) ← holding [ov] (getMethod ov "__init__" pl)
      callWith p5 f first (backTo p5 (starEach [.Name "self" p3, .Constant (.str m) j p4] X.env)) (backToKw p5 (keywordEach [] X.env))) := by rfl)
    (hpl : (backTo p5 (starEach [Expr.Constant (.str m) j p4] X.env)).any (·.1) = false := by rfl) :
    PS X (.Expr (.Call (.Attribute (.Name x p1) "__init__" p2) [.Name "self" p3, .Constant (.str m) j p4] [] p5) pos) (rdIni X.K X.N n ns [] []) :=
  (ps_expr (pe_binit B (pa_cons (pe_var h0 hv) (pa_cons pe_str pa_nil he2) he1) hg hdb hc he1 hpl) hs).weak fun Dn σ H ⟨a, C, H1, ws, e, l, o, fr, h, q⟩ => by
    rcases h with ⟨hn, ⟨_, rfl⟩ | ⟨h, _⟩⟩
    · refine ⟨.ref a, by rw [e]; rfl, a, C, [.str m], rfl, by simp, o, upd_same, q _ ⟨hn, .inl ⟨rfl, rfl⟩⟩⟩
    · exact absurd rfl h
theorem ini_fld (i : Nat) {f p : Str} {p1 p2 p3 pos : Pos} (h0 : X.N[0]? = some ("self" : Str) := by rfl) (hi : X.N[i + 1]? = some p := by rfl) (hv : Vis X.env.scope "self" := by first | exact Or.inl rfl | exact Or.inr (Or.inl rfl) | exact Or.inr (Or.inr rfl))
    (hvp : Vis X.env.scope p := by first | exact Or.inl rfl | exact Or.inr (Or.inl rfl) | exact Or.inr (Or.inr rfl)) (hd : (p == ("__debug__" : Str)) = false := by decide) (hcd : (p == ("__classdict__" : Str)) = false := by decide) (hf : f ∈ ns := by decide) (hl : i < n := by decide) (hf0 : f0.length ≤ 100 := by decide)
    (hs : swapsWith (.Name p p3) (some (.Attribute (.Name "self" p1) f p2)) pos.line X.env = pure false := by rfl) :
    PS X (.Assign [.Attribute (.Name "self" p1) f p2] (.Name p p3) pos) (rdIni X.K X.N n ns f0 ((f, i) :: f0)) :=
  (ps_ost (pe_var h0 hv) (pe_var hi hvp hd hcd) hs).weak fun Dn σ H ⟨a, C, H1, ws, e, l, o, fr, h, q⟩ => by
    have hiw : i < ws.length := by omega
    have hw : ws[i]? = some (ws[i]'hiw) := List.getElem?_eq_getElem hiw
    have hv' : valsX ws ((f, i) :: f0) = (f, ws[i]'hiw) :: valsX ws f0 := by unfold valsX; rw [List.map_cons, hw]
    refine ⟨ws[i]'hiw, ?_, .ref a, by rw [e]; rfl, a, C, rfl, o, fr f hf, ?_⟩
    · rw [e]
      exact start_get (by rw [List.getElem?_cons_succ]; exact hw)
    · rcases h with ⟨hn, ⟨he, rfl⟩ | ⟨hne, d, hd, hda, h1, h2, h3⟩⟩
      · refine .inl ⟨upd_same, fun dx hdx ne => q _ ⟨hn, .inr ⟨by rw [hv']; simp, dx, ?_, ne, upd_same, ?_, fun b h1 h2 => ?_⟩⟩⟩
        · rw [upd_ne ne] at hdx; exact hdx
        · rw [upd_ne ne, upd_same, hv', he]
        · rw [upd_ne h1, upd_ne h2, upd_ne h1]
      · refine .inr ⟨d, valsX ws f0, h1, h2, ?_, q _ ⟨hn, .inr ⟨by rw [hv']; simp, d, hd, hda, ?_, ?_, fun b hb1 hb2 => ?_⟩⟩⟩
        · unfold valsX; rw [List.length_map]; omega
        · rw [upd_ne (Ne.symm hda)]; exact h1
        · rw [upd_same, hv']
        · rw [upd_ne hb2]; exact h3 b hb1 hb2
end
/-! ### the class -/
def spI (K : PySem.W.Frag) (C : Addr) (n : Nat) (flds : List (Str × Nat)) : Sp := fun vs H Q _ => ∃ a ws H1, vs = .ref a :: ws ∧ ws.length = n ∧ H1 a = none ∧ H = upd H1 a (exo a C none) ∧ ∀ H', StX a C H1 (valsX ws flds) H' → Q .non H'
section
variable {P : Program} {w : World} {K : PySem.W.Frag} {mg : Str → Option Value} {base : Heap}
theorem init_ok {x qual : Str} {st : Stmt} {f C : Addr} {fd : FuncData} {N ps : List Str} {k n : Nat} {ns : List Str} {flds : List (Str × Nat)} (T : OexC K C) (fr : FreeF K C ns) (F : Fun K x qual st f fd) (S : FnScope N ps (defScope st)) (hn : ps.length = n + 1)
    (hb : ∀ (cdv : Value) (A : Around) (outer : List Env) (s : Shared) (H : Hp) (E : XK),
      PSs (cxOf (L2.CX P w) P w K mg base N qual (defScope st) f cdv A outer s H E) (defBody st) (rdIni K N n ns [] flds)) : FnOk P w K mg base (L2.CX P w) (k + 1) f fd ps (spI K C n flds) :=
  Fun.okX F S (fun vs H Q E ⟨a, ws, H1, e, l, _⟩ => by rw [e, hn, List.length_cons, l]) fun cdv A outer s H vs Q E hr ⟨a, ws, H1, e, l, hn, hH, q⟩ =>
    ⟨_, hb cdv A outer s H E, a, C, H1, ws, by rw [e], l, T, fr, ⟨hn, .inl ⟨rfl, hH⟩⟩, fun H' h => q H' h⟩
/-- an own exception class of the text -/
structure ExK (P : Program) (w : World) (K : PySem.W.Frag) (mg : Str → Option Value) (base : Heap) (k : Nat) (x : Str) (n : Nat) (flds : List (Str × Nat)) : Prop where
  ex : ∃ (C fI : Addr) (fd : FuncData) (ps : List Str), OexC K C ∧ mg x = some (.ref C) ∧ PySem.W.findIn K (.ref C) "__init__" = some (some (.ref fI)) ∧ PySem.W.typeIn K (.ref fI) = some (.type "function") ∧
    FnOk P w K mg base (L2.CX P w) k fI fd ps (spI K C n flds) ∧ Binds K fd ps []
end
def tMkX (C : Addr) (n : Nat) (flds : List (Str × Nat)) (ta : TA) : L2.St → Hp → XK → Prop := fun σ H Q => ta σ H fun vs H1 => vs.length = n ∧
  (flds = [] → Q (.ref C) none H1) ∧ (flds ≠ [] → ∀ d, H1 d = none → Q (.ref C) (some d) (upd H1 d (.xd (valsX vs flds))))
section
variable {X : Cx}
theorem mk_endN {pins : List (Addr × Obj)} {σ : L2.St} {H1 : Hp} {hp hp2 h2 : Heap} {g1 g2 : Array GenState} {d1 d2 : Drawn} {t1 t2 : Nat} {os1 os2 : OsState} {a C : Addr} (I1 : Inv X pins σ H1 ⟨hp, g1, d1, t1, os1⟩)
    (ha : hp.objs.size ≤ a) (k : ∀ b o, hp.get? b = some o → hp2.get? b = some o) (un : Un (frs X.stack) [] (upd H1 a (exo a C none)) (upd H1 a (exo a C none)) hp2 h2) (hok : HOk X.prog X.w (upd H1 a (exo a C none)) h2) (ho : os2 = os1) (hb : AllBare g2) :
    ∃ (t0 : Addr) (G : Heap), Inv X pins σ H1 ⟨G, g2, d2, t2, os2⟩ ∧ (∀ b o, G.get? b = some o → h2.get? b = some o) ∧ G.get? a = none ∧
      h2.get? a = some ({ cls := .ref C, dict := none, data := .fields #[.ref t0, .none, .none, .none, .bool false, .none] } : Obj) ∧ H1 a = none := by
  have ea : (upd H1 a (exo a C none)) a = some (exo a C none) := upd_same
  obtain ⟨t0, hoe⟩ := exo_at hok ea
  have hn : H1 a = none := I1.hok.fresh ha
  obtain ⟨G, g1', g2'⟩ := restrict h2 fun b => decide (b ≠ a)
  have gk : ∀ b, b ≠ a → G.get? b = h2.get? b := fun b hb => g1' b (decide_eq_true hb)
  have ge : G.get? a = none := g2' a (by simp)
  have nha : ∀ {b : Addr} {o : Obj}, hp.get? b = some o → b ≠ a := fun {b o} z => Nat.ne_of_lt (Nat.lt_of_lt_of_le (Heap.lt_size z) ha)
  have up : ∀ {b : Addr}, b ≠ a → H1 b = none → upd H1 a (exo a C none) b = none := fun {b} hb n => by rw [upd_ne hb]; exact n
  have U : Un (frs X.stack) [] H1 H1 hp G := {
    keep := fun b o z n hf hx => by
      rw [gk b (nha z)]
      exact un.keep b o (k b o z) (up (nha z) n) hf hx
    slot := fun b o z n hf hx => by
      rw [gk b (nha z)]
      exact un.slot b o (k b o z) (up (nha z) n) hf hx
    free := fun b o z n hx => n
    there := fun b o z hx => by
      rw [gk b (nha z)]
      exact un.there b o (k b o z) hx
    tups := fun b xs z => z
    frzs := fun b o v z => z
    tbls := fun b ps z => ⟨#[], by rw [z]; simp⟩ }
  have hok3 : HOk X.prog X.w H1 G := fun b o z => by
    have hba : b ≠ a := ne_of_none z hn
    have z' : (upd H1 a (exo a C none)) b = some o := by rw [upd_ne hba]; exact z
    have noa : ∀ {c : Addr}, (upd H1 a (exo a C none)) c = some (.own b) → c ≠ a := fun {c} hc => at_ne ea hc exo_own
    exact (hok b o z').stay (fun c v hc y => by
        have hca : c ≠ a := by
          rcases hc with hc | hc
          · rw [hc]
            exact hba
          · exact noa hc
        rw [gk c hca]
        exact y)
      (fun c hc => by rw [upd_ne (noa hc)] at hc; exact hc) (fun c xs hc => by rw [upd_ne (at_ne ea hc exo_tup)] at hc; exact hc)
  have J : Inv X pins σ H1 ⟨G, g2, d2, t2, os2⟩ := I1.call' (ch := []) ho U hok3 hb (fun b z => absurd z (by simp))
  refine ⟨t0, G, J, fun b o z => ?_, ge, hoe, hn⟩
  by_cases hba : b = a
  · rw [hba, ge] at z
    cases z
  · exact (gk b hba).symm.trans z
theorem run_mkx {C fI : Addr} {k n : Nat} {fd : FuncData} {ps : List Str} {flds : List (Str × Nat)} (T : OexC X.K C) (iC : PySem.W.findIn X.K (.ref C) "__init__" = some (some (.ref fI))) (tI : PySem.W.typeIn X.K (.ref fI) = some (.type "function"))
    (F1 : FnOk X.prog X.w X.K X.mg X.base (L2.CX X.prog X.w) k fI fd ps (spI X.K C n flds)) (hr : Room (k + 1) X.A) (hb : Binds X.K fd ps []) {pins : List (Addr × Obj)} {σ : L2.St} {H1 : Hp} {s1 : Shared} {us : List Value} {vs : List V} {Q : XK} (I1 : Inv X pins σ H1 s1) (r1 : Vals vs us) (hz : vs.length = n) (hn1000 : n ≤ 1000)
    (q1 : flds = [] → Q (.ref C) none H1) (q2 : flds ≠ [] → ∀ d, H1 d = none → Q (.ref C) (some d) (upd H1 d (.xd (valsX vs flds)))) : wpAny (model X.prog X.w) X.A (call (.ref C) us) (MkP X pins σ Q) X.xe s1 := by
  obtain ⟨nm, q, N, bs, bm, sn, sub, ab, col, dd, k0, k1, k2, k3, k5, hC, hbm⟩ := T.cls
  obtain ⟨hp, g, dr, tk, os⟩ := s1
  have hsz : hp.objs.size ≤ hp.objs.size + 1 := Nat.le_succ _
  have hn : H1 (hp.objs.size + 1) = none := I1.hok.fresh hsz
  have kk : ∀ b o, hp.get? b = some o → ((hp.push (PySem.W.kdv_tup us)).push (PySem.HandSPX.excO C hp.objs.size)).get? b = some o := fun b o e => Heap.get?_push_of_some _ (Heap.get?_push_of_some _ e)
  have hget : ((hp.push (PySem.W.kdv_tup us)).push (PySem.HandSPX.excO C hp.objs.size)).get? (hp.objs.size + 1) = some (PySem.HandSPX.excO C hp.objs.size) := by heap_get
  have I2 : Inv X pins σ (upd H1 (hp.objs.size + 1) (exo (hp.objs.size + 1) C none)) ⟨(hp.push (PySem.W.kdv_tup us)).push (PySem.HandSPX.excO C hp.objs.size), g, dr, tk, os⟩ :=
    I1.laid (t' := tk) (a := hp.objs.size + 1) (o := exo (hp.objs.size + 1) C none) (h' := (hp.push (PySem.W.kdv_tup us)).push (PySem.HandSPX.excO C hp.objs.size)) kk hsz (exo_ok hget)
  have r2 : Vals (V.ref (hp.objs.size + 1) :: vs) (Value.ref (hp.objs.size + 1) :: us) := .cons rfl r1
  have hsp : spI X.K C n flds (V.ref (hp.objs.size + 1) :: vs) (upd H1 (hp.objs.size + 1) (exo (hp.objs.size + 1) C none)) (fun v H' => v = .non ∧ StX (hp.objs.size + 1) C H1 (valsX vs flds) H') (fun _ _ _ => False) :=
    ⟨_, vs, H1, rfl, hz, hn, rfl, fun H' h => ⟨rfl, h⟩⟩
  have hl : (Value.ref (hp.objs.size + 1) :: us).length = ps.length := by
    have e := r2.length
    rw [F1.len _ _ _ _ hsp] at e
    exact e.symm
  have hus : us.length ≤ sizeLine := by
    rw [← Paired.length r1, sizeLine_eq]
    omega
  have hb' := hb _ (Value.ref (hp.objs.size + 1) :: us) I2.kIn (by rw [List.append_nil]; exact hl)
  rw [List.append_nil] at hb'
  refine wpAny_call (PySem.HandSPX.call_own F.excBase_ValueError (fun Y => PySem.HandSPX.refsVE_contains Y bm hbm) (I1.kIn _ _ hC) (PySem.W.looks_findIn I1.kIn iC) (fun self => PySem.W.bind_fn I1.kIn self tI) hus
    (codeAny_mono (F1.run _ X.stack _ _ ⟨Value.ref (hp.objs.size + 1) :: us, []⟩ (Value.ref (hp.objs.size + 1) :: us) _ _ (fun _ _ _ => False) (hr.make C us []) (I2.env0.make C us []) hb' r2 hsp) fun r s' hq' => ?_))
  cases r with
  | error er => exact passL pins σ _ _ er s' I2 hq'
  | ok fl =>
    cases fl with
    | ret u =>
      obtain ⟨v, H2, os2, bare2, un2, hok2, rv, ev, st⟩ := hq'
      subst ev
      obtain ⟨h2, g2, d2, t2, os'⟩ := s'
      refine ⟨rv, ?_⟩
      rcases st with ⟨_, ⟨e1, rfl⟩ | ⟨ne, d, hd, hda, e2, e3, e4⟩⟩
      · obtain ⟨t0, G, J, kG, ge, hoe, na⟩ := mk_endN (d2 := d2) (t2 := t2) I1 hsz kk un2 hok2 os2 bare2
        have hf : flds = [] := by
          unfold valsX at e1
          exact List.map_eq_nil_iff.mp e1
        exact ⟨_, _, _, ⟨G, g2, d2, t2, os'⟩, _, .ref C, none, rfl, J, kG, ge, hoe, ⟨rfl, rfl⟩, rfl, rfl, na, rfl, bare2, raises_own T.exC T.tyC, q1 hf⟩
      · refine mk_end (raises_own T.exC T.tyC) I1 hsz kk un2 hok2 os2 bare2 e2 e3 hd ?_
        have hf : flds ≠ [] := fun z => ne (by rw [z]; rfl)
        have eH : upd (del H2 (hp.objs.size + 1)) d (.xd (valsX vs flds)) = upd H1 d (.xd (valsX vs flds)) := by
          funext b
          by_cases hb : b = d
          · rw [hb, upd_same, upd_same]
          · rw [upd_ne hb, upd_ne hb]
            by_cases hba : b = hp.objs.size + 1
            · rw [hba, del_same, hn]
            · rw [del_ne hba, e4 b hba hb]
        rw [eH]
        exact q2 hf d hd
    | next => exact False.elim hq'
    | brk => exact False.elim hq'
    | cont => exact False.elim hq'
variable {x : Str} {k n : Nat} {flds : List (Str × Nat)} {p pos : Pos} {e : Expr} {es : List Expr} {ta : TA}
theorem pmk_x (T : ExK X.prog X.w X.K X.mg X.base k x n flds) (hr : Room (k + 1) X.A) (hn : n ≤ 1000) (hg : Gl X x) (ha : PA X (e :: es) ta)
    (hdb : (x == ("__debug__" : Str)) = false := by decide) (he : starEach (e :: es) X.env = (false, eval e X.env) :: starEach es X.env := by rfl) (hpl : (backTo pos (starEach es X.env)).any (·.1) = false := by rfl) :
    ∃ C, X.mg x = some (.ref C) ∧ PMk X (.Call (.Name x p) (e :: es) [] pos) (tMkX C n flds ta) := by
  obtain ⟨C, fI, fd, ps, O, hm, iC, tI, F1, hb⟩ := T.ex
  refine ⟨C, hm, fun pins s σ H Q I h => ?_⟩
  refine wpAny_Call_Name_kw (ld_glob I hg hm ?_ hdb)
  exact PySem.W.callWith_K (h₀ := X.base) I.ok.mod.kin O.kC (thn (ha.run pos pins s σ H _ I h) fun us s1 ⟨vs, H1, I1, r1, hz, q1, q2⟩ => ⟨I1.kIn, run_mkx O iC tI F1 hr hb I1 r1 hz hn q1 q2⟩) he hpl
theorem pmk_x0 (T : ExK X.prog X.w X.K X.mg X.base k x 0 flds) (hr : Room (k + 1) X.A) (hg : Gl X x) (hdb : (x == ("__debug__" : Str)) = false := by decide) :
    ∃ C, X.mg x = some (.ref C) ∧ PMk X (.Call (.Name x p) [] [] pos) (tMkX C 0 flds tNil) := by
  obtain ⟨C, fI, fd, ps, O, hm, iC, tI, F1, hb⟩ := T.ex
  refine ⟨C, hm, fun pins s σ H Q I h => ?_⟩
  refine wpAny_Call_Name_kw (ld_glob I hg hm ?_ hdb)
  exact PySem.W.callWith_K0 I.kIn O.kC (run_mkx (us := []) O iC tI F1 hr hb I .nil rfl (by decide) h.2.1 h.2.2)
end
end DL
/-! DL13: raise, try. -/
namespace DL
open PySem PySem.Spec PyProof.Rows L2

def valsD (ds : List D) (flds : List (Str × Nat)) : List (Str × D) := flds.map fun p => (p.1, match ds[p.2]? with
  | some d => d
  | none => .non)
def mRaise (x : Str) (flds : List (Str × Nat)) (ms : List (Gm → R D)) : Gm → SE := fun Γ => (evE ms Γ).toS fun ds Γ1 => .ex ⟨x, valsD ds flds⟩ Γ1
section
variable {K : PySem.W.Frag} {mg : Str → Option Value} {Z : Addr → Prop} {H : Hp}
theorem vals_rp {ds : List D} {vs : List V} (r : Rps K mg Z H ds vs) : ∀ (flds : List (Str × Nat)), Rpf K mg Z H (valsD ds flds) (valsX vs flds)
  | [] => .nil
  | (f, i) :: l => by
    show Rpf K mg Z H ((f, _) :: valsD ds l) ((f, _) :: valsX vs l)
    refine .cons ?_ (vals_rp r l)
    dsimp only
    cases e : ds[i]? with
    | some d =>
      obtain ⟨v, hv, q⟩ := r.get e
      rw [hv]; exact q
    | none =>
      have : vs[i]? = none := by
        rw [List.getElem?_eq_none_iff] at e ⊢
        rw [← r.length]; exact e
      rw [this]; exact .non
end
section
variable {X : Cx} {B : Bx} {Δ Δ1 Δ2 : Fl} {x : Str} {k k' n : Nat} {flds : List (Str × Nat)} {p pos rpos : Pos} {e : Expr} {es : List Expr} {ms : List (Gm → R D)}
theorem raiseF (bd : Body X B k') {C : Addr} (hm : X.mg x = some (.ref C)) (hn : ms.length = n) (hs : sub B.Δx Δ1 = true) (hP : (B.P.all fun i => B.Δx[i]? == some true) = true) {W : WX}
    (hw : ∀ x Γ Z σ H cls dd, SR X.K X.mg B.S B.Δx Z Γ σ H → Xr X.K X.mg Z H x cls dd → B.C x Γ → W cls dd σ H) :
    ∀ Dn σ H, rdS X.K X.mg B Δ (mRaise x flds ms) Δ2 Dn σ H → tMkX C n flds (rdL X.K X.mg B.S B.C Δ (evE ms) Δ1) σ H fun cls d H' => W cls d σ H' := fun Dn σ H ⟨Z, Γ, s, h⟩ => by
  have hc : ∀ x Γ, SPost X.K X.mg B Δ2 Dn Z H (SE.ex x Γ) → B.C x Γ := fun _ _ c => c
  refine ⟨Z, Γ, s, h.bind.mono (fun ds Γ1 ⟨ev, h1⟩ Z1 H1 vs g1 r1 => ?_) fun x Γ c => c⟩
  have hP' := bd.ob.pm.own hP
  refine ⟨by rw [← r1.length, evE_len ev, hn], fun hf => ?_, fun hf d hd => ?_⟩
  · refine TkC.out hw g1.s hs hP' ⟨C, rfl, hm, .inl ⟨?_, rfl⟩⟩ h1
    rw [hf]; rfl
  · have gr : Gr0 Z1 (fun x => Z1 x ∨ x = d) H1 (upd H1 d (.xd (valsX vs flds))) := Gr0.frz hd g1.s.zd
    have s2 := g1.s.gr0 gr
    exact TkC.out hw s2 hs hP' ⟨C, rfl, hm, .inr ⟨d, _, rfl, upd_same, .inr rfl, (vals_rp r1 flds).ag (gr.ag0 g1.s.zd)⟩⟩ h1
theorem ds_raise (bd : Body X B k') (T : ExK X.prog X.w X.K X.mg X.base k x n flds) (ha : DL' X B.S B.C Δ (e :: es) ms Δ1) (hc : X.calm = true := by rfl) (hk : k + 1 ≤ k' := by decide) (hn : ms.length = n := by rfl) (hn2 : n ≤ 1000 := by decide) (hs : sub B.Δx Δ1 = true := by rfl) (hP : (B.P.all fun i => B.Δx[i]? == some true) = true := by rfl)
    (hg : Gl X x := by rfl) (hdb : (x == ("__debug__" : Str)) = false := by decide) (he : starEach (e :: es) X.env = (false, eval e X.env) :: starEach es X.env := by rfl) (hpl : (backTo pos (starEach es X.env)).any (·.1) = false := by rfl) :
    DS X B Δ (.Raise (some (.Call (.Name x p) (e :: es) [] pos)) none rpos) (mRaise x flds ms) Δ2 := by
  obtain ⟨W, tw, hw⟩ := bd.tk
  obtain ⟨C, hm, pm⟩ := pmk_x (pos := pos) (p := p) T (bd.rm.mono hk) hn2 hg ha hdb he hpl
  exact (ps_raise hc tw pm).weak (raiseF bd hm hn hs hP hw)
theorem ds_raise0 (bd : Body X B k') (T : ExK X.prog X.w X.K X.mg X.base k x 0 flds) (hc : X.calm = true := by rfl) (hk : k + 1 ≤ k' := by decide) (hs : sub B.Δx Δ = true := by rfl) (hP : (B.P.all fun i => B.Δx[i]? == some true) = true := by rfl)
    (hg : Gl X x := by rfl) (hdb : (x == ("__debug__" : Str)) = false := by decide) : DS X B Δ (.Raise (some (.Call (.Name x p) [] [] pos)) none rpos) (mRaise x flds []) Δ2 := by
  obtain ⟨W, tw, hw⟩ := bd.tk
  obtain ⟨C, hm, pm⟩ := pmk_x0 (pos := pos) (p := p) T (bd.rm.mono hk) hg hdb
  refine (ps_raise hc tw pm).weak fun Dn σ H h => ?_
  obtain ⟨Z, Γ, s, hq⟩ := raiseF (ms := []) bd hm rfl hs hP hw Dn σ H h
  exact hq Z H [] (.refl s) .nil
end

/-! ### try -/
def noEx : SE → SE
  | .ex _ _ => .no
  | r => r
def mHds (isa : Str → Str → Option Bool) : List (Str × (Gm → SE)) → Xd → Gm → SE
  | [], x, Γ => .ex x Γ
  | (c, m) :: l, x, Γ => match isa x.c c with
    | some true => m Γ
    | some false => mHds isa l x Γ
    | none => .no
def mTry (isa : Str → Str → Option Bool) (m : Gm → SE) (hs : List (Str × (Gm → SE))) : Gm → SE := fun Γ => match m Γ with
  | .ex x Γ1 => mHds isa hs x Γ1
  | r => r
def IsaC (K : PySem.W.Frag) (mg : Str → Option Value) (isa : Str → Str → Option Bool) (x : Str) (c : Value) : Prop := ∀ c' C b, isa c' x = some b → mg c' = some (.ref C) → PySem.W.exmOne K (.ref C) c = some b
def Bx.hd (B : Bx) (Δx : Fl) : Bx := { B with C := fun _ _ => False, Δx := Δx }
inductive HdD (X : Cx) (B : Bx) (isa : Str → Str → Option Bool) (Δx Δ1 : Fl) : List ExceptHandler → List (Str × (Gm → SE)) → Prop
  | nil : HdD X B isa Δx Δ1 [] []
  | cons {x : Str} {c : Value} {m : Gm → SE} {b₀ : Stmt} {suite : List Stmt} {np pos' : Pos} {hds : List ExceptHandler} {l : List (Str × (Gm → SE))} (hc : Names X x c) (hi : IsaC X.K X.mg isa x c)
      (hsu : ∀ (a : Addr) (oe : Obj) (pn : List (Addr × Obj)), DSs (X.suite a ((a, oe) :: pn)) (B.hd Δx) Δx (b₀ :: suite) m Δ1) (r : HdD X B isa Δx Δ1 hds l) :
      HdD X B isa Δx Δ1 (.ExceptHandler (some (.Name x np)) none (b₀ :: suite) pos' :: hds) ((x, fun Γ => noEx (m Γ)) :: l)
/-- the try's own anchor -/
def Sx.at_ (S : Sx) (Z : Addr → Prop) (H : Hp) : Sx := { S with
  An := fun Z' H' => S.An Z' H' ∧ Ag Z Z' H H'
  anc := fun _ _ _ _ h g => ⟨S.anc _ _ _ _ h.1 g, h.2.trans g⟩ }
section
variable {K : PySem.W.Frag} {mg : Str → Option Value} {S : Sx} {Δ : Fl} {Z Z0 : Addr → Prop} {Γ : Gm} {σ : Sg} {H H0 : Hp}
theorem SR.to_at (s : SR K mg S Δ Z Γ σ H) : SR K mg (S.at_ Z H) Δ Z Γ σ H := ⟨s.len, s.dl, s.zd, s.z0, s.keep, s.new, s.im, s.ow, s.ap, s.par, ⟨s.an, .refl⟩, s.fx⟩
theorem SR.of_at (s : SR K mg (S.at_ Z0 H0) Δ Z Γ σ H) : SR K mg S Δ Z Γ σ H ∧ Ag Z0 Z H0 H := ⟨⟨s.len, s.dl, s.zd, s.z0, s.keep, s.new, s.im, s.ow, s.ap, s.par, s.an.1, s.fx⟩, s.an.2⟩
theorem rt_at {Z' : Addr → Prop} {H' : Hp} {b : Bool} {d : D} {v : V} (h : Rt K mg (S.at_ Z0 H0) Z' H' b d v) : Rt K mg S Z' H' b d v := by
  cases b with
  | false => exact h
  | true => exact h
end
section
variable {X : Cx} {B : Bx} {isa : Str → Str → Option Bool} {Δ Δ1 Δx : Fl} {body : List Stmt} {h₀ : ExceptHandler} {hds : List ExceptHandler} {l : List (Str × (Gm → SE))} {pos : Pos} {m : Gm → SE} {k : Nat}
/-- the try's body is asked within -/
def Bx.tr (B : Bx) (S : Sx) (C : Xd → Gm → Prop) (Δx : Fl) : Bx := { B with S := S, C := C, Δx := Δx }
def tsH (X : Cx) (B : Bx) (Δx Δ1 : Fl) (m : Gm → SE) : Addr → Value → Option Addr → TS := fun _ _ _ => rdS X.K X.mg (B.hd Δx) Δx m Δ1
theorem hds_ok (hh : HdD X B isa Δx Δ1 hds l) : ∃ L, HdsOk X hds L ∧ ∀ (Wout : WX) (Dn : Ends) (Z0 : Addr → Prop) (H0 : Hp) (x : Xd) (Γ : Gm) Z σ H cls dd, (∀ Γ cls dd, SR X.K X.mg B.S Δx Z Γ σ H → Xr X.K X.mg Z H x cls dd → B.C x Γ → Wout cls dd σ H) →
    SR X.K X.mg B.S Δx Z Γ σ H → Ag Z0 Z H0 H → Xr X.K X.mg Z H x cls dd → SPost X.K X.mg B Δ1 Dn Z0 H0 (mHds isa l x Γ) → wMany X.K Wout Dn L cls dd σ H := by
  induction hh with
  | nil => exact ⟨[], .nil, fun Wout Dn Z0 H0 x Γ Z σ H cls dd hw s g r h => hw Γ cls dd s r h⟩
  | @cons x c m b₀ suite np pos' hds l hc hi hsu r ih =>
    obtain ⟨L, hL, q⟩ := ih
    refine ⟨(c, tsH X B Δx Δ1 m) :: L, .cons hc (fun a oe cls d pn _ _ => hsu a oe pn) hL, fun Wout Dn Z0 H0 xd Γ Z σ H cls dd hw s g rx h => ?_⟩
    unfold mHds at h
    obtain ⟨C, e1, e2, e3⟩ := id rx
    cases ei : isa xd.c x with
    | none => rw [ei] at h; exact h.elim
    | some b =>
      rw [ei] at h
      refine ⟨b, by rw [e1]; exact hi _ _ _ ei e2, fun hb a _ => ?_, fun hb => ?_⟩
      · subst hb
        refine ⟨Z, Γ, s, ?_⟩
        have h := h.from g
        dsimp only at h
        cases em : m Γ with
        | ex _ _ => rw [em] at h; exact h.elim
        | nx _ => rw [em] at h; exact h
        | rt _ _ => rw [em] at h; exact h
        | bk _ => rw [em] at h; exact h
        | ct _ => rw [em] at h; exact h
        | no => rw [em] at h; exact h
      · subst hb
        exact q Wout Dn Z0 H0 xd Γ Z σ H cls dd hw s g rx h
theorem ds_try (bd : Body X B k) (hs : X.stack = X.env :: X.outer) (hf : X.env.frame = some X.env.locals)
    (hb : ∀ (pn : List (Addr × Obj)) (xe : Value → Shared → Prop) (S : Sx) (C : Xd → Gm → Prop), Body (X.tr pn xe) (B.tr S C Δx) k → DSs (X.tr pn xe) (B.tr S C Δx) Δ body m Δ1)
    (hh : HdD X B isa Δx Δ1 (h₀ :: hds) l) (hx : sub B.Δx Δx = true := by rfl) (hP : (B.P.all fun i => B.Δx[i]? == some true) = true := by rfl) : DS X B Δ (.Try body (h₀ :: hds) [] [] pos) (mTry isa m l) Δ1 := by
  obtain ⟨Wout, tw, hw⟩ := bd.tk
  obtain ⟨L, hL, q⟩ := hds_ok hh
  have hP' := bd.ob.pm.own hP
  refine (ps_try_many (tb := fun W => fun D σ H => ∃ S C, (PMs S B.P ∧ ∀ i v, (i, v) ∈ S.Fx → i ∈ B.F) ∧ (∀ x Γ Z σ H cls dd, SR X.K X.mg S Δx Z Γ σ H → Xr X.K X.mg Z H x cls dd → C x Γ → W cls dd σ H) ∧ rdS X.K X.mg (B.tr S C Δx) Δ m Δ1 D σ H) hs hf tw (fun W pn xe tk po => ?_) hL).weak fun Dn σ H ⟨Z, Γ, s, h⟩ => ?_
  · exact ⟨fun pins s σ H D I ⟨S, C, pm, cw, h⟩ => (hb pn xe S C ⟨⟨pm.1, bd.ob.lt, pm.2⟩, ⟨W, tk, cw⟩, po, bd.rm⟩).run pins s σ H D I h⟩
  · refine ⟨B.S.at_ Z H, fun x Γ1 => SPost X.K X.mg B Δ1 Dn Z H (mHds isa l x Γ1), ⟨bd.ob.pm, bd.ob.fx⟩, fun x Γ1 Z1 σ1 H1 cls dd s1 r1 c => ?_, Z, Γ, s.to_at, ?_⟩
    · obtain ⟨s2, g2⟩ := s1.of_at
      exact q Wout Dn Z H x Γ1 Z1 σ1 H1 cls dd (fun Γ cls dd s r c => TkC.out hw s hx hP' r c) s2 g2 r1 c
    · unfold mTry at h
      cases em : m Γ with
      | ex x Γ1 => rw [em] at h; exact h
      | nx Γ1 => rw [em] at h; exact fun Z' σ' H' s' g => h Z' σ' H' s'.of_at.1 g
      | rt d Γ1 => rw [em] at h; exact fun Z' σ' H' v s' r => h Z' σ' H' v s'.of_at.1 (rt_at r)
      | bk Γ1 => rw [em] at h; exact fun Z' σ' H' s' g => h Z' σ' H' s'.of_at.1 g
      | ct Γ1 => rw [em] at h; exact fun Z' σ' H' s' g => h Z' σ' H' s'.of_at.1 g
      | no => rw [em] at h; exact h
end
end DL
/-! DL14: list comprehensions. -/
namespace DL
open PySem PySem.Spec PyProof.Rows L2

def wipeG (Γ : Gm) : List Nat → Gm
  | [] => Γ
  | v :: vs => (wipeG Γ vs).set v none
def restG (vs : List Nat) (Γ0 Γe : Gm) : Gm := Γe.mapIdx fun i o => if vs.contains i then (match Γ0[i]? with
  | some o => o
  | none => none) else o
theorem wipeG_len (Γ : Gm) : ∀ vs : List Nat, (wipeG Γ vs).length = Γ.length
  | [] => rfl
  | v :: vs => by unfold wipeG; rw [List.length_set, wipeG_len Γ vs]
theorem wipeG_ne {Γ : Gm} : ∀ {vs : List Nat} {i : Nat}, i ∉ vs → (wipeG Γ vs)[i]? = Γ[i]?
  | [], _, _ => rfl
  | v :: vs, i, h => by
    unfold wipeG
    rw [List.getElem?_set_ne (fun z : v = i => h (by rw [z]; exact List.mem_cons_self ..)), wipeG_ne fun z => h (List.mem_cons_of_mem _ z)]
theorem wipeG_some {Γ : Gm} {i : Nat} {d : D} : ∀ {vs : List Nat}, (wipeG Γ vs)[i]? = some (some d) → i ∉ vs ∧ Γ[i]? = some (some d)
  | [], h => ⟨by simp, h⟩
  | v :: vs, h => by
    unfold wipeG at h
    by_cases hi : v = i
    · subst hi
      by_cases hv : v < (wipeG Γ vs).length
      · rw [List.getElem?_set_self hv] at h; cases h
      · rw [List.getElem?_eq_none (by simpa using hv)] at h; cases h
    · rw [List.getElem?_set_ne hi] at h
      obtain ⟨h1, h2⟩ := wipeG_some h
      exact ⟨by simp only [List.mem_cons, not_or]; exact ⟨fun e => hi e.symm, h1⟩, h2⟩
theorem wipe_ne {σ : Sg} : ∀ {vs : List Nat} {i : Nat}, i ∉ vs → (wipe σ vs)[i]? = σ[i]?
  | [], _, _ => rfl
  | v :: vs, i, h => by
    unfold wipe
    rw [List.getElem?_set_ne (fun z : v = i => h (by rw [z]; exact List.mem_cons_self ..)), wipe_ne fun z => h (List.mem_cons_of_mem _ z)]
theorem wipe_in {σ : Sg} : ∀ {vs : List Nat} {i : Nat}, i ∈ vs → i < σ.length → (wipe σ vs)[i]? = some none
  | v :: vs, i, h, hl => by
    unfold wipe
    by_cases e : v = i
    · subst e; rw [List.getElem?_set_self (by rw [wipe_length]; exact hl)]
    · rw [List.getElem?_set_ne e]
      exact wipe_in ((List.mem_cons.mp h).resolve_left fun z => e z.symm) hl
theorem wipe_eq {σ σ' : Sg} {vs : List Nat} (hl : σ'.length = σ.length) (h : ∀ i, i ∉ vs → σ'[i]? = (wipe σ vs)[i]?) : wipe σ' vs = wipe σ vs := by
  apply List.ext_getElem?
  intro i
  by_cases hi : i ∈ vs
  · by_cases hil : i < σ.length
    · rw [wipe_in hi (by rw [hl]; exact hil), wipe_in hi hil]
    · rw [List.getElem?_eq_none (by rw [wipe_length, hl]; omega), List.getElem?_eq_none (by rw [wipe_length]; omega)]
  · rw [wipe_ne hi, h i hi]
theorem restG_get {vs : List Nat} {Γ0 Γe : Gm} {i : Nat} {d : D} (h : (restG vs Γ0 Γe)[i]? = some (some d)) : (i ∈ vs ∧ Γ0[i]? = some (some d)) ∨ (i ∉ vs ∧ Γe[i]? = some (some d)) := by
  unfold restG at h
  rw [List.getElem?_mapIdx, Option.map_eq_some_iff] at h
  obtain ⟨o, h1, h2⟩ := h
  split at h2
  · rename_i c
    refine .inl ⟨by simpa using c, ?_⟩
    split at h2
    · rename_i e; rw [e, h2]
    · cases h2
  · rename_i c
    exact .inr ⟨by simpa using c, by rw [h1, h2]⟩
theorem restG_ne {vs : List Nat} {Γ0 Γe : Gm} {i : Nat} (h : i ∉ vs) : (restG vs Γ0 Γe)[i]? = Γe[i]? := by
  unfold restG
  rw [List.getElem?_mapIdx]
  cases Γe[i]? with
  | none => rfl
  | some o => simp [h]
theorem restG_len {vs : List Nat} {Γ0 Γe : Gm} : (restG vs Γ0 Γe).length = Γe.length := by simp [restG]
section
variable {K : PySem.W.Frag} {mg : Str → Option Value} {S : Sx} {Δ : Fl} {Z : Addr → Prop} {Γ Γ' : Gm} {σ σ' : Sg} {H : Hp}
/-- other slots, the owned ones as they are -/
theorem SR.re (s : SR K mg S Δ Z Γ σ H) (hf : S.Fx = []) (hl : Γ'.length = Γ.length) (hl' : σ'.length = σ.length) (ho : ∀ j, own Δ j → Γ'[j]? = Γ[j]? ∧ σ'[j]? = σ[j]?)
    (hi : ∀ j e, ¬ own Δ j → Γ'[j]? = some (some e) → ∃ v, σ'[j]? = some (some v) ∧ Rp K mg Z H e v) : SR K mg S Δ Z Γ' σ' H := by
  refine ⟨hl.trans (s.len.trans hl'.symm), s.dl.trans hl.symm, s.zd, s.z0, s.keep, s.new, fun j e he o => hi j e o he, fun j e he o => ?_, fun i j d e a hij e1 o1 e2 o2 q => ?_, fun i a m => ?_, s.an, by rw [hf]; exact fun _ _ h => nomatch h⟩
  · rw [(ho j o).1] at he
    rw [(ho j o).2]
    exact s.ow j e he o
  · rw [(ho i o1).1] at e1
    rw [(ho j o2).1] at e2
    rw [(ho i o1).2] at q
    rw [(ho j o2).2]
    exact s.ap i j d e a hij e1 o1 e2 o2 q
  · obtain ⟨q, o, d, e⟩ := s.par i a m
    exact ⟨(ho i o).2.trans q, o, d, (ho i o).1.trans e⟩
theorem SR.wiped {vs : List Nat} (s : SR K mg S Δ Z Γ σ H) (hf : S.Fx = []) (hv : ∀ i ∈ vs, ¬ own Δ i) : SR K mg S Δ Z (wipeG Γ vs) (wipe σ vs) H :=
  s.re hf (wipeG_len ..) (wipe_length ..) (fun j o => ⟨wipeG_ne fun z => hv j z o, wipe_ne fun z => hv j z o⟩) fun j e o h => by
    obtain ⟨h1, h2⟩ := wipeG_some h
    obtain ⟨v, hq, r⟩ := s.im j e h2 o
    exact ⟨v, by rw [wipe_ne h1]; exact hq, r⟩
/-- something that is nobody's is changed -/
theorem SR.frame {p : Addr} {o u : HO} (s : SR K mg S Δ Z Γ σ H) (e : H p = some u) (nz : ¬ Z p) (no : ¬ OA Δ Γ σ p) (n0 : S.H0 p = none) (ho : ∀ xs, o ≠ .tup xs := by intro _ z; cases z) : SR K mg S Δ Z Γ σ (upd H p o) := by
  have ag : Ag Z Z H (upd H p o) := ⟨fun _ z => z, fun x z => upd_ne fun e => nz (by rw [← e]; exact z)⟩
  refine ⟨s.len, s.dl, s.zd.upd ho, s.z0, fun a u e m => ?_, s.new, fun j e he o => ?_, fun j e he oj => ?_, s.ap, s.par, S.anc _ _ _ _ s.an ag, s.fx⟩
  · have : a ≠ p := fun z => by rw [z, n0] at e; cases e
    rw [upd_ne this]; exact s.keep a u e m
  · obtain ⟨v, hv, r⟩ := s.im j e he o
    exact ⟨v, hv, r.ag ag⟩
  · obtain ⟨a, ha, w, nza, m⟩ := s.ow j e he oj
    have : a ≠ p := fun z => no ⟨j, e, oj, he, by rw [ha, z]⟩
    exact ⟨a, ha, w.ag ag (upd_ne this), nza, m⟩
end

/-! ### the meaning -/
def mYes : Gm → R Bool := fun Γ => .ok true Γ
def lcD (vs : List Nat) (g : D → Gm → Option Gm) (mt : Gm → R Bool) (me : Gm → R D) : List D → List D → Gm → Option (List D × Gm)
  | [], acc, Γ => some (acc, Γ)
  | x :: xs, acc, Γ => match g x Γ with
    | none => none
    | some Γ1 => match mt Γ1 with
      | .ok true Γ2 => match me Γ2 with
        | .ok y Γ3 => if acc.length < 16777216 then lcD vs g mt me xs (acc ++ [y]) (wipeG Γ3 vs) else none
        | _ => none
      | .ok false Γ2 => lcD vs g mt me xs acc (wipeG Γ2 vs)
      | _ => none
def mLc (vs : List Nat) (mi : Gm → R (List D)) (g : D → Gm → Option Gm) (mt : Gm → R Bool) (me : Gm → R D) : Gm → R D := fun Γ => (mi Γ).bind fun items Γ1 => match lcD vs g mt me items [] (wipeG Γ1 vs) with
  | some (ds, Γe) => .ok (.lst ds) (restG vs Γ1 Γe)
  | none => .no
abbrev DTs (X : Cx) (S : Sx) (C : Xd → Gm → Prop) (Δ : Fl) (es : List Expr) (m : Gm → R Bool) (Δ' : Fl) : Prop := PTs X es (rdT X.K X.mg S C Δ m Δ')
def C0 : Xd → Gm → Prop := fun _ _ => False
section
variable {X : Cx} {S : Sx} {C : Xd → Gm → Prop} {Δ Δ1 Δ2 : Fl}
theorem PTs_weak {es : List Expr} {t u : TT} (h : PTs X es t) (hw : ∀ σ H Q, u σ H Q → t σ H Q) : PTs X es u := ⟨fun pins s σ H Q I q => h.run pins s σ H Q I (hw σ H Q q)⟩
theorem dts_nil : DTs X S C Δ [] mYes Δ := PTs_weak pts_nil fun σ H Q ⟨Z, Γ, s, h⟩ => h Z H (.refl s)
theorem dts_one {c : Expr} {t : Gm → R Bool} (h : DT X S C Δ c t Δ1) : DTs X S C Δ [c] t Δ1 := pts_one h
/-- a comprehension's parts in its block -/
theorem Body.blk {B : Bx} {k : Nat} (b : Body X B k) (Δx : Fl) {s : Shared} {H : Hp} {scope : Scope} {cenv : Env} {fp : List Addr} : Body (X.blk s H scope cenv fp) (B.hd Δx) k :=
  ⟨⟨b.ob.pm, b.ob.lt, b.ob.fx⟩, ⟨fun _ _ _ _ => False, takes_none5, fun _ _ _ _ _ _ _ _ _ c => c.elim⟩, PassesOwn.never, b.rm⟩
/-- relative to the loop's start -/
structure Rel (K : PySem.W.Frag) (O : Addr → Prop) (Z1 : Addr → Prop) (H1 : Hp) (Δ : Fl) (Z : Addr → Prop) (Γ : Gm) (σ : Sg) (H : Hp) : Prop where
  g : Gr O Z1 Z H1 H
  o : ∀ x, OA Δ Γ σ x → O x
theorem lcF {vs ts : List Nat} {K : PySem.W.Frag} {mg : Str → Option Value} {mi : Gm → R (List D)} {g : D → Gm → Option Gm} {mt : Gm → R Bool} {me : Gm → R D}
    (hf : S.Fx = []) (hv : (vs.all fun i => !(Δ1[i]? == some true)) = true) (hts : (ts.all fun i => vs.contains i) = true) : ∀ σ H Q, rdE K mg S C Δ (mLc vs mi g mt me) Δ1 .ow σ H Q → tLc (rdI K mg S C Δ mi Δ1) (rdG K mg S Δ1 g Δ1 ts) (rdT K mg S C0 Δ1 mt Δ1) (rdE K mg S C0 Δ1 me Δ1 .im) vs σ H Q := fun σ H Q ⟨Z, Γ, s, h⟩ => by
  have hv' : ∀ i ∈ vs, ¬ own Δ1 i := fun i hi o => by
    have := List.all_eq_true.mp hv i hi
    unfold own at o
    rw [o] at this
    simp at this
  have hts' : ∀ i, i ∉ vs → i ∉ ts := fun i hi m => hi (by simpa using List.all_eq_true.mp hts i m)
  refine ⟨Z, Γ, s, h.bind.mono (fun items Γ1 h1 Z1 H1 J g1 it Dd hD => ?_) fun _ _ c => c⟩
  have s1 := g1.s
  have n0 : S.H0 Dd = none := s1.fresh hD
  have nO : ¬ OA Δ1 Γ1 σ Dd := s1.freshO hD
  have zO : ∀ x, Z1 x → ¬ OA Δ1 Γ1 σ x := s1.zO
  have nZ1 : ¬ Z1 Dd := s1.freshZ hD
  cases el : lcD vs g mt me items [] (wipeG Γ1 vs) with
  | none => rw [el] at h1; exact h1.elim
  | some r =>
  obtain ⟨dsF, ΓF⟩ := r
  rw [el] at h1
  dsimp only at h1
  refine ⟨fun i m H' => m = items.length - i ∧ ∃ Z' Γ' ds acc, SR K mg S Δ1 Z' Γ' (wipe σ vs) H' ∧ Rel K (OA Δ1 Γ1 σ) Z1 H1 Δ1 Z' Γ' (wipe σ vs) H' ∧ H' Dd = some (.lst acc) ∧ ¬ Z' Dd ∧ Rps K mg Z' H' ds acc ∧ lcD vs g mt me (items.drop i) ds Γ' = some (dsF, ΓF), ?_, ?_⟩
  · have gl : Gr0 Z1 Z1 H1 (upd H1 Dd (.lst [])) := Gr0.lay hD s1.zd
    refine ⟨_, rfl, Z1, wipeG Γ1 vs, [], [], (s1.gr0 gl).wiped hf hv', ⟨gl.wide fun _ z => z.elim, fun x ⟨i, d, o, e, q⟩ => ?_⟩, upd_same, nZ1, .nil, by rw [List.drop_zero]; exact el⟩
    have hi : i ∉ vs := fun z => hv' i z o
    rw [wipeG_ne hi] at e
    rw [wipe_ne hi] at q
    exact ⟨i, d, o, e, q⟩
  · rintro i m H' ⟨rfl, Z', Γ', ds, acc, s', rl, hacc, nzD, racc, hl⟩
    have ag : Ag Z1 Z' H1 H' := rl.g.ag zO s1.zd
    obtain ⟨o1, o2⟩ := it i Z' H' ag s'.zd
    by_cases hlt : i < items.length
    · obtain ⟨go, yl⟩ := o1 hlt
      refine .inr ⟨go, fun H2 => ∃ Z' Γ' ds acc, SR K mg S Δ1 Z' Γ' (wipe σ vs) H2 ∧ Rel K (OA Δ1 Γ1 σ) Z1 H1 Δ1 Z' Γ' (wipe σ vs) H2 ∧ H2 Dd = some (.lst acc) ∧ ¬ Z' Dd ∧ Rps K mg Z' H2 ds acc ∧ lcD vs g mt me (items.drop (i + 1)) ds Γ' = some (dsF, ΓF),
        fun H2 hn => ⟨items.length - (i + 1), by omega, rfl, hn⟩, fun x H2 y => ?_⟩
      obtain ⟨Z2, d, hd, g0, r⟩ := yl x H2 y
      have hde : items.drop i = d :: items.drop (i + 1) := by
        rw [List.getElem?_eq_getElem hlt] at hd
        cases hd
        exact List.drop_eq_getElem_cons hlt
      rw [hde] at hl
      unfold lcD at hl
      cases eg : g d Γ' with
      | none => rw [eg] at hl; cases hl
      | some Γ2 =>
      rw [eg] at hl
      dsimp only at hl
      have s2 := s'.gr0 g0
      refine ⟨Z2, Γ', d, Γ2, s2, r, eg, fun σ2 s3 agr hlen => ?_⟩
      have agr' : ∀ i, i ∉ vs → σ2[i]? = (wipe σ vs)[i]? ∧ Γ2[i]? = Γ'[i]? := fun i hi => agr i (hts' i hi)
      have ew : wipe σ2 vs = wipe σ vs := wipe_eq (by rw [hlen, wipe_length]) fun i hi => (agr' i hi).1
      refine ⟨ew, Z2, Γ2, s3, ?_⟩
      -- what the slots own is what they owned
      have oa2 : ∀ {Γ3 : Gm} {x : Addr}, (∀ x, OA Δ1 Γ3 σ2 x → OA Δ1 Γ2 σ2 x) → OA Δ1 Γ3 σ2 x → OA Δ1 Γ1 σ x := fun {Γ3 x} hh q => by
        obtain ⟨i, d, o, e, q⟩ := hh x q
        have hi : i ∉ vs := fun z => hv' i z o
        rw [(agr' i hi).2] at e
        rw [(agr' i hi).1] at q
        exact rl.o x ⟨i, d, o, e, q⟩
      have hD2 : H2 Dd = some (.lst acc) := g0.kp Dd _ hacc id
      have nz2 : ¬ Z2 Dd := fun z => by
        rcases g0.nw Dd z with q | q | q
        · exact nzD q
        · exact q
        · rw [hacc] at q; cases q
      have gr2 : Gr (OA Δ1 Γ1 σ) Z1 Z2 H1 H2 := rl.g.trans' (g0.wide fun _ z => z.elim)
      have rac2 : Rps K mg Z2 H2 ds acc := racc.ag (g0.ag0 s'.zd)
      -- after a further step
      have stp : ∀ {Z3 H3 Γ3}, Go K mg S σ2 Δ1 Z2 Γ2 H2 Δ1 Z3 Γ3 H3 → Gr (OA Δ1 Γ1 σ) Z1 Z3 H1 H3 ∧ H3 Dd = some (.lst acc) ∧ ¬ Z3 Dd ∧ Rps K mg Z3 H3 ds acc ∧ (∀ x, OA Δ1 Γ3 σ2 x → OA Δ1 Γ1 σ x) := fun {Z3 H3 Γ3} gg => by
        have nD : ¬ OA Δ1 Γ2 σ2 Dd := fun z => nO (oa2 (fun _ h => h) z)
        refine ⟨gr2.trans' (gg.g.wide fun x z => oa2 (fun _ h => h) z), gg.g.kp Dd _ hD2 nD, fun z => ?_, rac2.ag (gg.ag s3), fun x z => oa2 gg.o z⟩
        rcases gg.g.nw Dd z with q | q | q
        · exact nz2 q
        · exact nD q
        · rw [hD2] at q; cases q
      -- the end of a turn
      have fin : ∀ {Z3 H3 Γ3}, SR K mg S Δ1 Z3 Γ3 σ2 H3 → (∀ x, OA Δ1 Γ3 σ2 x → OA Δ1 Γ1 σ x) → SR K mg S Δ1 Z3 (wipeG Γ3 vs) (wipe σ vs) H3 ∧ ∀ x, OA Δ1 (wipeG Γ3 vs) (wipe σ vs) x → OA Δ1 Γ1 σ x := fun {Z3 H3 Γ3} s3 ho => by
        refine ⟨by rw [← ew]; exact s3.wiped hf hv', fun x ⟨i, d, o, e, q⟩ => ho x ?_⟩
        have hi : i ∉ vs := fun z => hv' i z o
        rw [wipeG_ne hi] at e
        rw [← ew, wipe_ne hi] at q
        exact ⟨i, d, o, e, q⟩
      cases em : mt Γ2 with
      | no => rw [em] at hl; cases hl
      | ex _ _ => rw [em] at hl; cases hl
      | ok b Γ3 =>
      rw [em] at hl
      refine fun Z3 H3 g3 => ?_
      obtain ⟨q1, q2, q3, q4, q5⟩ := stp g3
      cases b with
      | false =>
        rw [if_neg Bool.false_ne_true]
        obtain ⟨f1, f2⟩ := fin g3.s q5
        exact ⟨Z3, _, ds, acc, f1, ⟨q1, f2⟩, q2, q3, q4, hl⟩
      | true =>
        rw [if_pos rfl]
        refine ⟨Z3, Γ3, g3.s, ?_⟩
        dsimp only at hl
        cases ee : me Γ3 with
        | no => rw [ee] at hl; cases hl
        | ex _ _ => rw [ee] at hl; cases hl
        | ok yd Γ4 =>
        rw [ee] at hl
        dsimp only at hl
        split at hl
        · rename_i hlen'
          refine fun Z4 H4 v g4 rv => ?_
          obtain ⟨p1, p2, p3, p4, p5⟩ := stp (g3.trans g4)
          have rv : Rp K mg Z4 H4 yd v := rv
          refine ⟨acc, p2, by rw [← racc.length, sizeLine_eq]; exact hlen', ?_⟩
          have noD : ¬ OA Δ1 Γ4 σ2 Dd := fun z => nO (p5 _ z)
          have sf := g4.s.frame (o := .lst (acc ++ [v])) p2 p3 noD n0
          obtain ⟨f1, f2⟩ := fin sf p5
          have ag4 : Ag Z4 Z4 H4 (upd H4 Dd (.lst (acc ++ [v]))) := agU p3
          refine ⟨Z4, _, ds ++ [yd], acc ++ [v], f1, ⟨⟨p1.zs, fun a o e no => ?_, p1.nw, fun a o e => ?_, sf.zd⟩, f2⟩, upd_same, p3, (p4.append (.cons rv .nil)).ag ag4, hl⟩
          · have : a ≠ Dd := fun z => by rw [z, hD] at e; cases e
            rw [upd_ne this]; exact p1.kp a o e no
          · have : a ≠ Dd := fun z => by rw [z, hD] at e; cases e
            rw [upd_ne this]; exact p1.th a o e
        · cases hl
    · refine .inl ⟨o2 (by omega), ?_⟩
      rw [List.drop_of_length_le (by omega)] at hl
      unfold lcD at hl
      cases hl
      have sF : SR K mg S Δ1 Z' (restG vs Γ1 ΓF) σ H' := by
        refine s'.re hf (by rw [restG_len]) (by rw [wipe_length]) (fun j o => ⟨restG_ne fun z => hv' j z o, by rw [wipe_ne fun z => hv' j z o]⟩) fun j e o hj => ?_
        rcases restG_get hj with ⟨_, q⟩ | ⟨hn, q⟩
        · obtain ⟨v, hq, r⟩ := s1.im j e q o
          exact ⟨v, hq, r.ag ag⟩
        · obtain ⟨v, hq, r⟩ := s'.im j e q o
          rw [wipe_ne hn] at hq
          exact ⟨v, hq, r⟩
      have oF : ∀ x, OA Δ1 (restG vs Γ1 ΓF) σ x → OA Δ1 Γ1 σ x := fun x ⟨i, d, o, e, q⟩ => by
        have hi : i ∉ vs := fun z => hv' i z o
        rw [restG_ne hi] at e
        exact rl.o x ⟨i, d, o, e, by rw [wipe_ne hi]; exact q⟩
      have gF : Go K mg S σ Δ1 Z1 Γ1 H1 Δ1 Z' (restG vs Γ1 ΓF) H' := ⟨sF, rl.g, oF⟩
      refine h1 Z' H' (.ref Dd) (g1.trans gF) ⟨Dd, rfl, .lst hacc racc, nzD, fun z => nO (oF _ z), ?_⟩
      cases q : H Dd with
      | none => rfl
      | some o =>
        obtain ⟨o', e'⟩ := g1.g.th Dd o q
        rw [hD] at e'; cases e'
end
section
variable {X : Cx} {B : Bx} {Δ Δ1 : Fl} {k : Nat} {elt tg iter : Expr} {ifs : List Expr} {scope : Scope} {pos spos : Pos} {vs ts : List Nat} {mi : Gm → R (List D)} {g : D → Gm → Option Gm} {mt : Gm → R Bool} {me : Gm → R D}
theorem de_lc (ob : Okb B) (own : List (Str × Nat)) (hi : DI X B.S B.C Δ tg iter mi Δ1) (hN : X.N.Nodup) (ok : BlkOk X.N X.env.scope scope own)
    (hg : ∀ (s : Shared) (H : Hp) (C : Addr) (cl : List (Str × Addr)) (fp : List Addr), DG (X.blk s H scope (compEnvC scope cl C X.env) fp) B.S Δ1 tg g Δ1 ts)
    (ht : ∀ (s : Shared) (H : Hp) (C : Addr) (cl : List (Str × Addr)) (fp : List Addr), DTs (X.blk s H scope (compEnvC scope cl C X.env) fp) B.S C0 Δ1 ifs mt Δ1)
    (he : ∀ (s : Shared) (H : Hp) (C : Addr) (cl : List (Str × Addr)) (fp : List Addr), DE (X.blk s H scope (compEnvC scope cl C X.env) fp) B.S C0 Δ1 elt me Δ1 .im)
    (hv : ((own.map (·.2)).all fun i => !(Δ1[i]? == some true)) = true := by rfl) (hts : (ts.all fun i => (own.map (·.2)).contains i) = true := by rfl) (hc : X.calm = true := by rfl) (hs : ∀ x, foldedSetIterable iter X.env x = pure x := by intro _; rfl) (hF : B.F = [] := by rfl) :
    DE X B.S B.C Δ (.ListComp elt [⟨tg, iter, ifs, 0⟩] scope pos) (mLc (own.map (·.2)) mi g mt me) Δ1 .ow :=
  (pe_lc hc hN hi ok hg ht he hs).weak (lcF (ob.f0 hF) hv hts)
/-- name = [..] on one line -/
theorem ds_setLc (ob : Okb B) (i : Nat) {y : Str} {py : Pos} (bo : Bool) (own : List (Str × Nat)) (hi : DI X B.S B.C Δ tg iter mi Δ1) (hN : X.N.Nodup) (ok : BlkOk X.N X.env.scope scope own)
    (hg : ∀ (s : Shared) (H : Hp) (C : Addr) (cl : List (Str × Addr)) (fp : List Addr), DG (X.blk s H scope (compEnvC scope cl C X.env) fp) B.S Δ1 tg g Δ1 ts)
    (ht : ∀ (s : Shared) (H : Hp) (C : Addr) (cl : List (Str × Addr)) (fp : List Addr), DTs (X.blk s H scope (compEnvC scope cl C X.env) fp) B.S C0 Δ1 ifs mt Δ1)
    (he : ∀ (s : Shared) (H : Hp) (C : Addr) (cl : List (Str × Addr)) (fp : List Addr), DE (X.blk s H scope (compEnvC scope cl C X.env) fp) B.S C0 Δ1 elt me Δ1 .im)
    (hsw : swapsWith (.ListComp elt [⟨tg, iter, ifs, 0⟩] scope pos) (some (.Name y py)) spos.line X.env = pure true := by rfl) (hp : B.nf i = false := by rfl) (hy : X.N[i]? = some y := by rfl) (hyl : X.env.scope.names.lookup y = some .local := by rfl)
    (hv : ((own.map (·.2)).all fun i => !(Δ1[i]? == some true)) = true := by rfl) (hts : (ts.all fun i => (own.map (·.2)).contains i) = true := by rfl) (hc : X.calm = true := by rfl) (hs : ∀ x, foldedSetIterable iter X.env x = pure x := by intro _; rfl) (hF : B.F = [] := by rfl) :
    DS X B Δ (.Assign [.Name y py] (.ListComp elt [⟨tg, iter, ifs, 0⟩] scope pos) spos) (mSet i (mLc (own.map (·.2)) mi g mt me)) (Δ1.set i bo) :=
  (ps_setLc hc hN hy hyl hsw hi ok hg ht he hs).weak fun Dn σ H ⟨Z, Γ, s, h⟩ => by
    refine lcF (C := B.C) (mi := mi) (g := g) (mt := mt) (me := me) (ob.f0 hF) hv hts σ H _ ?_
    have key : rdE X.K X.mg B.S B.C Δ (mLc (own.map (·.2)) mi g mt me) Δ1 (kb bo) σ H (fun x H1 => gName i x σ H1 Dn.nx) := ⟨Z, Γ, s, h.bind.mono (fun d Γ1 ⟨_, h1⟩ Z1 H1 v g1 r1 => by
      refine h1 Z1 _ H1 ?_ (g1.ag s)
      cases bo with
      | false => exact g1.s.setIm r1 (ob.no hp)
      | true =>
        obtain ⟨a, rfl, w, nz, no, n0⟩ := r1
        exact g1.s.setOw w nz no (s.fresh n0) (ob.no hp)) fun _ _ c => c⟩
    cases bo with
    | true => exact key
    | false => exact imF σ H _ key
end
end DL
/-! DL15: lists added, reversed; isinstance; several stores at once; defs with defaults. -/
namespace DL
open PySem PySem.Spec PyProof.Rows L2

/-! ### list + list -/
theorem op_catSq {X : Cx} : OpR X (binaryOp .Add) (fun x y H Q => ∃ l b xs zs, x = .ref l ∧ y = .ref b ∧ SqL X.K H l xs ∧ SqL X.K H b zs ∧ xs.length + zs.length ≤ sizeLine ∧ ∀ p, H p = none → Q (.ref p) (upd H p (.lst (xs ++ zs)))) := by
  intro pins s σ H x y v u Q I rx ry h
  obtain ⟨l, b, xs, zs, rfl, rfl, hH, hB, hz, q⟩ := h
  cases rx
  cases ry
  obtain ⟨its, r, ⟨o1, n, ho, hc, hdn, hd⟩, hl⟩ := I.list hH
  obtain ⟨its2, r2, ⟨o2, n2, ho2, hc2, hdn2, hd2⟩, hl2⟩ := I.list hB
  obtain ⟨cls, dd, data, sl⟩ := o1
  obtain ⟨cls2, dd2, data2, sl2⟩ := o2
  simp only at hc hd hc2 hd2
  subst hc hd hc2 hd2
  have e : its.toArray ++ its2.toArray = (its ++ its2).toArray := by simp
  have e1 := r.length
  have e2 := r2.length
  refine concat_meets ⟨_, ho, rfl⟩ ⟨_, ho2, rfl⟩ noFill_list_add seq_list_add PySem.F.slot_list_add PySem.F.entry_list_add (PySem.F.args_list_add_2 _ _) (list_addW l b its.toArray its2.toArray n n2 dd dd2 sl sl2 (by simp; omega)) ⟨ho, ho2, ?_⟩
  rw [e]
  exact ⟨.ref _, _, I.lnew (t' := s.toks) (r.append r2) (by rw [List.length_append]; omega), rfl, q _ I.fresh⟩
/-- a new list, frozen at once -/
theorem resLi {K : PySem.W.Frag} {mg : Str → Option Value} {Z : Addr → Prop} {H : Hp} {us : List D} {vs : List V} {Q : VK} (zd : Zd Z H) (q : ∀ Z' H' v, Gr0 Z Z' H H' → ResB K mg H Z' H' false (.lst us) v → Q v H') (r : Rps K mg Z H us vs)
    {p : Addr} (n : H p = none) : Q (.ref p) (upd H p (.lst vs)) := by
  have g : Gr0 Z (fun x => Z x ∨ x = p) H (upd H p (.lst vs)) := Gr0.frz n zd
  exact q _ _ _ g (.lst (.inl ⟨.inl upd_same, .inr rfl⟩) (r.ag (g.ag0 zd)))
/-- + of everything; a list is frozen -/
def addA (d e : D) : Option D := match d, e with
  | .lst xs, .lst ys => if xs.length + ys.length ≤ 16777216 then some (.lst (xs ++ ys)) else none
  | d, e => addD d e
section
variable {X : Cx}
theorem od_addL : OpR X (binaryOp .Add) (rD2 X.K X.mg addL true) := opi op_catSq fun x y H Q ⟨Z, d, e, u, zd, p1, p2, h, q⟩ => by
  have hz : sizeLine = 16777216 := sizeLine_eq
  unfold addL at h; split at h
  · split at h
    · cases h
      obtain ⟨a, vs, rfl, f, r⟩ := p1.lst
      obtain ⟨b, ws, rfl, f2, r2⟩ := p2.lst
      exact ⟨a, b, vs, ws, rfl, rfl, f, f2, by rw [← r.length, ← r2.length]; omega, fun p n => resL zd q (r.append r2) n⟩
    · cases h
  · cases h
theorem OpR.cases {f : Value → Value → Sem Value} {r r1 r2 : R2} (h1 : OpR X f r1) (h2 : OpR X f r2) (w : ∀ x y H Q, r x y H Q → r1 x y H Q ∨ r2 x y H Q) : OpR X f r := fun pins s σ H x y v u Q I rx ry q =>
  (w x y H Q q).elim (fun q => h1 pins s σ H x y v u Q I rx ry q) fun q => h2 pins s σ H x y v u Q I rx ry q
theorem od_addA : OpR X (binaryOp .Add) (rD2 X.K X.mg addA false) := OpR.cases op_catSq od_add fun x y H Q ⟨Z, d, e, u, zd, p1, p2, h, q⟩ => by
  have hz : sizeLine = 16777216 := sizeLine_eq
  unfold addA at h; split at h
  · split at h
    · cases h
      obtain ⟨a, vs, rfl, f, r⟩ := p1.lst
      obtain ⟨b, ws, rfl, f2, r2⟩ := p2.lst
      exact .inl ⟨a, b, vs, ws, rfl, rfl, f, f2, by rw [← r.length, ← r2.length]; omega, fun p n => resLi zd q (r.append r2) n⟩
    · cases h
  · exact .inr ⟨Z, _, _, u, zd, p1, p2, h, q⟩
end
section
variable {X : Cx} {S : Sx} {C : Xd → Gm → Prop} {Δ Δ1 Δ2 : Fl} {a b e : Expr} {m m1 m2 : Gm → R D} {k k1 k2 : Kd} {pos : Pos}
/-- list * int, the list new -/
theorem de_mulL (ha : DE X S C Δ a m1 Δ1 .ow) (hb : DE X S C Δ1 b m2 Δ2 k2) : DE X S C Δ (.BinOp a .Mult b pos) (mBin mulL m1 m2) Δ2 .ow :=
  (pe_op op_rep ha hb).weak fun σ H Q ⟨Z, Γ, s, h⟩ => seq2 s h (fun _ e => nomatch e) fun d e Γ2 Z2 H2 x y g p1 p2 h2 => by
    obtain ⟨u, hu, q⟩ := h2.of
    have hz : sizeLine = 16777216 := sizeLine_eq
    unfold mulL at hu; split at hu
    · split at hu
      · rename_i c
        cases hu
        obtain ⟨p, rfl, w, nz, no, n0⟩ := p1
        have py := (p2.pk g.s).int
        subst py
        cases w with
        | lst hp r =>
          refine ⟨p, _, _, rfl, rfl, hp, c.1, c.2.1, by rw [← r.length, hz]; exact c.2.2, fun p2 n => ?_⟩
          exact resL g.s.zd (fun Z' H' v g0 rr => q Z' H' v (g.trans (.gr0 g.s g0)) (ResB.kr (b := true) g.s g0 g.g.th rr)) (r.rep _) n
      · cases hu
    · cases hu
/-- xs[::-1] -/
def revD : D → Option D
  | .lst xs => some (.lst xs.reverse)
  | _ => none
theorem de_rev {i : Nat} {p1 p2 p3 : Pos} (ha : DE X S C Δ a m Δ1 k) : DE X S C Δ (.Subscript a (.Slice none none (some (.UnaryOp .USub (.Constant (.int 1) i p1) p2)) p3) pos) (mUn revD m) Δ1 .ow :=
  (pe_revL ha).weak fun σ H Q ⟨Z, Γ, s, h⟩ => ⟨Z, Γ, s, h.bind.mono (fun d Γ1 h1 Z1 H1 v g1 r1 => by
    obtain ⟨u, hu, q⟩ := h1.of
    unfold revD at hu; split at hu
    · cases hu
      obtain ⟨p, vs, rfl, f, r⟩ := (r1.pk g1.s).lst
      exact ⟨p, vs, rfl, f, fun p2 n => resL g1.s.zd (fun Z' H' v g0 rr => q Z' H' v (g1.trans (.gr0 g1.s g0)) (ResB.kr (b := true) g1.s g0 g1.g.th rr)) r.reverse n⟩
    · cases hu) fun _ _ c => c⟩
end

/-! ### isinstance of a built-in type -/
inductive Tg where
  | non | bl | int | str | tup | lst | dct
  deriving DecidableEq
def Tg.nm : Tg → String
  | .non => "NoneType" | .bl => "bool" | .int => "int" | .str => "str" | .tup => "tuple" | .lst => "list" | .dct => "dict"
def isiT : Tg → Tg → Bool
  | .bl, .int => true
  | a, b => decide (a = b)
def tgD : D → Option Tg
  | .non => some .non | .bl _ => some .bl | .int _ => some .int | .str _ => some .str | .tup _ => some .tup | .lst _ => some .lst | .dct _ => some .dct | .dtt _ => some .dct
  | _ => none
def isiD (t : Tg) (d : D) : Option D := match tgD d with
  | some a => some (.bl (isiT a t))
  | none => none
theorem kitB_ok : ∀ a b : Tg, kitB a.nm b.nm = some (isiT a b) := by intro a b; cases a <;> cases b <;> decide +kernel
theorem Pk.tyx {K : PySem.W.Frag} {mg : Str → Option Value} {Z : Addr → Prop} {H : Hp} {d : D} {v : V} {t : Tg} (h : Pk K mg Z H d v) (e : tgD d = some t) : TyX K H v (.type t.nm) := by
  cases h with
  | rp h =>
    cases h with
    | non => cases e; exact .base .non
    | bl b => cases e; exact .base (.bl b)
    | int b => cases e; exact .base (.int b)
    | str b => cases e; exact .base (.str b)
    | tup f r =>
      cases e
      exact .base (.tup f.1)
    | lst f r =>
      cases e
      rcases f with ⟨f | ⟨o, f⟩, _⟩ | ⟨o, its, n, f, c, _⟩
      · exact .base (.lst f)
      · exact .base (.frz f)
      · exact .kList f c
    | dctK f z r => cases e; exact .base (.dK f)
    | dctT f z r => cases e; exact .base (.dT f)
    | obj _ _ _ _ => cases e
    | glo _ => cases e
  | ow h =>
    cases h with
    | lst f r => cases e; exact .base (.lst f)
    | dctK f r => cases e; exact .base (.dK f)
    | dctT f r => cases e; exact .base (.dT f)
    | obj _ _ _ => cases e
section
variable {X : Cx} {S : Sx} {C : Xd → Gm → Prop} {Δ Δ1 : Fl} {a : Expr} {m : Gm → R D} {k : Kd} {p p2 pos : Pos} {x : Str}
theorem de_isi (t : Tg) (hm : X.mg "isinstance" = none) (hm2 : X.mg x = none) (ha : DE X S C Δ a m Δ1 k) (hv : bootBuiltins x = some (.type t.nm) := by rfl) (hg : Gl X "isinstance" := by rfl) (hg2 : Gl X x := by rfl) (hn : x ≠ "__name__" := by decide) (hdb : (x == ("__debug__" : Str)) = false := by decide)
    (he : starEach [a, Expr.Name x p2] X.env = (false, eval a X.env) :: starEach [Expr.Name x p2] X.env := by rfl) (he2 : starEach [Expr.Name x p2] X.env = (false, eval (Expr.Name x p2) X.env) :: starEach [] X.env := by rfl) (hpl : (backTo pos (starEach [Expr.Name x p2] X.env)).any (·.1) = false := by rfl) :
    DE X S C Δ (.Call (.Name "isinstance" p) [a, .Name x p2] [] pos) (mUn (isiD t) m) Δ1 .im :=
  (pe_callB call_isi hg hm PyProof.Rows.Boot.«isinstance» (pa_cons ha (pa_cons (pe_bltn hg2 hm2 hv (v := .ty t.nm) rfl hn hdb) pa_nil he2) he) (by decide) (by decide) he hpl).weak fun σ H Q ⟨Z, Γ, s, h⟩ => ⟨Z, Γ, s, h.bind.mono (fun d Γ1 h1 Z1 H1 v g1 r1 => by
    obtain ⟨u, hu, q⟩ := h1.of
    unfold isiD at hu; split at hu
    · rename_i t' e
      cases hu
      exact ⟨v, .ty t.nm, .type t'.nm, .type t.nm, _, rfl, .ty _, (r1.pk g1.s).tyx e, kit_ty (kitB_ok t' t), q Z1 H1 _ g1 (.bl _)⟩
    · cases hu) fun _ _ c => c⟩
end

/-! ### several stores at once -/
/-- values in a row, each as it stands; the owned ones apart -/
def Kra (K : PySem.W.Frag) (mg : Str → Option Value) (Hs : Hp) (Δ : Fl) (Z : Addr → Prop) (Γ : Gm) (σ : Sg) (H : Hp) : List Bool → List D → List V → Prop
  | [], [], [] => True
  | b :: bs, d :: ds, v :: vs => Kr K mg Hs Δ Z Γ σ H (kb b) d v ∧ (b = true → ∀ j : Nat, bs[j]? = some true → vs[j]? ≠ some v) ∧ Kra K mg Hs Δ Z Γ σ H bs ds vs
  | _, _, _ => False
def rdK (K : PySem.W.Frag) (mg : Str → Option Value) (S : Sx) (C : Xd → Gm → Prop) (Δ : Fl) (m : Gm → R (List D)) (Δ' : Fl) (bs : List Bool) : TA := fun σ H Q =>
  ∃ Z Γ, SR K mg S Δ Z Γ σ H ∧ Post (m Γ) (fun ds Γ' => ∀ Z' H' vs, Go K mg S σ Δ Z Γ H Δ' Z' Γ' H' → Kra K mg H Δ' Z' Γ' σ H' bs ds vs → Q vs H') C
abbrev DK (X : Cx) (S : Sx) (C : Xd → Gm → Prop) (Δ : Fl) (es : List Expr) (m : Gm → R (List D)) (Δ' : Fl) (bs : List Bool) : Prop := PA X es (rdK X.K X.mg S C Δ m Δ' bs)
def mNil : Gm → R (List D) := fun Γ => .ok [] Γ
def mCons (m : Gm → R D) (ms : Gm → R (List D)) : Gm → R (List D) := fun Γ => (m Γ).bind fun d Γ1 => (ms Γ1).bind fun ds Γ2 => .ok (d :: ds) Γ2
section
variable {X : Cx} {S : Sx} {C : Xd → Gm → Prop} {Δ Δ1 Δ2 Δ3 : Fl} {e : Expr} {es : List Expr} {m : Gm → R D} {ms : Gm → R (List D)} {bs : List Bool} {b : Bool}
theorem Kra.start {K : PySem.W.Frag} {mg : Str → Option Value} {Hs Hs' : Hp} {Z : Addr → Prop} {Γ : Gm} {σ : Sg} {H : Hp} (th : ∀ a o, Hs' a = some o → ∃ o', Hs a = some o') : ∀ {ks : List Bool} {ds : List D} {vs : List V}, Kra K mg Hs Δ Z Γ σ H ks ds vs → Kra K mg Hs' Δ Z Γ σ H ks ds vs
  | [], [], [], _ => trivial
  | _ :: _, _ :: _, _ :: _, h => ⟨h.1.start th, h.2.1, Kra.start th h.2.2⟩
theorem Kra.new {K : PySem.W.Frag} {mg : Str → Option Value} {Hs : Hp} {Z : Addr → Prop} {Γ : Gm} {σ : Sg} {H : Hp} : ∀ {ks : List Bool} {ds : List D} {vs : List V}, Kra K mg Hs Δ Z Γ σ H ks ds vs → ∀ (j : Nat) v, ks[j]? = some true → vs[j]? = some v → ∃ a : Addr, v = .ref a ∧ Hs a = none
  | [], [], [], _, j, v, h, _ => by simp at h
  | b :: ks, d :: ds, v :: vs, h, 0, u, h1, h2 => by
    simp at h1 h2
    subst h1; subst h2
    obtain ⟨a, e, _, _, _, n⟩ := h.1
    exact ⟨a, e, n⟩
  | b :: ks, d :: ds, v :: vs, h, j + 1, u, h1, h2 => Kra.new h.2.2 j u (by simpa using h1) (by simpa using h2)
theorem dk_nil : DK X S C Δ [] mNil Δ [] := pa_nil.weak fun σ H Q ⟨Z, Γ, s, h⟩ => h Z H [] (.refl s) trivial
theorem dk_cons (h1 : DE X S C Δ e m Δ1 (kb b)) (h2 : DK X S C Δ1 es ms Δ2 bs) (hs : starEach (e :: es) X.env = (false, eval e X.env) :: starEach es X.env := by rfl) : DK X S C Δ (e :: es) (mCons m ms) Δ2 (b :: bs) :=
  (pa_cons h1 h2 hs).weak fun σ H Q ⟨Z, Γ, s, h⟩ => ⟨Z, Γ, s, h.bind.mono (fun d Γ1 h1 Z1 H1 v g1 r1 => ⟨Z1, Γ1, g1.s, h1.bind.mono (fun ds Γ2 h2 Z2 H2 vs g2 r2 => by
    refine h2 Z2 H2 (v :: vs) (g1.trans g2) ⟨r1.lift g1.s g2 fun i e => ?_, fun hb j hj hv => ?_, r2.start g1.g.th⟩
    · cases b <;> cases e
    · subst hb
      obtain ⟨a, rfl, w, _⟩ := r1
      obtain ⟨a', e', n'⟩ := r2.new j _ hj hv
      cases e'
      obtain ⟨u, hu⟩ := w.there
      rw [n'] at hu; cases hu) fun _ _ c => c⟩) fun _ _ c => c⟩
end
def mPar2 (i j : Nat) (ms : Gm → R (List D)) : Gm → SE := fun Γ => (ms Γ).toS fun ds Γ1 => match ds with
  | [d, e] => .nx ((Γ1.set i (some d)).set j (some e))
  | _ => .no
def mPar3 (i j l : Nat) (ms : Gm → R (List D)) : Gm → SE := fun Γ => (ms Γ).toS fun ds Γ1 => match ds with
  | [d, e, f] => .nx (((Γ1.set i (some d)).set j (some e)).set l (some f))
  | _ => .no
section
variable {K : PySem.W.Frag} {mg : Str → Option Value} {S : Sx} {Δ : Fl} {Z : Addr → Prop} {Γ : Gm} {σ : Sg} {H Hs : Hp} {i : Nat} {d : D} {v : V} {b : Bool}
/-- a store of a result -/
theorem SR.setK (s : SR K mg S Δ Z Γ σ H) (r : Kr K mg Hs Δ Z Γ σ H (kb b) d v) (h0 : ∀ a, Hs a = none → S.H0 a = none) (hi : S.Nf i) :
    SR K mg S (Δ.set i b) Z (Γ.set i (some d)) (σ.set i (some v)) H := by
  cases b with
  | false => exact s.setIm r hi
  | true =>
    obtain ⟨a, rfl, w, nz, no, n0⟩ := r
    exact s.setOw w nz no (h0 a n0) hi
/-- the further results when a slot is stored to -/
theorem Kra.stored (s : SR K mg S Δ Z Γ σ H) : ∀ {bs : List Bool} {ds : List D} {vs : List V}, (b = true → ∀ j : Nat, bs[j]? = some true → vs[j]? ≠ some v) → Kra K mg Hs Δ Z Γ σ H bs ds vs → Kra K mg Hs (Δ.set i b) Z (Γ.set i (some d)) (σ.set i (some v)) H bs ds vs
  | [], [], [], _, _ => trivial
  | b' :: bs, d' :: ds, v' :: vs, ap, ⟨h1, h2, h3⟩ => by
    refine ⟨?_, h2, Kra.stored s (fun hb j hj => by simpa using ap hb (j + 1) (by simpa using hj)) h3⟩
    cases b' with
    | false => exact h1
    | true =>
      obtain ⟨a, rfl, w, nz, no, n0⟩ := h1
      refine ⟨a, rfl, w, nz, ?_, n0⟩
      rintro ⟨j, e, o, he, q⟩
      rcases own_set.mp o with ⟨rfl, hl, rfl⟩ | ⟨hj, o⟩
      · have hl2 : j < σ.length := by rw [← s.len, ← s.dl]; exact hl
        rw [List.getElem?_set_self hl2] at q
        cases q
        exact ap rfl 0 rfl rfl
      · rw [List.getElem?_set_ne (Ne.symm hj)] at he q
        exact no ⟨j, e, o, he, q⟩
end
section
variable {X : Cx} {B : Bx} {Δ Δ1 : Fl} {x y z : Str} {a b c : Expr} {ms : Gm → R (List D)} {px py pz pt pos : Pos} {kt k2 : Nat} {pt2 : Pos} {b1 b2 b3 : Bool}
theorem ds_par2 (ob : Okb B) (i j : Nat) (hN : X.N.Nodup) (ha : DK X B.S B.C Δ [a, b] ms Δ1 [b1, b2]) (hp : B.nf i = false := by rfl) (hp2 : B.nf j = false := by rfl) (hi : X.N[i]? = some x := by rfl) (hj : X.N[j]? = some y := by rfl) (hij : i ≠ j := by decide)
    (hx : X.env.scope.names.lookup x = some .local := by rfl) (hy : X.env.scope.names.lookup y = some .local := by rfl) (hc : X.calm = true := by rfl)
    (hw : swappedStores [.Tuple [.Name x px, .Name y py] kt pt] (.Tuple [a, b] k2 pt2) X.env = pure (some [x, y]) := by rfl)
    (hs : swapsWithSole [.Tuple [.Name x px, .Name y py] kt pt] (.Tuple [a, b] k2 pt2) pos.line X.env = pure false := by rfl) :
    DS X B Δ (.Assign [.Tuple [.Name x px, .Name y py] kt pt] (.Tuple [a, b] k2 pt2) pos) (mPar2 i j ms) ((Δ1.set i b1).set j b2) :=
  (ps_par hc hN hi hj hij hx hy ha hw hs).weak fun Dn σ H ⟨Z, Γ, s, h⟩ => ⟨Z, Γ, s, h.bind.mono (fun ds Γ1 ⟨_, h1⟩ Z1 H1 vs g1 r1 => by
    match ds, vs, r1 with
    | [d, e], [v, w], r1 =>
      have s1 := g1.s.setK r1.1 (fun a n => s.fresh n) (ob.no hp) (i := i)
      have r2 := Kra.stored (i := i) (d := d) g1.s r1.2.1 r1.2.2
      exact ⟨v, w, rfl, h1 Z1 _ H1 (s1.setK r2.1 (fun a n => s.fresh n) (ob.no hp2)) (g1.ag s)⟩
    | [], _, _ => exact h1.elim
    | [_], _, _ => exact h1.elim
    | _ :: _ :: _ :: _, _, _ => exact h1.elim) fun _ _ c => c⟩
theorem ds_par3 (ob : Okb B) (i j l : Nat) (hN : X.N.Nodup) (ha : DK X B.S B.C Δ [a, b, c] ms Δ1 [b1, b2, b3]) (hp : B.nf i = false := by rfl) (hp2 : B.nf j = false := by rfl) (hp3 : B.nf l = false := by rfl) (hi : X.N[i]? = some x := by rfl) (hj : X.N[j]? = some y := by rfl) (hl : X.N[l]? = some z := by rfl)
    (hij : i ≠ j := by decide) (hil : i ≠ l := by decide) (hjl : j ≠ l := by decide)
    (hx : X.env.scope.names.lookup x = some .local := by rfl) (hy : X.env.scope.names.lookup y = some .local := by rfl) (hz : X.env.scope.names.lookup z = some .local := by rfl) (hc : X.calm = true := by rfl)
    (hw : swappedStores [.Tuple [.Name x px, .Name y py, .Name z pz] kt pt] (.Tuple [a, b, c] k2 pt2) X.env = pure (some [x, y, z]) := by rfl)
    (hs : swapsWithSole [.Tuple [.Name x px, .Name y py, .Name z pz] kt pt] (.Tuple [a, b, c] k2 pt2) pos.line X.env = pure false := by rfl) :
    DS X B Δ (.Assign [.Tuple [.Name x px, .Name y py, .Name z pz] kt pt] (.Tuple [a, b, c] k2 pt2) pos) (mPar3 i j l ms) (((Δ1.set i b1).set j b2).set l b3) :=
  (ps_par3 hc hN hi hj hl hij hil hjl hx hy hz ha hw hs).weak fun Dn σ H ⟨Z, Γ, s, h⟩ => ⟨Z, Γ, s, h.bind.mono (fun ds Γ1 ⟨_, h1⟩ Z1 H1 vs g1 r1 => by
    match ds, vs, r1 with
    | [d, e, f], [v, w, u], r1 =>
      have s1 := g1.s.setK r1.1 (fun a n => s.fresh n) (ob.no hp) (i := i)
      have r2 := Kra.stored (i := i) (d := d) g1.s r1.2.1 r1.2.2
      have s2 := s1.setK r2.1 (fun a n => s.fresh n) (ob.no hp2) (i := j)
      have r3 := Kra.stored (i := j) (d := e) s1 r2.2.1 r2.2.2
      exact ⟨v, w, u, rfl, h1 Z1 _ H1 (s2.setK r3.1 (fun a n => s.fresh n) (ob.no hp3)) (g1.ag s)⟩
    | [], _, _ => exact h1.elim
    | [_], _, _ => exact h1.elim
    | [_, _], _, _ => exact h1.elim
    | _ :: _ :: _ :: _ :: _, _, _ => exact h1.elim) fun _ _ c => c⟩
/-- a, b = e (a tuple's items) -/
def mUnp (g : D → Gm → Option Gm) (m : Gm → R D) : Gm → SE := fun Γ => (m Γ).toS fun d Γ1 => match g d Γ1 with
  | some Γ2 => .nx Γ2
  | none => .no
theorem ds_unp {tg e : Expr} {m : Gm → R D} {g : D → Gm → Option Gm} {ts : List Nat} {Δ2 : Fl} (he : DE X B.S B.C Δ e m Δ1 .im) (hg : DG X B.S Δ1 tg g Δ2 ts) (hs : swapsWithSole [tg] e pos.line X.env = pure false := by rfl) (hw : swappedStores [tg] e X.env = pure none := by rfl)
    (h1 : (assignEach [tg] X.env).map (·.2) = [assign tg X.env] := by rfl) : DS X B Δ (.Assign [tg] e pos) (mUnp g m) Δ2 :=
  (ps_asg he hg hs hw h1).weak fun Dn σ H ⟨Z, Γ, s, h⟩ => ⟨Z, Γ, s, h.bind.mono (fun d Γ1 ⟨_, h1⟩ Z1 H1 v g1 r1 => by
    cases eg : g d Γ1 with
    | none => rw [eg] at h1; exact h1.elim
    | some Γ2 =>
      rw [eg] at h1
      exact ⟨Z1, Γ1, d, Γ2, g1.s, r1, eg, fun σ' s' _ _ => h1 Z1 σ' H1 s' (g1.ag s)⟩) fun _ _ c => c⟩
end
/-! ### defs with defaults -/
section
variable {P : Program} {w : World} {K : PySem.W.Frag} {mg : Str → Option Value} {base : Heap}
theorem fn_okD {x qual : Str} {params : Arguments} {body : List Stmt} {scope : Scope} {dvs : List V} {kws : List (Str × V)} {f : Addr} {fd : FuncData} {N ps : List Str} {k : Nat} {Pm : List Nat} {ro : Bool} {m : Gm → SE} {Δe : Fl} {Fm : List D → FR} (F : FunD K x qual params body scope dvs kws f fd) (S : FnScope N ps scope)
    (hF : Fm = mFn N.length Pm ro m)
    (hb : ∀ (cdv : Value) (A : Around) (outer : List Env) (s : Shared) (H : Hp) (E : XK) (S : Sx) (C : Xd → Gm → Prop),
      Body (cxOf (L2.CX P w) P w K mg base N qual scope f cdv A outer s H E) ⟨S, C, Pm, N.length, flP N.length Pm, ro, [], []⟩ k →
      DSs (cxOf (L2.CX P w) P w K mg base N qual scope f cdv A outer s H E) ⟨S, C, Pm, N.length, flP N.length Pm, ro, [], []⟩ (flP N.length Pm) body m Δe)
    (hP : (Pm.all fun i => decide (i < ps.length)) = true := by rfl) (hN : ps.length ≤ N.length := by decide) (hd : N.Nodup := by decide) : FnOk P w K mg base (L2.CX P w) (k + 1) f fd ps (spD K mg Fm ps.length Pm ro) :=
  FunD.ok F S (fun vs H Q E h => h.1) fun cdv A outer s H vs Q E hr ⟨hl, Z, ds, zd, ao, hq⟩ => by
    have hP' : ∀ i ∈ Pm, i < ds.length := fun i hi => by
      have := List.all_eq_true.mp hP i hi
      rw [← ao.l, hl]; simpa using this
    have hPn : ∀ i ∈ Pm, i < N.length := fun i hi => by have := hP' i hi; rw [← ao.l, hl] at this; omega
    have pms : PMs (Sx0 Z H Pm vs) Pm := sx0_pms ao hP'
    have s0 := sr_start (N := N) ao zd (by rw [← ao.l, hl]; exact hN) hP'
    subst hF
    refine ⟨_, hb cdv A outer s H E (Sx0 Z H Pm vs) (fun x Γ => ∀ Z' H' cls dd, AfterD K mg Z H Pm vs (outs Pm Γ) Z' H' → Xr K mg Z' H' x cls dd → E cls dd H')
      ⟨⟨pms, hPn, fun _ _ h => nomatch h⟩, ⟨_, takes_of rfl rfl rfl rfl, fun x Γ Z' σ H' cls dd s r c => c Z' H' cls dd (after_of zd s) r⟩, passes_of rfl, hr⟩, Z, _, s0, ?_⟩
    unfold mFn at hq
    cases e : m (g0 N.length ds) with
    | nx Γ =>
      rw [e] at hq
      cases ro with
      | true => exact hq.elim
      | false => exact fun Z' σ' H' s' _ => hq Z' H' .non (after_of zd s') .non
    | rt d Γ =>
      rw [e] at hq
      refine fun Z' σ' H' v s' r => hq Z' H' v (by have := after_of zd s'; rwa [outs_mask] at this) ?_
      cases ro with
      | false => exact r
      | true =>
        obtain ⟨a, e1, w, nz, _, n0⟩ := r
        exact ⟨a, e1, w, nz, n0⟩
    | bk Γ => rw [e] at hq; exact hq.elim
    | ct Γ => rw [e] at hq; exact hq.elim
    | ex x Γ => rw [e] at hq; exact hq
    | no => rw [e] at hq; exact hq.elim
end
end DL
/-! DLH: the head's facts: defs, own exceptions. -/
namespace DL
open PySem PySem.Spec PyProof.Rows L2

def asM (g : Addr → Option Obj) : Nat → List Addr
  | 0 => [mainGlobals, cStatics]
  | n + 1 => He.growD g (asM g n)
abbrev AlM : Type := He.AlD × Bool
def obsM (n : Nat) (fa : List He.Fa) (fn : List He.DefD) (ex : PySem.W.Frag → Bool) (g : Addr → Option Obj) : AlM := (He.obsD fa fn (He.frG g (asM g n)), ex (He.frG g (asM g n)))
def hookM (n : Nat) (fa : List He.Fa) (fn : List He.DefD) (ex : PySem.W.Frag → Bool) : PySem.W.Hook where
  α := AlM
  obs := fun s => obsM n fa fn ex s.heap.get?
  val := fun _ => (He.valD fn, true)
  says := fun _ h => ∃ K : PySem.W.Frag, K.In h ∧ He.SaysD fa fn K ∧ ex K = true
  of := fun _ _ e => ⟨_, He.frG_in, congrArg (fun z : AlM => z.1) e, congrArg (fun z : AlM => z.2) e⟩
  keeps := fun _ _ _ ⟨K, hK, c⟩ k => ⟨K, PySem.W.Frag.In.keeps hK k, c⟩
theorem obsM_eq {n : Nat} {fa : List He.Fa} {fn : List He.DefD} {ex : PySem.W.Frag → Bool} {g : Addr → Option Obj} {s : Shared} (h : ∀ a, g a = s.heap.get? a) : obsM n fa fn ex g = (hookM n fa fn ex).obs s := by
  have e : g = s.heap.get? := funext h
  rw [e] <;> rfl
/-! ### an own exception class -/
def oexB (K : PySem.W.Frag) (C : Addr) : Bool := match K.lookup C with
  | some ⟨.type t, _, .cls ⟨_, _, mro, _, _, hd, _, _, _, _, del⟩, sl⟩ => decide (t = "type") && (hd && (!del && ((match mro with
    | .ref C' :: bm => decide (C' = C) && PySem.HandSPX.refsVE bm
    | _ => false) && (match sl.toList with
    | [_, _, _, _, some (.builtin n), _] => decide (n = "ValueError.__new__")
    | _ => false))))
  | _ => false
theorem oexB_ok {K : PySem.W.Frag} {C : Addr} (h : oexB K C = true) : ∃ nm q N bs bm sn sub ab col dd k0 k1 k2 k3 k5, K.lookup C = some (excClassObj nm q C N bs bm true sn sub ab col dd k0 k1 k2 k3 k5 "ValueError.__new__") ∧ PySem.HandSPX.refsVE bm = true := by
  unfold oexB at h
  split at h
  · rename_i t dd nm bs mro N q hd sn sub ab col del sl e
    obtain ⟨h1, h⟩ := He.ba h
    obtain ⟨h2, h⟩ := He.ba h
    obtain ⟨h3, h⟩ := He.ba h
    obtain ⟨h4, h5⟩ := He.ba h
    have e1 := of_decide_eq_true h1
    subst e1
    subst h2
    cases del with
    | true => cases h3
    | false =>
      split at h4
      · rename_i C' bm
        obtain ⟨h6, h7⟩ := He.ba h4
        have e6 := of_decide_eq_true h6
        subst e6
        split at h5
        · rename_i k0 k1 k2 k3 n k5 es
          have en := of_decide_eq_true h5
          subst en
          obtain ⟨l⟩ := sl
          simp only at es
          subst es
          exact ⟨_, _, _, _, _, _, _, _, _, _, k0, k1, k2, k3, k5, e, h7⟩
        · cases h5
      · cases h4
  · cases h
def exB (K : PySem.W.Frag) (x : Str) : Bool := He.eqO (PySem.W.nsIn K mainGlobals x) (some (some (.ref (He.ga K x)))) && (oexB K (He.ga K x) && (He.eqO (PySem.W.findIn K (.ref (He.ga K x)) "__setattr__") (some (some (.builtin "object.__setattr__"))) &&
  (decide (PySem.W.subIn K (.ref (He.ga K x)) (.type "BaseException") = some true) && (decide (PySem.W.typeIn K (.ref (He.ga K x)) = some (.type "type")) && (PySem.W.keepIn K (.ref (He.ga K x)) &&
  (He.eqO (PySem.W.findIn K (.ref (He.ga K x)) "__init__") (some (some (.ref (He.ma K (He.ga K x) "__init__")))) && decide (PySem.W.typeIn K (.ref (He.ma K (He.ga K x) "__init__")) = some (.type "function"))))))))
theorem exB_ok {K : PySem.W.Frag} {h : Heap} {mg : Str → Option Value} (X : K.In h) (G : h.Ns mainGlobals mg) {x : Str} (c : exB K x = true) : OexC K (He.ga K x) ∧ mg x = some (.ref (He.ga K x)) ∧ PySem.W.findIn K (.ref (He.ga K x)) "__init__" = some (some (.ref (He.ma K (He.ga K x) "__init__"))) ∧
    PySem.W.typeIn K (.ref (He.ma K (He.ga K x) "__init__")) = some (.type "function") := by
  obtain ⟨c1, c⟩ := He.ba c
  obtain ⟨c2, c⟩ := He.ba c
  obtain ⟨c3, c⟩ := He.ba c
  obtain ⟨c4, c⟩ := He.ba c
  obtain ⟨c5, c⟩ := He.ba c
  obtain ⟨c6, c⟩ := He.ba c
  obtain ⟨c7, c8⟩ := He.ba c
  exact ⟨⟨oexB_ok c2, He.eqO_ok c3, of_decide_eq_true c4, of_decide_eq_true c5, c6⟩, PySem.W.mg_of X G (He.eqO_ok c1), He.eqO_ok c7, of_decide_eq_true c8⟩
def baseB (K : PySem.W.Frag) (x : Str) : Bool := He.eqO (PySem.W.nsIn K mainGlobals x) (some (some (.ref (He.ga K x)))) && (decide (PySem.W.specialIn K (.ref (He.ga K x)) "__getattribute__" = some (some (.builtin "type.__getattribute__"))) && (PySem.W.readsIn K (He.ga K x) (.type "type") &&
  (match PySem.W.findCls K (.ref (He.ga K x)) (.type "type") "__init__" with
    | some (.val v) => decide (v = .builtin "ValueError.__init__")
    | _ => false)))
theorem baseB_ok {K : PySem.W.Frag} {h : Heap} {mg : Str → Option Value} (X : K.In h) (G : h.Ns mainGlobals mg) {x : Str} (c : baseB K x = true) : BaseC K mg x := by
  obtain ⟨c1, c⟩ := He.ba c
  obtain ⟨c2, c⟩ := He.ba c
  obtain ⟨c3, c4⟩ := He.ba c
  refine ⟨_, PySem.W.mg_of X G (He.eqO_ok c1), of_decide_eq_true c2, c3, ?_⟩
  split at c4
  · rename_i v e
    have ev := of_decide_eq_true c4
    subst ev
    exact e
  · cases c4
/-- a handler's answers, by a table -/
def exmB (K : PySem.W.Frag) (x : Str) (isa : List (Str × Bool)) : Bool := isa.all fun p => decide (PySem.W.exmOne K (.ref (He.ga K p.1)) (.ref (He.ga K x)) = some p.2)
def isGlo (x : Str) : List He.Fa → Bool
  | [] => false
  | .glo y :: l => decide (x = y) || isGlo x l
  | _ :: l => isGlo x l
theorem isGlo_mem {x : Str} : ∀ {l : List He.Fa}, isGlo x l = true → He.Fa.glo x ∈ l
  | f :: l, h => by
    cases f with
    | glo y =>
      rcases Bool.or_eq_true_iff.mp (show (decide (x = y) || isGlo x l) = true from h) with h | h
      · have := of_decide_eq_true h
        subst this; exact List.mem_cons_self
      · exact List.mem_cons_of_mem _ (isGlo_mem h)
    | _ => exact List.mem_cons_of_mem _ (isGlo_mem (l := l) h)
/-! ### the law's function lets nothing out -/
theorem fn_nox {P : Program} {w : World} {K : PySem.W.Frag} {mg : Str → Option Value} {base : Heap} {k : Nat} {f : Addr} {fd : FuncData} {ps : List Str} {sp : Sp} (F : FnOk P w K mg base (L2.CX P w) k f fd ps sp) : FnOk P w K mg base CX0 k f fd ps (fun vs H Q _ => sp vs H Q fun _ _ _ => False) :=
  ⟨fun vs H Q E h => F.len vs H Q _ h, fun A outer s H args us vs Q E hr he hb hv h => codeAny_mono (F.run A outer s H args us vs Q _ hr he hb hv h) fun r s' hq => by
    cases r with
    | error e =>
      obtain ⟨_, _, _, _, _, _, _, _, _, _, _, _, z⟩ := hq
      exact z.elim
    | ok fl =>
      cases fl with
      | ret u => exact hq
      | next => exact hq
      | brk => exact hq
      | cont => exact hq⟩
end DL
/-! DL16: for printed terms. -/
namespace DL
open PySem PySem.Spec PyProof.Rows L2
theorem kpu {k : Kd} {m : Gm → R D} (h : Pu m) : KeepK k m := fun i _ Γ d Γ' e => by rw [h _ _ _ e]
section
variable {X : Cx} {B : Bx} {k k' : Nat}
theorem Body.hu (bd : Body X B k) : X.A.units + 64 < cLine := by have := bd.rm.un; omega
theorem Body.hu5 (bd : Body X B k) : X.A.units + 65 < cLine := by have := bd.rm.un; omega
theorem Body.lp (bd : Body X B k) (Δ : Fl) : Body X { B with Δl := Δ } k := ⟨⟨bd.ob.pm, bd.ob.lt, bd.ob.fx⟩, bd.tk, bd.hp, bd.rm⟩
theorem Body.obh (bd : Body X B k) (Δx : Fl) : Okb (B.hd Δx) := ⟨bd.ob.pm, bd.ob.lt, bd.ob.fx⟩
variable {Δ Δ1 : Fl} {e : Expr} {es : List Expr} {as : List Am} {x : Str} {p pos : Pos} {n : Nat} {F : List D → FR} {Pm : List Nat} {ro : Bool} {dds : List D}
theorem de_callB (bd : Body X B k') (c : Cal X.prog X.w X.K X.mg X.base k x F n Pm ro dds) (ha : DAr X B.S B.C Δ (e :: es) as Δ1) (hPx : (B.P.all fun i => B.Δx[i]? == some true) = true := by rfl) (hk : k ≤ k' := by decide) (hp : Pm = posA 0 as := by rfl) (hn : as.length + dds.length = n := by rfl)
    (nd : (slotsA as).Nodup := by decide) (ho : ((slotsA as).all fun i => Δ1[i]? == some true) = true := by rfl) (hs : sub B.Δx Δ1 = true := by rfl) (hg : Gl X x := by rfl) (hdb : (x == ("__debug__" : Str)) = false := by decide)
    (he : starEach (e :: es) X.env = (false, eval e X.env) :: starEach es X.env := by rfl) (hpl : (backTo pos (starEach es X.env)).any (·.1) = false := by rfl) : DE X B.S B.C Δ (.Call (.Name x p) (e :: es) [] pos) (mCall F dds as) Δ1 (kb ro) :=
  de_call c bd.rm bd.tk ha (bd.ob.pm.own hPx) hk hp hn nd ho hs hg hdb he hpl
theorem de_gintE {S : Sx} {C : Xd → Gm → Prop} {i : Int} (hm : ∃ t, X.mg x = some (.int i t)) (hg : Gl X x := by rfl) (hd : (x == ("__debug__" : Str)) = false := by decide) : DE X S C Δ (.Name x pos) (mC (.int i)) Δ .im := by
  obtain ⟨t, hm⟩ := hm
  exact de_gint hm hg hd
end
/-! ### the handlers' answers -/
def isaT (tbl : List (Str × Str × Bool)) (a b : Str) : Option Bool := (tbl.find? fun p => decide (p.1 = a) && decide (p.2.1 = b)).map (·.2.2)
theorem isaC_of {K : PySem.W.Frag} {mg : Str → Option Value} {tbl : List (Str × Str × Bool)} (h : ∀ p ∈ tbl, mg p.1 = some (.ref (He.ga K p.1)) ∧ PySem.W.exmOne K (.ref (He.ga K p.1)) (.ref (He.ga K p.2.1)) = some p.2.2) (x : Str) : IsaC K mg (isaT tbl) x (.ref (He.ga K x)) := fun c' C b e hm => by
  unfold isaT at e
  rw [Option.map_eq_some_iff] at e
  obtain ⟨p, hp, rfl⟩ := e
  have hmem := List.mem_of_find?_eq_some hp
  have hc := List.find?_some hp
  rw [Bool.and_eq_true, decide_eq_true_eq, decide_eq_true_eq] at hc
  obtain ⟨rfl, rfl⟩ := hc
  obtain ⟨h1, h2⟩ := h p hmem
  rw [h1] at hm
  cases hm
  exact h2
/-! ### defs -/
section
variable {P : Program} {w : World} {K : PySem.W.Frag} {mg : Str → Option Value} {base : Heap}
theorem fn_okG {x qual : Str} {params : Arguments} {body : List Stmt} {scope : Scope} {dvs : List V} {kws : List (Str × V)} {f : Addr} {fd : FuncData} {N ps : List Str} {k : Nat} {Pm : List Nat} {ro : Bool} {m : Gm → SE} {Δe : Fl} (F : FunD K x qual params body scope dvs kws f fd) (S : FnScope N ps scope) (n np : Nat) (Δ0 : Fl)
    (hb : ∀ (cdv : Value) (A : Around) (outer : List Env) (s : Shared) (H : Hp) (E : XK) (S : Sx) (C : Xd → Gm → Prop),
      Body (cxOf (L2.CX P w) P w K mg base N qual scope f cdv A outer s H E) ⟨S, C, Pm, n, Δ0, ro, [], []⟩ k →
      DSs (cxOf (L2.CX P w) P w K mg base N qual scope f cdv A outer s H E) ⟨S, C, Pm, n, Δ0, ro, [], []⟩ Δ0 body m Δe)
    (hn : N.length = n := by rfl) (hnp : ps.length = np := by rfl) (h0 : flP n Pm = Δ0 := by rfl) (hP : (Pm.all fun i => decide (i < ps.length)) = true := by rfl) (hN : ps.length ≤ N.length := by decide) (hd : N.Nodup := by decide) : FnOk P w K mg base (L2.CX P w) (k + 1) f fd ps (spD K mg (mFn n Pm ro m) np Pm ro) := by
  subst hn hnp h0
  exact fn_okD F S rfl hb hP hN hd
theorem cal_of {x : Str} {f : Addr} {fd : FuncData} {ps : List Str} {k : Nat} {F : List D → FR} {n : Nat} {Pm : List Nat} {ro : Bool} {dds : List D} {ds : List Value} {dvs : List V} (fo : FnOk P w K mg base (L2.CX P w) k f fd ps (spD K mg F n Pm ro)) (hm : mg x = some (.ref f)) (hk : PySem.W.keepIn K (.ref f) = true) (hb : Binds K fd ps ds) (hd : Vals dvs ds) (hr : ∀ Z H, Rps K mg Z H dds dvs) :
    Cal P w K mg base k x F n Pm ro dds := ⟨f, fd, ps, ds, dvs, fo, hm, hk, hb, hd, hr⟩
theorem init_okD {x qual : Str} {params : Arguments} {body : List Stmt} {scope : Scope} {f C : Addr} {fd : FuncData} {N ps : List Str} {k n : Nat} {ns : List Str} {flds : List (Str × Nat)} (T : OexC K C) (fr : FreeF K C ns) (F : FunD K x qual params body scope [] [] f fd) (S : FnScope N ps scope) (hn : ps.length = n + 1)
    (hb : ∀ (cdv : Value) (A : Around) (outer : List Env) (s : Shared) (H : Hp) (E : XK),
      PSs (cxOf (L2.CX P w) P w K mg base N qual scope f cdv A outer s H E) body (rdIni K N n ns [] flds)) : FnOk P w K mg base (L2.CX P w) (k + 1) f fd ps (spI K C n flds) :=
  FunD.ok F S (fun vs H Q E ⟨a, ws, H1, e, l, _⟩ => by rw [e, hn, List.length_cons, l]) fun cdv A outer s H vs Q E hr ⟨a, ws, H1, e, l, hn, hH, q⟩ =>
    ⟨_, hb cdv A outer s H E, a, C, H1, ws, by rw [e], l, T, fr, ⟨hn, .inl ⟨rfl, hH⟩⟩, fun H' h => q H' h⟩
end
/-! ### the law's own call -/
theorem rps_intsL {K : PySem.W.Frag} {mg : Str → Option Value} {Z : Addr → Prop} {H : Hp} : ∀ ns : List Int, Rps K mg Z H (ns.map D.int) (ns.map V.int)
  | [] => .nil
  | i :: ns => .cons (.int i) (rps_intsL ns)
theorem law_sp {K : PySem.W.Frag} {mg : Str → Option Value} {F : List D → FR} {n : Nat} (hF : ∀ ns : List Int, ns.length ≤ n → F [.lst (ns.map D.int)] = .rt (.bl true) []) (H : Hp) (a : Addr) (ns : List Int) (hl : ns.length ≤ n) (hS : SqL K H a (ns.map V.int)) :
    spD K mg F 1 [] false [.ref a] H (fun v _ => v = .bl true) fun _ _ _ => False := by
  obtain ⟨Z, zd, fl⟩ : ∃ Z : Addr → Prop, Zd Z H ∧ FL K Z H a (ns.map V.int) := by
    rcases hS with h | h
    · refine ⟨fun x => x = a ∨ ∃ xs, H x = some (.tup xs), ⟨fun x e => ?_, fun x xs e => .inr ⟨xs, e⟩⟩, .inl ⟨h, .inl rfl⟩⟩
      rcases e with rfl | ⟨xs, e⟩
      · rcases h with h | ⟨o, h⟩
        · exact ⟨_, h⟩
        · exact ⟨_, h⟩
      · exact ⟨_, e⟩
    · exact ⟨fun x => ∃ xs, H x = some (.tup xs), ⟨fun _ ⟨_, z⟩ => ⟨_, z⟩, fun x xs e => ⟨xs, e⟩⟩, .inr h⟩
  refine ⟨rfl, Z, [.lst (ns.map D.int)], zd, ⟨rfl, fun i d e _ => ?_, fun i d _ m => by simp at m, fun i j b _ m => by simp at m⟩, ?_⟩
  · cases i with
    | zero => simp at e; subst e; exact ⟨_, rfl, .lst fl (rps_intsL ns)⟩
    | succ i => simp at e
  · rw [hF ns hl]
    intro Z' H' v _ r
    cases r
    rfl
end DL
/-! DL17: isinstance of two built-in types, a module's text, max, min, range of three. -/
namespace DL
open PySem PySem.Spec PyProof.Rows L2
def isi2D (t u : Tg) (d : D) : Option D := match tgD d with
  | some a => some (.bl (isiT a t || isiT a u))
  | none => none
section
variable {X : Cx} {S : Sx} {C : Xd → Gm → Prop} {Δ Δ1 Δ2 Δ3 : Fl} {a b c : Expr} {m m1 m2 m3 : Gm → R D} {k k1 k2 : Kd} {p p2 p3 p4 pos : Pos} {x y : Str}
theorem de_isi2 {kt : Nat} (t u : Tg) (hm : X.mg "isinstance" = none) (hmx : X.mg x = none) (hmy : X.mg y = none) (ha : DE X S C Δ a m Δ1 k) (hv : bootBuiltins x = some (.type t.nm) := by rfl) (hv2 : bootBuiltins y = some (.type u.nm) := by rfl) (hg : Gl X "isinstance" := by rfl) (hgx : Gl X x := by rfl) (hgy : Gl X y := by rfl)
    (hn : x ≠ "__name__" := by decide) (hdb : (x == ("__debug__" : Str)) = false := by decide) (hny : y ≠ "__name__" := by decide) (hdby : (y == ("__debug__" : Str)) = false := by decide)
    (he : starEach [a, Expr.Tuple [.Name x p2, .Name y p3] kt p4] X.env = (false, eval a X.env) :: starEach [Expr.Tuple [.Name x p2, .Name y p3] kt p4] X.env := by rfl) (he2 : starEach [Expr.Tuple [.Name x p2, .Name y p3] kt p4] X.env = (false, eval (Expr.Tuple [.Name x p2, .Name y p3] kt p4) X.env) :: starEach [] X.env := by rfl)
    (he3 : starEach [Expr.Name x p2, .Name y p3] X.env = (false, eval (Expr.Name x p2) X.env) :: starEach [Expr.Name y p3] X.env := by rfl) (he4 : starEach [Expr.Name y p3] X.env = (false, eval (Expr.Name y p3) X.env) :: starEach [] X.env := by rfl)
    (hpl : (backTo pos (starEach [Expr.Tuple [.Name x p2, .Name y p3] kt p4] X.env)).any (·.1) = false := by rfl) :
    DE X S C Δ (.Call (.Name "isinstance" p) [a, .Tuple [.Name x p2, .Name y p3] kt p4] [] pos) (mUn (isi2D t u) m) Δ1 .im :=
  (pe_callB call_isiT hg hm PyProof.Rows.Boot.«isinstance» (pa_cons ha (pa_cons (pe_tup (pa_cons (pe_bltn hgx hmx hv (v := .ty t.nm) rfl hn hdb) (pa_cons (pe_bltn hgy hmy hv2 (v := .ty u.nm) rfl hny hdby) pa_nil he4) he3)) pa_nil he2) he) (by decide) (by decide) he hpl).weak fun σ H Q ⟨Z, Γ, s, h⟩ => ⟨Z, Γ, s, h.bind.mono (fun d Γ1 h1 Z1 H1 v g1 r1 => by
    obtain ⟨w, hw, q⟩ := h1.of
    unfold isi2D at hw; split at hw
    · rename_i t' e
      cases hw
      refine ⟨by show 2 ≤ sizeLine; decide, fun pp hpp => ?_⟩
      have gl : Gr0 Z1 (fun x => Z1 x ∨ x = pp) H1 (upd H1 pp (.tup [V.ty t.nm, V.ty u.nm])) := Gr0.frz hpp g1.s.zd
      have s2 := g1.s.gr0 gl
      have tx : TyX X.K (upd H1 pp (.tup [V.ty t.nm, V.ty u.nm])) v (.type t'.nm) := by
        have k2 := Kr.lift g1.s (Go.gr0 g1.s gl) r1 fun _ _ => rfl
        exact (k2.pk s2).tyx e
      refine ⟨v, pp, [V.ty t.nm, V.ty u.nm], .type t'.nm, [.type t.nm, .type u.nm], _, rfl, upd_same, .cons (.ty _) (.cons (.ty _) .nil), tx, kitAny_cons (kit_ty (kitB_ok t' t)) (fun hb => ?_) (fun hb => ?_), q _ _ _ (g1.trans (Go.gr0 g1.s gl)) (.bl _)⟩
      · rw [hb, Bool.false_or]
        exact kitAny_cons (kit_ty (kitB_ok t' u)) (fun hb2 => by rw [hb2]; exact kitAny_nil) (fun hb2 => by rw [hb2])
      · rw [hb]; rfl
    · cases hw) fun _ _ c => c⟩
/-- a module's text -/
theorem de_gstrE {z : Str} (hm : ∃ t, X.mg x = some (.str z t)) (hg : Gl X x := by rfl) (hd : (x == ("__debug__" : Str)) = false := by decide) : DE X S C Δ (.Name x pos) (mC (.str z)) Δ .im := by
  obtain ⟨t, hm⟩ := hm
  exact (pe_glob (v := .str z) hg hm ⟨t, rfl⟩ hd).weak fun σ H Q ⟨Z, Γ, s, h⟩ => h Z H _ (Go.refl s) (.str z)
/-! ### max, min -/
def max2D : D → D → Option D
  | .int i, .int j => some (.int (if j > i then j else i))
  | _, _ => none
def min2D : D → D → Option D
  | .int i, .int j => some (.int (if j < i then j else i))
  | _, _ => none
theorem de_two {f : D → D → Option D} {id : String} {r : List V → Hp → VK → Prop} (hc : CallR X (.builtin id) r) (hr : ∀ d e u v w H Q, f d e = some u → Pk X.K X.mg (fun _ => False) H d v → Pk X.K X.mg (fun _ => False) H e w → (∀ z, Rp X.K X.mg (fun _ => False) H u z → Q z H) → r [v, w] H Q)
    (hi : ∀ d e u, f d e = some u → (∃ i j k, d = .int i ∧ e = .int j ∧ u = .int k)) (hm : X.mg x = none) (hv : bootBuiltins x = some (.builtin id)) (ha : DE X S C Δ a m1 Δ1 .im) (hb : DE X S C Δ1 b m2 Δ2 .im) (hg : Gl X x := by rfl) (hn : x ≠ "__name__" := by decide) (hdb : (x == ("__debug__" : Str)) = false := by decide)
    (he : starEach [a, b] X.env = (false, eval a X.env) :: starEach [b] X.env := by rfl) (he2 : starEach [b] X.env = (false, eval b X.env) :: starEach [] X.env := by rfl) (hpl : (backTo pos (starEach [b] X.env)).any (·.1) = false := by rfl) :
    DE X S C Δ (.Call (.Name x p) [a, b] [] pos) (mBin f m1 m2) Δ2 .im :=
  (pe_callB hc hg hm hv (pa_cons ha (pa_cons hb pa_nil he2) he) hn hdb he hpl).weak fun σ H Q ⟨Z, Γ, s, h⟩ => ⟨Z, Γ, s, h.bind.mono (fun d Γ1 h1 Z1 H1 v g1 r1 => ⟨Z1, Γ1, g1.s, h1.bind.mono (fun e Γ2 h2 Z2 H2 w g2 r2 => by
    obtain ⟨u, hu, q⟩ := h2.of
    obtain ⟨i, j, k, rfl, rfl, rfl⟩ := hi d e u hu
    cases r1
    cases r2
    exact hr _ _ _ _ _ _ _ hu (.rp (.int i)) (.rp (.int j)) fun z hz => by cases hz; exact q Z2 H2 _ (g1.trans g2) (.int k)) fun _ _ c => c⟩) fun _ _ c => c⟩
theorem de_max2 (hm : X.mg "max" = none) (ha : DE X S C Δ a m1 Δ1 .im) (hb : DE X S C Δ1 b m2 Δ2 .im) (hc : X.calm = true := by rfl) (hg : Gl X "max" := by rfl)
    (he : starEach [a, b] X.env = (false, eval a X.env) :: starEach [b] X.env := by rfl) (he2 : starEach [b] X.env = (false, eval b X.env) :: starEach [] X.env := by rfl) (hpl : (backTo pos (starEach [b] X.env)).any (·.1) = false := by rfl) : DE X S C Δ (.Call (.Name "max" p) [a, b] [] pos) (mBin max2D m1 m2) Δ2 .im :=
  de_two (call_max2 hc) (fun d e u v w H Q hu p1 p2 q => by
    unfold max2D at hu; split at hu
    · cases hu; exact ⟨_, _, by rw [p1.int, p2.int], q _ (.int _)⟩
    · cases hu) (fun d e u hu => by unfold max2D at hu; split at hu <;> cases hu; exact ⟨_, _, _, rfl, rfl, rfl⟩) hm PyProof.Rows.Boot.«max» ha hb hg (by decide) (by decide) he he2 hpl
theorem de_min2 (hm : X.mg "min" = none) (ha : DE X S C Δ a m1 Δ1 .im) (hb : DE X S C Δ1 b m2 Δ2 .im) (hc : X.calm = true := by rfl) (hg : Gl X "min" := by rfl)
    (he : starEach [a, b] X.env = (false, eval a X.env) :: starEach [b] X.env := by rfl) (he2 : starEach [b] X.env = (false, eval b X.env) :: starEach [] X.env := by rfl) (hpl : (backTo pos (starEach [b] X.env)).any (·.1) = false := by rfl) : DE X S C Δ (.Call (.Name "min" p) [a, b] [] pos) (mBin min2D m1 m2) Δ2 .im :=
  de_two (call_min2 hc) (fun d e u v w H Q hu p1 p2 q => by
    unfold min2D at hu; split at hu
    · cases hu; exact ⟨_, _, by rw [p1.int, p2.int], q _ (.int _)⟩
    · cases hu) (fun d e u hu => by unfold min2D at hu; split at hu <;> cases hu; exact ⟨_, _, _, rfl, rfl, rfl⟩) hm PyProof.Rows.Boot.«min» ha hb hg (by decide) (by decide) he he2 hpl
/-- max, min of a list of ints -/
def maxL (l : List Int) : Option Int := match l with
  | [] => none
  | i :: l => some (l.foldl (fun a b => if b > a then b else a) i)
def minL (l : List Int) : Option Int := match l with
  | [] => none
  | i :: l => some (l.foldl (fun a b => if b < a then b else a) i)
theorem foldMax (l : List Int) : ∀ i : Int, (l.foldl (fun a b => if b > a then b else a) i ∈ i :: l) ∧ ∀ y ∈ i :: l, y ≤ l.foldl (fun a b => if b > a then b else a) i := by
  induction l with
  | nil => intro i; simp
  | cons j l ih =>
    intro i
    obtain ⟨h1, h2⟩ := ih (if j > i then j else i)
    rw [List.foldl_cons]
    refine ⟨?_, fun y hy => ?_⟩
    · rcases List.mem_cons.mp h1 with e | e
      · rw [e]; split <;> simp
      · exact List.mem_cons_of_mem _ (List.mem_cons_of_mem _ e)
    · have h0 := h2 (if j > i then j else i) (List.mem_cons_self ..)
      rcases List.mem_cons.mp hy with e | hy
      · subst e; split at h0 <;> split <;> omega
      · rcases List.mem_cons.mp hy with e | hy
        · subst e; split at h0 <;> split <;> omega
        · exact h2 y (List.mem_cons_of_mem _ hy)
theorem foldMin (l : List Int) : ∀ i : Int, (l.foldl (fun a b => if b < a then b else a) i ∈ i :: l) ∧ ∀ y ∈ i :: l, l.foldl (fun a b => if b < a then b else a) i ≤ y := by
  induction l with
  | nil => intro i; simp
  | cons j l ih =>
    intro i
    obtain ⟨h1, h2⟩ := ih (if j < i then j else i)
    rw [List.foldl_cons]
    refine ⟨?_, fun y hy => ?_⟩
    · rcases List.mem_cons.mp h1 with e | e
      · rw [e]; split <;> simp
      · exact List.mem_cons_of_mem _ (List.mem_cons_of_mem _ e)
    · have h0 := h2 (if j < i then j else i) (List.mem_cons_self ..)
      rcases List.mem_cons.mp hy with e | hy
      · subst e; split at h0 <;> split <;> omega
      · rcases List.mem_cons.mp hy with e | hy
        · subst e; split at h0 <;> split <;> omega
        · exact h2 y (List.mem_cons_of_mem _ hy)
def maxD : D → Option D
  | .lst xs => match intsD xs with
    | some ns => (maxL ns).map .int
    | none => none
  | _ => none
def minD : D → Option D
  | .lst xs => match intsD xs with
    | some ns => (minL ns).map .int
    | none => none
  | _ => none
theorem cd_max (hc : X.calm = true) : CallR X (.builtin "max") (rC1 X.K X.mg maxD false) := cri (cr_max hc) fun xs H Q ⟨x, e, Z, d, u, zd, p1, h, q⟩ => by
  subst e
  unfold maxD at h; split at h
  · split at h
    · rename_i ns e
      obtain ⟨a, vs, rfl, f, r⟩ := p1.lst
      have ev := rps_ints r e
      subst ev
      cases ns with
      | nil => cases h
      | cons i l =>
        cases h
        obtain ⟨h1, h2⟩ := foldMax l i
        refine ⟨a, i :: l, rfl, f, by simp, fun m hm hy => ?_⟩
        have : m = l.foldl (fun a b => if b > a then b else a) i := by
          have q1 := h2 m hm
          have q2 := hy _ h1
          omega
        rw [this]
        exact res0 zd q (.int _)
    · cases h
  · cases h
theorem cd_min (hc : X.calm = true) : CallR X (.builtin "min") (rC1 X.K X.mg minD false) := cri (cr_min hc) fun xs H Q ⟨x, e, Z, d, u, zd, p1, h, q⟩ => by
  subst e
  unfold minD at h; split at h
  · split at h
    · rename_i ns e
      obtain ⟨a, vs, rfl, f, r⟩ := p1.lst
      have ev := rps_ints r e
      subst ev
      cases ns with
      | nil => cases h
      | cons i l =>
        cases h
        obtain ⟨h1, h2⟩ := foldMin l i
        refine ⟨a, i :: l, rfl, f, by simp, fun m hm hy => ?_⟩
        have : m = l.foldl (fun a b => if b < a then b else a) i := by
          have q1 := h2 m hm
          have q2 := hy _ h1
          omega
        rw [this]
        exact res0 zd q (.int _)
    · cases h
  · cases h
end
end DL
/-! DL18: enumerate of a tuple. -/
namespace PySem
namespace DLE
open PySem.W PySem.Calls PyProof.Rows
theorem meets_enumerate_newB1 {v : Value} {o : Obj} {H : Heap → Prop} (B : Begins v o H) :
    Meets (Builtin.«enumerate.__new__» ⟨[.type "enumerate", v], []⟩) (fun _ R s => H s.heap ∧
      R (.ok (.ret (.ref (s.heap.push o).objs.size))) { s with heap := (s.heap.push o).push { cls := .type "enumerate", data := .fields #[.none, .bool false, .ref s.heap.objs.size, rawInt 0, .none, .none] } }) :=
  .of_wp fun prog w A R s h => by
    obtain ⟨hp, g, d, tk, os⟩ := s; obtain ⟨h1, h⟩ := h
    have hsub := sub_enumerate
    have q1 : ∀ {A' : Around} {E : Value → Shared → Prop} {Q : Value → Shared → Prop}, Q (.ref hp.objs.size) ⟨hp.push o, g, d, tk, os⟩ → wpAny (model prog w) A' (pyIter v) Q E ⟨hp, g, d, tk, os⟩ :=
      fun q => B.iter prog w _ _ ⟨hp, g, d, tk, os⟩ _ h1 q
    wp_walk using q1
    refine wpAny_stack_any fun st => wpAny_pure ?_
    split
    · rename_i c _ _ _ _ _
      cases (c == Value.type "enumerate")
      · wp_walk using q1
        exact ⟨_, rfl, h⟩
      · wp_walk using q1
        exact ⟨_, rfl, h⟩
    · wp_walk using q1
      exact ⟨_, rfl, h⟩
section
variable {prog : Program} {w : World} {A : Around} {E : Value → Shared → Prop} {s : Shared}
theorem enum_begins1 {v : Value} {o : Obj} {H : Heap → Prop} {Q : Value → Shared → Prop} (B : Begins v o H) (h1 : H s.heap)
    (h : ∀ h', IsEnum h' (s.heap.objs.size + 1) s.heap.objs.size 0 .none → h'.get? s.heap.objs.size = some o → h'.objs.size = s.heap.objs.size + 2 →
      (∀ b o, s.heap.get? b = some o → h'.get? b = some o) → Q (.ref (s.heap.objs.size + 1)) { s with heap := h' }) :
    wpAny (model prog w) A (call (.type "enumerate") [v]) Q E s := by
  refine callType_new F.called_enumerate (by decide) (F.typeCall_enumerate_1 _) (F.newCall_enumerate_1 _) (fun obj => F.args_object_init_2 obj _) F.entry_enumerate_new
    (meets_enumerate_newB1 B) ⟨h1, ?_⟩
  have hz : (s.heap.push o).objs.size = s.heap.objs.size + 1 := Heap.size_push ..
  show _ ∧ _
  rw [hz]
  have he : IsEnum ((s.heap.push o).push { cls := .type "enumerate", data := .fields #[.none, .bool false, .ref s.heap.objs.size, rawInt 0, .none, .none] }) (s.heap.objs.size + 1) s.heap.objs.size 0 .none := by
    have := Heap.get?_push_size (s.heap.push o) (o := { cls := .type "enumerate", data := .fields #[.none, .bool false, .ref s.heap.objs.size, rawInt 0, .none, .none] }) rfl
    rw [hz] at this; exact this
  refine ⟨⟨_, he, rfl⟩, h _ he (Heap.get?_push_of_some _ (Heap.get?_push_size _ B.free)) (by rw [Heap.size_push, hz]) fun b o x => Heap.get?_push_of_some _ (Heap.get?_push_of_some _ x)⟩
end
end DLE
end PySem
namespace L2
open PySem PySem.Spec PyProof.Rows
/-- the tuple at a as it stands at each turn, each item in a new pair -/
def Itet (K : PySem.W.Frag) (a : Addr) (n : Nat) : It :=
  ⟨fun i H => ∃ (xs : List V) (x : V), SqT K H a xs ∧ xs.length = n ∧ xs[i]? = some x, fun i H v H' => ∃ T x, v = .ref T ∧ H T = none ∧ H' = upd H T (.tup [.int (i : Nat), x]) ∧ ∀ xs, SqT K H a xs → xs[i]? = some x, fun i H => ∃ xs : List V, SqT K H a xs ∧ xs.length = n ∧ n ≤ i⟩
theorem turn_enumT {P : Program} {w : World} {K : PySem.W.Frag} {elts : List Expr} {kk : Nat} {tpos : Pos} (a e it : Addr) (n : Nat) (h1 : a ≠ it) (h2 : a ≠ e) :
    Turn P w K (.Tuple elts kk tpos) (Itet K a n) [e, it] e (fun i h => (∃ old, IsEnum h e it ((i : Nat) : Int) old) ∧ h.IsTupleIter it a i ∧ e ≠ it ∧ i ≤ n) where
  mem := by simp
  obj := fun i h st b hb => by
    obtain ⟨⟨old, he⟩, ⟨o, ho, hc, hd⟩, _⟩ := st
    have e' : b = e ∨ b = it := by simpa using hb
    rcases e' with z | z
    · rw [z]; exact ⟨_, he, fun v q => nomatch q⟩
    · rw [z]; exact ⟨o, ho, fun v q => by rw [hd] at q; cases q⟩
  keep := fun i h h' st k => let ⟨⟨old, he⟩, hi, hne, hn⟩ := st; ⟨⟨old, k e (by simp) _ he⟩, hi.at fun o q => k it (by simp) o q, hne, hn⟩
  item := by
    intro X hP hw hK hc i pins s σ H E I hf st hg
    subst hP hw hK
    obtain ⟨⟨old, he⟩, hit, hne, hn⟩ := st
    obtain ⟨xs, x, hq, hxn, hx⟩ := hg
    obtain ⟨its, rv, p, hz⟩ := I.tuple hq
    obtain ⟨u, hu, ru⟩ := rv.get hx
    have hel : e < s.heap.objs.size := Heap.lt_size he
    have hil : it < s.heap.objs.size := by obtain ⟨_, q, _⟩ := hit; exact Heap.lt_size q
    have D := Draws.tuple (prog := X.prog) (w := X.w) (A := X.A.in1) (show X.A.in1.handled = none from I.ok.hd hc) it a h1 its.toArray
    have hlt : i < its.toArray.size := by rw [List.size_toArray]; exact (List.getElem?_eq_some_iff.mp hu).1
    refine wpAny_pyNext_enum_itemD D he ⟨hit, p⟩ hlt hne (by simp [hne, Ne.symm h2]) fun x' h' tk hPx ho hit' hT hsz hk => ?_
    have hxu : x' = u := by
      have hPx : its.toArray[i]? = some x' := hPx
      rw [List.getElem?_toArray, hu] at hPx
      exact (Option.some.inj hPx).symm
    subst hxu
    refine ⟨_, rfl, wpAny_letOwnedTupleGo_enum (s := { s with heap := h', toks := tk + 1 }) ho fun h'' he' sb => ?_⟩
    have hT2 : h''.get? s.heap.objs.size = some { cls := .type "tuple", data := .seq #[.int i tk, x'] } := (sb.2 _ (Nat.ne_of_gt hel)).trans hT
    have new : ObjOk X.prog X.w (upd H s.heap.objs.size (.tup [.int (i : Nat), x])) h'' s.heap.objs.size (.tup [.int (i : Nat), x]) :=
      ⟨by show 2 ≤ sizeLine; decide, [.int i tk, x'], .cons ⟨_, rfl⟩ (.cons ru .nil), ⟨_, hT2, rfl, _, rfl⟩⟩
    have I1 : Inv X pins σ (upd H s.heap.objs.size (.tup [.int (i : Nat), x])) { s with heap := h'', toks := tk + 1 } :=
      I.turnedNew (ch := [e, it]) (fun b ob hb q => (sb.2 b (fun z => hb (by simp [z]))).trans (hk b ob (fun z => hb (by simp [z])) (fun z => hb (by simp [z])) q)) hf (Nat.le_refl _) new
    refine ⟨.ref s.heap.objs.size, _, I1, rfl, ⟨_, x, rfl, I.hok.fresh (Nat.le_refl _), rfl, fun ys hy => by rw [I.tuple_inj hy hq]; exact hx⟩, ⟨⟨x', ?_⟩, hit'.1.at fun o q => (sb.2 it (Ne.symm hne)).trans q, hne, by have := (List.getElem?_eq_some_iff.mp hx).1; omega⟩, fun b hb => ?_⟩
    · have e1 : ((i + 1 : Nat) : Int) = (i : Int) + 1 := by omega
      rw [e1]; exact he'
    · have hb' : b < s.heap.objs.size := by
        have e' : b = e ∨ b = it := by simpa using hb
        rcases e' with z | z
        · rw [z]; exact hel
        · rw [z]; exact hil
      rw [upd_ne (Nat.ne_of_lt hb')]
      exact (hf b hb).1
  done := by
    intro X hP hw hK hc i pins s σ H E I hf st hg
    subst hP hw hK
    obtain ⟨⟨old, he⟩, hit, hne, hn⟩ := st
    obtain ⟨xs, hq, hxn, hx⟩ := hg
    obtain ⟨its, rv, p, hz⟩ := I.tuple hq
    obtain ⟨f0, f1, f2, f3, f4, f5⟩ := hf it (by simp)
    have hl := rv.length
    have D := Draws.tuple (prog := X.prog) (w := X.w) (A := X.A.in1) (show X.A.in1.handled = none from I.ok.hd hc) it a h1 its.toArray
    have hi : i = its.toArray.size := by rw [List.size_toArray]; omega
    subst hi
    exact wpAny_pyNext_enum_endD D he ⟨hit, p⟩ fun h' eb => ⟨rfl, I.turned (t' := s.toks) (fun b o hb q => eb b o hb q) f0 f1 f3 f4 f5⟩
  self := fun A i s Q E st h => let ⟨⟨_, he⟩, _⟩ := st; wpAny_pyIter_enum he h
def iEnumA (K : PySem.W.Frag) (ta : TA) : TI := fun σ H R => ta σ H fun vs H1 => ∃ a xs, vs = [.ref a] ∧ ((SqL K H1 a xs ∧ R (Ite K a) H1) ∨ (SqT K H1 a xs ∧ R (Itet K a xs.length) H1))
theorem pi_enumA {X : Cx} {e : Expr} {ta : TA} {p pos tpos : Pos} {elts : List Expr} {kk : Nat} (hg : Gl X "enumerate") (hm : X.mg "enumerate" = none) (ha : PA X [e] ta) (hs : starEach [e] X.env = [(false, eval e X.env)] := by rfl) :
    PI X (.Tuple elts kk tpos) (.Call (.Name "enumerate" p) [e] [] pos) (iEnumA X.K ta) := by
  refine ⟨fun pins s σ H R I h => ?_⟩
  refine Call_ (ld_blt I hg hm boot_enumerate (PyProof.Rows.callWith_type1 (thn (ha.run pos pins s σ H _ I h) fun us s1 ⟨vs, H1, I1, r1, q1⟩ => ?_) hs rfl))
  obtain ⟨a, xs, ex, q⟩ := q1
  subst ex
  cases r1 with
  | cons r rr =>
    cases rr
    cases r
    have fin : ∀ b, b ∈ [s1.heap.objs.size + 1, s1.heap.objs.size] → s1.heap.objs.size ≤ b := fun b hb => by
      have e' : b = s1.heap.objs.size + 1 ∨ b = s1.heap.objs.size := by simpa using hb
      rcases e' with z | z
      · rw [z]; exact Nat.le_add_right _ _
      · rw [z]; exact Nat.le_refl _
    rcases q with ⟨hq, q⟩ | ⟨hq, q⟩
    · obtain ⟨its, rv, p', hz⟩ := I1.list hq
      refine call_enumerate_list p'.isList fun h' he hit hsz hk => wpAny_pyIter_enum he ?_
      have I2 : Inv X pins σ H1 { s1 with heap := h' } := I1.kept (t' := s1.toks) hk
      exact ⟨s1.heap.objs.size + 1, [s1.heap.objs.size + 1, s1.heap.objs.size], _, _, H1, rfl, I2, turn_enum a (s1.heap.objs.size + 1) s1.heap.objs.size, ⟨⟨.none, he⟩, hit, Nat.succ_ne_self _⟩, fun b hb => I1.fpOk (fin b hb) (I1.hok.fresh (fin b hb)), q⟩
    · obtain ⟨its, rv, p', hz⟩ := I1.tuple hq
      have hlt : a < s1.heap.objs.size := by obtain ⟨_, e, _⟩ := p'; exact Heap.lt_size e
      refine PySem.DLE.enum_begins1 (PySem.begins_tuple a its.toArray) p' fun h' he hit hsz hk => wpAny_pyIter_enum he ?_
      have I2 : Inv X pins σ H1 { s1 with heap := h' } := I1.kept (t' := s1.toks) hk
      exact ⟨s1.heap.objs.size + 1, [s1.heap.objs.size + 1, s1.heap.objs.size], _, _, H1, rfl, I2, turn_enumT a (s1.heap.objs.size + 1) s1.heap.objs.size xs.length (Nat.ne_of_lt hlt) (Nat.ne_of_lt (Nat.lt_succ_of_lt hlt)), ⟨⟨.none, he⟩, ⟨_, hit, rfl, rfl⟩, Nat.succ_ne_self _, Nat.zero_le _⟩, fun b hb => I1.fpOk (fin b hb) (I1.hok.fresh (fin b hb)), q⟩
end L2
namespace DL
open PySem PySem.Spec PyProof.Rows L2
/-- pairs of a place and an item -/
def enumI : Nat → List D → List D
  | _, [] => []
  | i, d :: ds => .tup [.int (i : Int), d] :: enumI (i + 1) ds
theorem enumI_len : ∀ (i : Nat) (ds : List D), (enumI i ds).length = ds.length
  | _, [] => rfl
  | i, d :: ds => by simp [enumI, enumI_len (i + 1) ds]
theorem enumI_get : ∀ (k : Nat) (ds : List D) (i : Nat) (d : D), ds[i]? = some d → (enumI k ds)[i]? = some (.tup [.int ((k + i : Nat) : Int), d])
  | k, [], i, d, h => by simp at h
  | k, e :: ds, 0, d, h => by simp at h; subst h; rfl
  | k, e :: ds, i + 1, d, h => by
    have := enumI_get (k + 1) ds i d (by simpa using h)
    rw [enumI, List.getElem?_cons_succ, this, show k + 1 + i = k + (i + 1) by omega]
def mEnum (m : Gm → R D) : Gm → R (List D) := fun Γ => (m Γ).bind fun d Γ1 => R.of ((itemsD d).map (enumI 0)) Γ1
section
variable {K : PySem.W.Frag} {mg : Str → Option Value} {Z : Addr → Prop} {H : Hp} {a : Addr} {ds : List D} {vs : List V}
theorem pair_rp {Z' : Addr → Prop} {H' : Hp} {T : Addr} {i : Nat} {d : D} {x : V} (n : H' T = none) (zd : Zd Z' H') (r : Rp K mg Z' H' d x) : ∃ Z2, Gr0 Z' Z2 H' (upd H' T (.tup [.int (i : Nat), x])) ∧ Rp K mg Z2 (upd H' T (.tup [.int (i : Nat), x])) (.tup [.int (i : Int), d]) (.ref T) := by
  have g : Gr0 Z' (fun y => Z' y ∨ y = T) H' (upd H' T (.tup [.int (i : Nat), x])) := Gr0.frz n zd
  exact ⟨_, g, .tup ⟨upd_same, .inr rfl⟩ (.cons (.int _) (.cons (r.ag (g.ag0 zd)) .nil))⟩
theorem ite_ok (f : FL K Z H a vs) (r : Rps K mg Z H ds vs) : ItOk K mg Z H (Ite K a) (enumI 0 ds) := fun i Z' H' g zd => by
  have f' := (f.ag g).sq
  have r' := r.ag g
  refine ⟨fun hi => ?_, fun hi => ⟨vs, f', by rw [enumI_len] at hi; rw [← r'.length]; exact hi⟩⟩
  rw [enumI_len] at hi
  obtain ⟨x, hx, rx⟩ := r'.get (List.getElem?_eq_getElem hi)
  refine ⟨⟨vs, x, f', hx⟩, fun v H2 ⟨T, y, e1, n, e2, hy⟩ => ?_⟩
  have := hy vs f'
  rw [hx] at this
  cases this
  subst e1 e2
  obtain ⟨Z2, g2, r2⟩ := pair_rp (i := i) n zd rx
  exact ⟨Z2, _, by rw [enumI_get 0 ds i _ (List.getElem?_eq_getElem hi), Nat.zero_add], g2, r2⟩
theorem itet_ok (f : FT K Z H a vs) (r : Rps K mg Z H ds vs) : ItOk K mg Z H (Itet K a vs.length) (enumI 0 ds) := fun i Z' H' g zd => by
  have f' := (f.ag g).sq
  have r' := r.ag g
  refine ⟨fun hi => ?_, fun hi => ⟨vs, f', rfl, by rw [enumI_len] at hi; rw [← r'.length]; exact hi⟩⟩
  rw [enumI_len] at hi
  obtain ⟨x, hx, rx⟩ := r'.get (List.getElem?_eq_getElem hi)
  refine ⟨⟨vs, x, f', rfl, hx⟩, fun v H2 ⟨T, y, e1, n, e2, hy⟩ => ?_⟩
  have := hy vs f'
  rw [hx] at this
  cases this
  subst e1 e2
  obtain ⟨Z2, g2, r2⟩ := pair_rp (i := i) n zd rx
  exact ⟨Z2, _, by rw [enumI_get 0 ds i _ (List.getElem?_eq_getElem hi), Nat.zero_add], g2, r2⟩
end
section
variable {X : Cx} {S : Sx} {C : Xd → Gm → Prop} {Δ Δ1 : Fl} {a : Expr} {m : Gm → R D} {p pos tpos : Pos} {elts : List Expr} {kk : Nat}
theorem di_enum (hm : X.mg "enumerate" = none) (ha : DE X S C Δ a m Δ1 .im) (hg : Gl X "enumerate" := by rfl) (hs : starEach [a] X.env = [(false, eval a X.env)] := by rfl) (hs2 : starEach (a :: []) X.env = (false, eval a X.env) :: starEach [] X.env := by rfl) :
    DI X S C Δ (.Tuple elts kk tpos) (.Call (.Name "enumerate" p) [a] [] pos) (mEnum m) Δ1 :=
  PI_weak (pi_enumA hg hm (pa_cons ha pa_nil hs2) hs) fun σ H Q ⟨Z, Γ, s, h⟩ => ⟨Z, Γ, s, h.bind.mono (fun d Γ1 h1 Z1 H1 v g1 r1 => by
    obtain ⟨items, hi, q⟩ := h1.of
    have r1 : Rp X.K X.mg Z1 H1 d v := r1
    cases d with
    | tup ds =>
      cases hi
      cases r1 with
      | tup f r => exact ⟨_, _, rfl, .inr ⟨f.sq, q Z1 H1 _ g1 (itet_ok f r)⟩⟩
    | lst ds =>
      cases hi
      cases r1 with
      | lst f r => exact ⟨_, _, rfl, .inl ⟨f.sq, q Z1 H1 _ g1 (ite_ok f r)⟩⟩
    | _ => cases hi) fun _ _ c => c⟩
end
end DL
/-! DL19: a < b < c. -/
namespace DL
open PySem PySem.Spec PyProof.Rows L2
def mChain (f f' : D → D → Option D) (ma mb mc : Gm → R D) : Gm → R D := fun Γ => (ma Γ).bind fun d Γ1 => (mb Γ1).bind fun e Γ2 => match f d e with
  | some (.bl true) => (mc Γ2).bind fun g Γ3 => R.of (f' e g) Γ3
  | some (.bl false) => .ok (.bl false) Γ2
  | _ => .no
section
variable {X : Cx} {S : Sx} {C : Xd → Gm → Prop} {Δ Δ1 Δ2 : Fl} {a b c : Expr} {ma mb mc : Gm → R D} {pos : Pos} {f f' : D → D → Option D} {op op' : CmpOp}
theorem chainF {σ : Sg} {H : Hp} {Q : VK} : rdE X.K X.mg S C Δ (mChain f f' ma mb mc) Δ2 .im σ H Q → tChain (rD2 X.K X.mg f false) (rD2 X.K X.mg f' false) (rdE X.K X.mg S C Δ ma Δ1 .im) (rdE X.K X.mg S C Δ1 mb Δ2 .im) (rdE X.K X.mg S C Δ2 mc Δ2 .im) σ H Q := fun ⟨Z, Γ, s, h⟩ =>
  ⟨Z, Γ, s, h.bind.mono (fun d Γ1 h1 Z1 H1 x g1 r1 => ⟨Z1, Γ1, g1.s, h1.bind.mono (fun e Γ2 h2 Z2 H2 y g2 r2 => by
    have r1 : Rp X.K X.mg Z1 H1 d x := r1
    have r2 : Rp X.K X.mg Z2 H2 e y := r2
    have r1' := r1.ag (g2.ag g1.s)
    split at h2
    · rename_i ef
      refine ⟨Z2, d, e, _, g2.s.zd, .rp r1', .rp r2, ef, fun Z3 H3 v g3 rv => ?_⟩
      cases rv
      refine ⟨true, rfl, ?_⟩
      rw [if_pos rfl]
      have s3 := g2.s.gr0 g3
      refine ⟨Z3, Γ2, s3, h2.bind.mono (fun w Γ3 h3 Z4 H4 z g4 r4 => ?_) fun _ _ c => c⟩
      obtain ⟨u, hu, q⟩ := h3.of
      have r2' := (r2.ag (g3.ag0 g2.s.zd)).ag (g4.ag s3)
      exact ⟨Z4, e, w, u, g4.s.zd, .rp r2', .rp r4, hu, fun Z5 H5 v g5 rv => q Z5 H5 v ((((g1.trans g2).trans (Go.gr0 g2.s g3)).trans g4).trans (Go.gr0 g4.s g5)) rv⟩
    · rename_i ef
      refine ⟨Z2, d, e, _, g2.s.zd, .rp r1', .rp r2, ef, fun Z3 H3 v g3 rv => ?_⟩
      cases rv
      refine ⟨false, rfl, ?_⟩
      rw [if_neg Bool.false_ne_true]
      exact h2 Z3 H3 _ ((g1.trans g2).trans (Go.gr0 g2.s g3)) (.bl false)
    · exact h2.elim) fun _ _ c => c⟩) fun _ _ c => c⟩
theorem de_chain (ho : OpR X (compareOp op) (rD2 X.K X.mg f false)) (ho' : OpR X (compareOp op') (rD2 X.K X.mg f' false)) (ha : DE X S C Δ a ma Δ1 .im) (hb : DE X S C Δ1 b mb Δ2 .im) (hc : DE X S C Δ2 c mc Δ2 .im) (hm : lastMarks [op, op'] [b, c] = false := by with_unfolding_all rfl) :
    DE X S C Δ (.Compare a [op, op'] [b, c] pos) (mChain f f' ma mb mc) Δ2 .im := (pe_chain ho ho' ha hb hc hm).weak fun σ H Q h => chainF h
theorem chain_bl (hf : Blf f') {Γ Γ' : Gm} {d : D} (h : mChain f f' ma mb mc Γ = .ok d Γ') : ∃ k, d = .bl k := by
  unfold mChain at h
  cases e1 : ma Γ with
  | ok d1 Γ1 =>
    rw [e1, R.bind_ok] at h
    cases e2 : mb Γ1 with
    | ok d2 Γ2 =>
      rw [e2, R.bind_ok] at h
      split at h
      · cases e3 : mc Γ2 with
        | ok d3 Γ3 =>
          rw [e3, R.bind_ok] at h
          cases e4 : f' d2 d3 with
          | some u => rw [e4] at h; cases h; exact hf _ _ _ e4
          | none => rw [e4] at h; cases h
        | ex x Γ3 => rw [e3] at h; cases h
        | no => rw [e3] at h; cases h
      · cases h; exact ⟨_, rfl⟩
      · cases h
    | ex x Γ3 => rw [e2] at h; cases h
    | no => rw [e2] at h; cases h
  | ex x Γ3 => rw [e1] at h; cases h
  | no => rw [e1] at h; cases h
theorem dt_chain (hf : Blf f') (ho : OpR X (compareOp op) (rD2 X.K X.mg f false)) (ho' : OpR X (compareOp op') (rD2 X.K X.mg f' false)) (ha : DE X S C Δ a ma Δ1 .im) (hb : DE X S C Δ1 b mb Δ2 .im) (hc : DE X S C Δ2 c mc Δ2 .im) (hm : lastMarks [op, op'] [b, c] = false := by with_unfolding_all rfl) :
    DT X S C Δ (.Compare a [op, op'] [b, c] pos) (mTru (mChain f f' ma mb mc)) Δ2 := (pt_chain ho ho' ha hb hc hm).weak fun σ H Q ⟨Z, Γ, s, h⟩ => by
  refine chainF ⟨Z, Γ, s, ?_⟩
  have h := h.bind'
  refine h.mono (fun d Γ1 ⟨ev, h1⟩ Z1 H1 v g1 r1 => ?_) fun _ _ c => c
  obtain ⟨k, rfl⟩ := chain_bl hf ev
  obtain ⟨b, hb, q⟩ := h1.of
  cases hb
  cases r1
  exact ⟨k, rfl, q Z1 H1 g1⟩
end
end DL
/-! DL20: except clauses of which some name what they hold. -/
namespace L2
open PySem PySem.Spec PyProof.Rows
abbrev Cl20 := Value × Option Nat × (Addr → Value → Option Addr → TS)
def goneE (i : Nat) (D : Ends) : Ends := { nx := fun σ' H' => D.nx (σ'.set i none) H', rt := D.rt, bk := fun σ' H' => D.bk (σ'.set i none) H', ct := fun σ' H' => D.ct (σ'.set i none) H' }
def suE (D : Ends) : Option Nat → (Addr → Value → Option Addr → TS) → Addr → Value → Option Addr → L2.St → Hp → Prop
  | none, ts => fun a cls d σ H => ts a cls d D σ H
  | some i, ts => fun a cls d σ H => ts a cls d (goneE i D) (σ.set i (some (.ref a))) H
/-- what the clauses wish, one behind the other -/
def wMix (K : PySem.W.Frag) (Wout : WX) (D : Ends) : List Cl20 → WX
  | [] => Wout
  | (c, o, ts) :: r => fun cls d σ H => ∃ b, PySem.W.exmOne K cls c = some b ∧ (b = true → ∀ a, H a = none → suE D o ts a cls d σ H) ∧ (b = false → wMix K Wout D r cls d σ H)
inductive HdsMix (X : Cx) : List ExceptHandler → List Cl20 → Prop
  | nil : HdsMix X [] []
  | cons {x : Str} {c : Value} {ts : Addr → Value → Option Addr → TS} {b₀ : Stmt} {suite : List Stmt} {np pos' : Pos} {hds : List ExceptHandler} {l : List Cl20} (hc : Names X x c)
      (hsu : ∀ (a : Addr) (oe : Obj) (cls : Value) (d : Option Addr) (pn : List (Addr × Obj)), Zc cls d oe → (∃ vs, oe.data = .fields vs) → PSs (X.suite a ((a, oe) :: pn)) (b₀ :: suite) (ts a cls d)) (r : HdsMix X hds l) :
      HdsMix X (.ExceptHandler (some (.Name x np)) none (b₀ :: suite) pos' :: hds) ((c, none, ts) :: l)
  | as {x n : Str} {c : Value} {i : Nat} {ts : Addr → Value → Option Addr → TS} {b₀ : Stmt} {suite : List Stmt} {np pos' : Pos} {hds : List ExceptHandler} {l : List Cl20} (hi : X.N[i]? = some n) (hln : X.env.kindOf n = some .local) (hc : Names X x c)
      (hsu : ∀ (a : Addr) (oe : Obj) (cls : Value) (d : Option Addr) (pn : List (Addr × Obj)), Zc cls d oe → (∃ vs, oe.data = .fields vs) → PSs (X.suite a ((a, oe) :: pn)) (b₀ :: suite) (ts a cls d)) (r : HdsMix X hds l) :
      HdsMix X (.ExceptHandler (some (.Name x np)) (some n) (b₀ :: suite) pos' :: hds) ((c, some i, ts) :: l)
section
variable {X : Cx} {body : List Stmt} {h₀ : ExceptHandler} {hds : List ExceptHandler} {l : List Cl20} {pos : Pos} {tb : WX → TS} {Wout : WX}
theorem ps_try_mix (hs : X.stack = X.env :: X.outer) (hf : X.env.frame = some X.env.locals) (hN : X.N.Nodup) (tk : Takes X Wout)
    (hb : ∀ (W : WX) (pn : List (Addr × Obj)) (xe : Value → Shared → Prop), Takes (X.tr pn xe) W → PassesOwn (model X.prog X.w) X.A X.env xe → PSs (X.tr pn xe) body (tb W))
    (hh : HdsMix X (h₀ :: hds) l) : PS X (.Try body (h₀ :: hds) [] [] pos) (fun D σ H => tb (wMix X.K Wout D l) D σ H) := by
  refine ⟨fun pins s σ H D I h => ?_⟩
  have ok := I.ok
  have hfr : X.A.frames = some (X.env :: X.outer) := by rw [ok.frames, hs]
  refine wpAny_Try_except ?_
  refine wpAny_mono ((hb (wMix X.K Wout D l) (X.pn ++ pins) (fun e s₁ => wpAny (model X.prog X.w) X.A (noteFrame e X.env) (fun _ s₂ => wpAny (model X.prog X.w) X.A (setFlight e none) (fun _ s₃ =>
    wpAny (model X.prog X.w) X.A (handleBy e X.env (h₀ :: hds)) (SP X pins D) X.xe s₃) X.xe s₂) X.xe s₁) (fun u s' xx => ?_) PassesOwn.looking).run [] s σ H D (I.toTry _) h) (fun f s1 hsp => ?_) (fun e s1 he => he)
  · -- the catch
    obtain ⟨a, B, sI, pins', σ', H', cls, d, rfl, J', nb, up, sky, na, os, ag, w⟩ := xx
    have J : Inv X pins σ' H' sI := J'.ofTry ok
    have sky' : Sky B (X.env :: X.outer) a (Zc cls d) X.env.locals s'.heap := by rw [← hs]; exact sky
    show wpAny (model X.prog X.w) X.A (noteFrame (.ref a) X.env) _ _ _
    refine Sky.land Zc.steady hfr hf sky' fun h3 fl3 up3 => ?_
    have J3 : Inv X pins σ' H' { s' with heap := h3 } := J.landed nb fl3.1 (up.trans up3) os ag
    obtain ⟨oe3, vs3, he3, hz3, hd3⟩ := fl3.there
    have notFr : ∀ {h : Heap} {o : Obj} {vs : Array Value}, h.FunFrames B (X.env :: X.outer) → h.get? a = some o → o.data = .fields vs → a ∉ frs (X.env :: X.outer) := fun {h o vs} ff e dd hm => by
      obtain ⟨_, o', e', hnf⟩ := ff.mem hm
      rw [e] at e'; cases e'
      exact hnf _ dd
    have nfr := notFr fl3.2.2.1 he3 hd3
    have nL : a ≠ X.env.locals := fun z => nfr (List.mem_filterMap.mpr ⟨X.env, List.mem_cons_self, by rw [hf, z]⟩)
    have nF : a ∉ X.fs := fun hm => by
      obtain ⟨e, he, q⟩ := List.mem_filterMap.mp hm
      exact nfr (List.mem_filterMap.mpr ⟨e, List.mem_cons_of_mem _ he, q⟩)
    have S3 := J3.suite he3 hd3 na nL nF
    have go : ∀ {hds' : List ExceptHandler} {l' : List Cl20}, HdsMix X hds' l' → wMix X.K Wout D l' cls d σ' H' →
        wpAny (model X.prog X.w) X.A (handleBy (.ref a) X.env hds') (SP X pins D) X.xe { s' with heap := h3 } := by
      intro hds' l' hk
      induction hk with
      | nil =>
        intro w
        refine wpAny_handleBy_nil ?_
        obtain ⟨k1, k2, k3, oe, vs, T, oT, ts', he, hz, hd, h1, hr⟩ := id fl3
        unfold PySem.passOn
        refine wpAny_bind (wpAny_field he hd h1 ?_)
        rw [if_neg (show ¬ ((Value.ref T == Value.none) = true) from by simp)]
        have fin : wpAny (model X.prog X.w) X.A (setFlight (.ref a) X.env.frame) (fun _ s4 => wpAny (model X.prog X.w) X.A (throw (.ref a) : Sem Flow) (SP X pins D) X.xe s4) X.xe { s' with heap := h3 } := by
          rw [hf]
          refine HandSPX.setFlight_upZ fl3 fun h4 hh4 up4 => wpAny_throw (tk _ _ ?_)
          exact ⟨a, B, sI, pins, σ', H', cls, d, rfl, J, nb, (up.trans up3).trans up4, .inr (.inr (by rw [hs]; exact hh4)), na, os, ag, w⟩
        first
          | exact wpAny_bind (wpAny_pure (wpAny_bind fin))
          | exact wpAny_bind fin
      | @cons x c ts b₀ suite np pos' hds2 l2 hc hsu r ih =>
        intro w
        obtain ⟨b, hb1, hyes, hno⟩ := w
        refine wpAny_handleBy_cons (codeAny_handlers_test ?_) (by intro q; cases q)
        have LT : PySem.W.Looks (model X.prog X.w) h3 (typeOf (.ref a)) cls := fun A Q E s k q => wpAny_typeOf_ref (k _ _ he3) (by rw [hz3.1]; exact q)
        have LM := PySem.W.exm_one (M := model X.prog X.w) (J3.kIn) LT hb1
        have test : ∀ {Q : Value → Shared → Prop} {E : Value → Shared → Prop}, Q c { s' with heap := h3 } → wpAny (model X.prog X.w) (X.A.mark (some (.ref a))) (eval (.Name x np) X.env) Q E { s' with heap := h3 } := fun {Q E} q => by
          obtain ⟨hg, hdbg, hm | ⟨hm, hv, hnn⟩⟩ := hc
          · exact ld_glob (X := X.suite a ((a, oe3) :: (X.pn ++ pins))) S3 hg hm q hdbg
          · exact ld_blt (X := X.suite a ((a, oe3) :: (X.pn ++ pins))) S3 hg hm hv q hnn hdbg
        refine test (LM.here ?_)
        cases b with
        | true =>
          refine codeAny_handlers_suite ?_
          refine HandSPX.lands_againZ fl3 fun h4 fl4 up4 => ?_
          have J4 : Inv X pins σ' H' { s' with heap := h4 } := J.landed nb fl4.1 ((up.trans up3).trans up4) os ag
          obtain ⟨oe4, vs4, he4, hz4, hd4⟩ := fl4.there
          have S4 := J4.suite he4 hd4 na nL nF
          refine wpAny_mono ((hsu a oe4 cls d (X.pn ++ pins) hz4 ⟨_, hd4⟩).run [] _ _ H' _ S4 (hyes rfl a na)) (fun f s6 hsp => ?_) (fun _ _ z => False.elim z)
          cases f with
          | next =>
            obtain ⟨σ6, H6, S6, q6⟩ := hsp
            exact ⟨_, _, S6.unsuite ok, q6⟩
          | brk =>
            obtain ⟨σ6, H6, S6, q6⟩ := hsp
            exact ⟨_, _, S6.unsuite ok, q6⟩
          | cont =>
            obtain ⟨σ6, H6, S6, q6⟩ := hsp
            exact ⟨_, _, S6.unsuite ok, q6⟩
          | ret u =>
            obtain ⟨v6, σ6, H6, S6, r6, q6⟩ := hsp
            exact ⟨_, _, _, S6.unsuite ok, r6, q6⟩
        | false =>
          show wpAny _ X.A (handleBy (.ref a) X.env hds2) _ _ _
          exact ih (hno rfl)
      | @as x n c i ts b₀ suite np pos' hds2 l2 hi hln hc hsu r ih =>
        intro w
        obtain ⟨b, hb1, hyes, hno⟩ := w
        refine wpAny_handleBy_cons (codeAny_handlers_test ?_) (by intro q; cases q)
        have LT : PySem.W.Looks (model X.prog X.w) h3 (typeOf (.ref a)) cls := fun A Q E s k q => wpAny_typeOf_ref (k _ _ he3) (by rw [hz3.1]; exact q)
        have LM := PySem.W.exm_one (M := model X.prog X.w) (J3.kIn) LT hb1
        have test : ∀ {Q : Value → Shared → Prop} {E : Value → Shared → Prop}, Q c { s' with heap := h3 } → wpAny (model X.prog X.w) (X.A.mark (some (.ref a))) (eval (.Name x np) X.env) Q E { s' with heap := h3 } := fun {Q E} q => by
          obtain ⟨hg, hdbg, hm | ⟨hm, hv, hnn⟩⟩ := hc
          · exact ld_glob (X := X.suite a ((a, oe3) :: (X.pn ++ pins))) S3 hg hm q hdbg
          · exact ld_blt (X := X.suite a ((a, oe3) :: (X.pn ++ pins))) S3 hg hm hv q hnn hdbg
        refine test (LM.here ?_)
        cases b with
        | true =>
          refine codeAny_handlers_suite_as ?_
          refine HandSPX.lands_againZ fl3 fun h4 fl4 up4 => ?_
          have J4 : Inv X pins σ' H' { s' with heap := h4 } := J.landed nb fl4.1 ((up.trans up3).trans up4) os ag
          obtain ⟨oe4, vs4, he4, hz4, hd4⟩ := fl4.there
          have S4 := J4.suite he4 hd4 na nL nF
          have hloc : Loc X.env.scope n := .inl hln
          refine store_ok (X := X.suite a ((a, oe4) :: (X.pn ++ pins))) (v := .ref a) S4 hN hi hloc rfl (fun s5 S5 => ?_) (.inr hln)
          refine wpAny_mono ((hsu a oe4 cls d (X.pn ++ pins) hz4 ⟨_, hd4⟩).run [] s5 _ H' _ S5 (hyes rfl a na)) (fun f s6 hsp => ?_) (fun _ _ z => False.elim z)
          have end_ : ∀ {σ6 : St} {H6 : Hp} {Q : Shared → Prop}, Inv (X.suite a ((a, oe4) :: (X.pn ++ pins))) [] σ6 H6 s6 → (∀ s7, Inv X pins (σ6.set i none) H6 s7 → Q s7) →
              wpAny (model X.prog X.w) X.A (do bindName X.env n .none; unbindBehindTheSuite X.env n pos') (fun _ s7 => Q s7) X.xe s6 := fun {σ6 H6 Q} S6 hq => gone_ok (S6.unsuite ok) hN hi hln hq
          cases f with
          | next =>
            obtain ⟨σ6, H6, S6, q6⟩ := hsp
            exact end_ S6 fun s7 J7 => ⟨_, _, J7, q6⟩
          | brk =>
            obtain ⟨σ6, H6, S6, q6⟩ := hsp
            exact end_ S6 fun s7 J7 => ⟨_, _, J7, q6⟩
          | cont =>
            obtain ⟨σ6, H6, S6, q6⟩ := hsp
            exact end_ S6 fun s7 J7 => ⟨_, _, J7, q6⟩
          | ret u =>
            obtain ⟨v6, σ6, H6, S6, r6, q6⟩ := hsp
            exact end_ S6 fun s7 J7 => ⟨_, _, _, J7, r6, q6⟩
        | false =>
          show wpAny _ X.A (handleBy (.ref a) X.env hds2) _ _ _
          exact ih (hno rfl)
    exact go hh w
  · cases f with
    | next =>
      obtain ⟨σ', H', J', q⟩ := hsp
      exact wpAny_execs_nil ⟨σ', H', J'.ofTry ok, q⟩
    | brk =>
      obtain ⟨σ', H', J', q⟩ := hsp
      exact ⟨σ', H', J'.ofTry ok, q⟩
    | cont =>
      obtain ⟨σ', H', J', q⟩ := hsp
      exact ⟨σ', H', J'.ofTry ok, q⟩
    | ret u =>
      obtain ⟨v, σ', H', J', r, q⟩ := hsp
      exact ⟨v, σ', H', J'.ofTry ok, r, q⟩
end

end L2
/-! DL21: except clauses with names, what is asked of the exception held. -/
namespace DL
open PySem PySem.Spec PyProof.Rows L2

/-! ### the class -/
structure XfC (K : PySem.W.Frag) (C : Addr) : Prop where
  ga : PySem.W.findIn K (.ref C) "__getattribute__" = some (some (.builtin "BaseException.__getattribute__"))
  gg : PySem.W.findIn K (.ref C) "__getattr__" = some none
  exC : PySem.W.subIn K (.ref C) (.type "BaseException") = some true
  hdC : PySem.W.hasDictIn K C = true
  cl : (PySem.W.clsIn K C).isSome = true
  ha : PySem.W.findIn K (.ref C) "__class__" = some (some (.builtin "object.__class__"))
  hn : PySem.W.specialIn K (.builtin "object.__class__") "__get__" = some (some (.builtin "getset_descriptor.__get__"))
  ht : PySem.W.takesIn K (.builtin "object.__class__") = some true
  hm : PySem.W.mroIn K C (.type "object") = some true
/-- the classes in dom are such, and have no attribute f of their own -/
def XfD (K : PySem.W.Frag) (mg : Str → Option Value) (dom : List Str) (f : Str) : Prop := ∀ x C, dom.contains x = true → mg x = some (.ref C) → XfC K C ∧ PySem.W.findIn K (.ref C) f = some none
def XiD (K : PySem.W.Frag) (mg : Str → Option Value) (dom : List Str) : Prop := ∀ x C, dom.contains x = true → mg x = some (.ref C) → XfC K C
def IsiK (K : PySem.W.Frag) (mg : Str → Option Value) (isi : Str → Str → Option Bool) (x : Str) (c : Value) : Prop := ∀ c' C b, isi c' x = some b → mg c' = some (.ref C) → PySem.W.kitOne K (.ref C) c = some b

/-! ### the slot that holds it -/
def Sx.xh (S : Sx) (K : PySem.W.Frag) (mg : Str → Option Value) (i : Nat) (a : Addr) (x : Xd) (cls : Value) (dd : Option Addr) : Sx := { S with
  Fx := (i, .ref a) :: S.Fx
  An := fun Z H => S.An Z H ∧ Xr K mg Z H x cls dd
  anc := fun _ _ _ _ h g => ⟨S.anc _ _ _ _ h.1 g, h.2.ag g⟩ }
def Bx.xh (B : Bx) (S : Sx) (i : Nat) (Δx : Fl) : Bx := { B with S := S, C := fun _ _ => False, Δx := Δx, F := i :: B.F }
section
variable {K : PySem.W.Frag} {mg : Str → Option Value} {S : Sx} {Δ : Fl} {Z : Addr → Prop} {Γ : Gm} {σ : Sg} {H : Hp} {i : Nat} {a : Addr} {x : Xd} {cls : Value} {dd : Option Addr}
theorem SR.xin (s : SR K mg S Δ Z Γ σ H) (r : Xr K mg Z H x cls dd) (nf : S.Nf i) (hl : i < Δ.length) : SR K mg (S.xh K mg i a x cls dd) Δ Z (Γ.set i none) (σ.set i (some (.ref a))) H := by
  have lg : i < Γ.length := by rw [← s.dl]; exact hl
  have ls : i < σ.length := by rw [← s.len]; exact lg
  have g : ∀ {j : Nat} {e : D}, (Γ.set i none)[j]? = some (some e) → i ≠ j ∧ Γ[j]? = some (some e) := fun {j e} h => by
    by_cases hj : i = j
    · subst hj; rw [List.getElem?_set_self lg] at h; cases h
    · rw [List.getElem?_set_ne hj] at h; exact ⟨hj, h⟩
  refine ⟨by simpa using s.len, by simpa using s.dl, s.zd, s.z0, s.keep, s.new, fun j e he o => ?_, fun j e he o => ?_, fun j k e e' b hjk h1 o1 h2 o2 q => ?_, fun j b m => ?_, ⟨s.an, r⟩, fun j v m => ?_⟩
  · obtain ⟨hj, he⟩ := g he
    rw [List.getElem?_set_ne hj]; exact s.im j e he o
  · obtain ⟨hj, he⟩ := g he
    rw [List.getElem?_set_ne hj]; exact s.ow j e he o
  · obtain ⟨hj, h1⟩ := g h1
    obtain ⟨hk, h2⟩ := g h2
    rw [List.getElem?_set_ne hj] at q
    rw [List.getElem?_set_ne hk]
    exact s.ap j k e e' b hjk h1 o1 h2 o2 q
  · have hj : i ≠ j := fun z => nf.p b (z ▸ m)
    rw [List.getElem?_set_ne hj, List.getElem?_set_ne hj]
    exact s.par j b m
  · rcases List.mem_cons.mp m with e | m
    · cases e; exact List.getElem?_set_self ls
    · have hj : i ≠ j := fun z => nf.f v (z ▸ m)
      rw [List.getElem?_set_ne hj]; exact s.fx j v m
theorem SR.xout (s : SR K mg (S.xh K mg i a x cls dd) Δ Z Γ σ H) (nf : S.Nf i) : SR K mg S Δ Z (Γ.set i none) (σ.set i none) H := by
  have g : ∀ {j : Nat} {e : D}, (Γ.set i none)[j]? = some (some e) → i ≠ j ∧ Γ[j]? = some (some e) := fun {j e} h => by
    by_cases hj : i = j
    · subst hj
      by_cases hil : i < Γ.length
      · rw [List.getElem?_set_self hil] at h; cases h
      · rw [List.getElem?_eq_none (by simpa using hil)] at h; cases h
    · rw [List.getElem?_set_ne hj] at h; exact ⟨hj, h⟩
  refine ⟨by simpa using s.len, by simpa using s.dl, s.zd, s.z0, s.keep, s.new, fun j e he o => ?_, fun j e he o => ?_, fun j k e e' b hjk h1 o1 h2 o2 q => ?_, fun j b m => ?_, s.an.1, fun j v m => ?_⟩
  · obtain ⟨hj, he⟩ := g he
    rw [List.getElem?_set_ne hj]; exact s.im j e he o
  · obtain ⟨hj, he⟩ := g he
    rw [List.getElem?_set_ne hj]; exact s.ow j e he o
  · obtain ⟨hj, h1⟩ := g h1
    obtain ⟨hk, h2⟩ := g h2
    rw [List.getElem?_set_ne hj] at q
    rw [List.getElem?_set_ne hk]
    exact s.ap j k e e' b hjk h1 o1 h2 o2 q
  · have hj : i ≠ j := fun z => nf.p b (z ▸ m)
    rw [List.getElem?_set_ne hj, List.getElem?_set_ne hj]
    exact s.par j b m
  · have hj : i ≠ j := fun z => nf.f v (z ▸ m)
    rw [List.getElem?_set_ne hj]; exact s.fx j v (List.mem_cons_of_mem _ m)
theorem SR.xoff (s : SR K mg (S.xh K mg i a x cls dd) Δ Z Γ σ H) : SR K mg S Δ Z Γ σ H := ⟨s.len, s.dl, s.zd, s.z0, s.keep, s.new, s.im, s.ow, s.ap, s.par, s.an.1, fun j v m => s.fx j v (List.mem_cons_of_mem _ m)⟩
end

/-! ### the clauses -/
def goneS (i : Nat) : SE → SE
  | .nx Γ => .nx (Γ.set i none)
  | .bk Γ => .bk (Γ.set i none)
  | .ct Γ => .ct (Γ.set i none)
  | .rt d Γ => .rt d Γ
  | .ex x Γ => .ex x Γ
  | .no => .no
def mHdsE (isa : Str → Str → Option Bool) : List (Str × (Xd → Gm → SE)) → Xd → Gm → SE
  | [], x, Γ => .ex x Γ
  | (c, m) :: l, x, Γ => match isa x.c c with
    | some true => m x Γ
    | some false => mHdsE isa l x Γ
    | none => .no
def tryE (isa : Str → Str → Option Bool) (hs : List (Str × (Xd → Gm → SE))) : SE → SE
  | .ex x Γ1 => mHdsE isa hs x Γ1
  | r => r
def mTryE (isa : Str → Str → Option Bool) (m : Gm → SE) (hs : List (Str × (Xd → Gm → SE))) : Gm → SE := fun Γ => tryE isa hs (m Γ)
inductive HdE (X : Cx) (B : Bx) (isa : Str → Str → Option Bool) (Δx Δ1 : Fl) : List ExceptHandler → List (Str × (Xd → Gm → SE)) → Prop
  | nil : HdE X B isa Δx Δ1 [] []
  | cons {x : Str} {c : Value} {m : Gm → SE} {b₀ : Stmt} {suite : List Stmt} {np pos' : Pos} {hds : List ExceptHandler} {l : List (Str × (Xd → Gm → SE))} (hc : Names X x c) (hi : IsaC X.K X.mg isa x c)
      (hsu : ∀ (a : Addr) (oe : Obj) (pn : List (Addr × Obj)), DSs (X.suite a ((a, oe) :: pn)) (B.hd Δx) Δx (b₀ :: suite) m Δ1) (r : HdE X B isa Δx Δ1 hds l) :
      HdE X B isa Δx Δ1 (.ExceptHandler (some (.Name x np)) none (b₀ :: suite) pos' :: hds) ((x, fun _ Γ => noEx (m Γ)) :: l)
  | as {x n : Str} (i : Nat) {c : Value} {m : Xd → Gm → SE} {b₀ : Stmt} {suite : List Stmt} {np pos' : Pos} {hds : List ExceptHandler} {l : List (Str × (Xd → Gm → SE))} (hn : X.N[i]? = some n) (hln : X.env.kindOf n = some .local) (hf : B.nf i = false) (hil : i < Δx.length) (hc : Names X x c) (hi : IsaC X.K X.mg isa x c)
      (hsu : ∀ (a : Addr) (oe : Obj) (cls : Value) (dd : Option Addr) (pn : List (Addr × Obj)) (xd : Xd), Zc cls dd oe → (∃ vs, oe.data = .fields vs) → DSs (X.suite a ((a, oe) :: pn)) (B.xh (B.S.xh X.K X.mg i a xd cls dd) i Δx) Δx (b₀ :: suite) (m xd) Δ1) (r : HdE X B isa Δx Δ1 hds l) :
      HdE X B isa Δx Δ1 (.ExceptHandler (some (.Name x np)) (some n) (b₀ :: suite) pos' :: hds) ((x, fun xd Γ => goneS i (noEx (m xd (Γ.set i none)))) :: l)
section
variable {X : Cx} {B : Bx} {isa : Str → Str → Option Bool} {Δ Δ1 Δx : Fl} {body : List Stmt} {h₀ : ExceptHandler} {hds : List ExceptHandler} {l : List (Str × (Xd → Gm → SE))} {pos : Pos} {m : Gm → SE} {k : Nat}
theorem hdsE_ok (ob : Okb B) (hh : HdE X B isa Δx Δ1 hds l) : ∃ L, HdsMix X hds L ∧ ∀ (Wout : WX) (Dn : Ends) (Z0 : Addr → Prop) (H0 : Hp) (x : Xd) (Γ : Gm) Z σ H cls dd, (∀ Γ cls dd, SR X.K X.mg B.S Δx Z Γ σ H → Xr X.K X.mg Z H x cls dd → B.C x Γ → Wout cls dd σ H) →
    SR X.K X.mg B.S Δx Z Γ σ H → Ag Z0 Z H0 H → Xr X.K X.mg Z H x cls dd → SPost X.K X.mg B Δ1 Dn Z0 H0 (mHdsE isa l x Γ) → wMix X.K Wout Dn L cls dd σ H := by
  induction hh with
  | nil => exact ⟨[], .nil, fun Wout Dn Z0 H0 x Γ Z σ H cls dd hw s g r h => hw Γ cls dd s r h⟩
  | @cons x c m b₀ suite np pos' hds l hc hi hsu r ih =>
    obtain ⟨L, hL, q⟩ := ih
    refine ⟨(c, none, tsH X B Δx Δ1 m) :: L, .cons hc (fun a oe cls d pn _ _ => hsu a oe pn) hL, fun Wout Dn Z0 H0 xd Γ Z σ H cls dd hw s g rx h => ?_⟩
    unfold mHdsE at h
    obtain ⟨C, e1, e2, e3⟩ := id rx
    cases ei : isa xd.c x with
    | none => rw [ei] at h; exact h.elim
    | some b =>
      rw [ei] at h
      refine ⟨b, by rw [e1]; exact hi _ _ _ ei e2, fun hb a _ => ?_, fun hb => ?_⟩
      · subst hb
        refine ⟨Z, Γ, s, ?_⟩
        have h := h.from g
        dsimp only at h
        cases em : m Γ with
        | ex _ _ => rw [em] at h; exact h.elim
        | nx _ => rw [em] at h; exact h
        | rt _ _ => rw [em] at h; exact h
        | bk _ => rw [em] at h; exact h
        | ct _ => rw [em] at h; exact h
        | no => rw [em] at h; exact h
      · subst hb
        exact q Wout Dn Z0 H0 xd Γ Z σ H cls dd hw s g rx h
  | @as x n i c m b₀ suite np pos' hds l hn hln hf hil hc hi hsu r ih =>
    obtain ⟨L, hL, q⟩ := ih
    refine ⟨(c, some i, fun a cls dd Dn σ H => ∃ xd, rdS X.K X.mg (B.xh (B.S.xh X.K X.mg i a xd cls dd) i Δx) Δx (m xd) Δ1 Dn σ H) :: L,
      .as hn hln hc (fun a oe cls d pn hz hd => ⟨fun pins s σ H Dn I ⟨xd, h⟩ => (hsu a oe cls d pn xd hz hd).run pins s σ H Dn I h⟩) hL, fun Wout Dn Z0 H0 xd Γ Z σ H cls dd hw s g rx h => ?_⟩
    unfold mHdsE at h
    obtain ⟨C, e1, e2, e3⟩ := id rx
    have nf := ob.no hf
    cases ei : isa xd.c x with
    | none => rw [ei] at h; exact h.elim
    | some b =>
      rw [ei] at h
      refine ⟨b, by rw [e1]; exact hi _ _ _ ei e2, fun hb a _ => ?_, fun hb => ?_⟩
      · subst hb
        refine ⟨xd, Z, Γ.set i none, s.xin rx nf hil, ?_⟩
        have h := h.from g
        dsimp only at h
        cases em : m xd (Γ.set i none) with
        | ex _ _ => rw [em] at h; exact h.elim
        | nx _ => rw [em] at h; exact fun Z' σ' H' s' g' => h Z' _ H' (s'.xout nf) g'
        | rt _ _ => rw [em] at h; exact fun Z' σ' H' v s' r' => h Z' σ' H' v s'.xoff r'
        | bk _ => rw [em] at h; exact fun Z' σ' H' s' g' => h Z' _ H' (s'.xout nf) g'
        | ct _ => rw [em] at h; exact fun Z' σ' H' s' g' => h Z' _ H' (s'.xout nf) g'
        | no => rw [em] at h; exact h
      · subst hb
        exact q Wout Dn Z0 H0 xd Γ Z σ H cls dd hw s g rx h
theorem ds_tryE (bd : Body X B k) (hs : X.stack = X.env :: X.outer) (hf : X.env.frame = some X.env.locals) (hN : X.N.Nodup)
    (hb : ∀ (pn : List (Addr × Obj)) (xe : Value → Shared → Prop) (S : Sx) (C : Xd → Gm → Prop), Body (X.tr pn xe) (B.tr S C Δx) k → DSs (X.tr pn xe) (B.tr S C Δx) Δ body m Δ1)
    (hh : HdE X B isa Δx Δ1 (h₀ :: hds) l) (hx : sub B.Δx Δx = true := by rfl) (hP : (B.P.all fun i => B.Δx[i]? == some true) = true := by rfl) : DS X B Δ (.Try body (h₀ :: hds) [] [] pos) (mTryE isa m l) Δ1 := by
  obtain ⟨Wout, tw, hw⟩ := bd.tk
  obtain ⟨L, hL, q⟩ := hdsE_ok bd.ob hh
  have hP' := bd.ob.pm.own hP
  refine (ps_try_mix (tb := fun W => fun D σ H => ∃ S C, (PMs S B.P ∧ ∀ i v, (i, v) ∈ S.Fx → i ∈ B.F) ∧ (∀ x Γ Z σ H cls dd, SR X.K X.mg S Δx Z Γ σ H → Xr X.K X.mg Z H x cls dd → C x Γ → W cls dd σ H) ∧ rdS X.K X.mg (B.tr S C Δx) Δ m Δ1 D σ H) hs hf hN tw (fun W pn xe tk po => ?_) hL).weak fun Dn σ H ⟨Z, Γ, s, h⟩ => ?_
  · exact ⟨fun pins s σ H D I ⟨S, C, pm, cw, h⟩ => (hb pn xe S C ⟨⟨pm.1, bd.ob.lt, pm.2⟩, ⟨W, tk, cw⟩, po, bd.rm⟩).run pins s σ H D I h⟩
  · refine ⟨B.S.at_ Z H, fun x Γ1 => SPost X.K X.mg B Δ1 Dn Z H (mHdsE isa l x Γ1), ⟨bd.ob.pm, bd.ob.fx⟩, fun x Γ1 Z1 σ1 H1 cls dd s1 r1 c => ?_, Z, Γ, s.to_at, ?_⟩
    · obtain ⟨s2, g2⟩ := s1.of_at
      exact q Wout Dn Z H x Γ1 Z1 σ1 H1 cls dd (fun Γ cls dd s r c => TkC.out hw s hx hP' r c) s2 g2 r1 c
    · unfold mTryE tryE at h
      cases em : m Γ with
      | ex x Γ1 => rw [em] at h; exact h
      | nx Γ1 => rw [em] at h; exact fun Z' σ' H' s' g => h Z' σ' H' s'.of_at.1 g
      | rt d Γ1 => rw [em] at h; exact fun Z' σ' H' v s' r => h Z' σ' H' v s'.of_at.1 (rt_at r)
      | bk Γ1 => rw [em] at h; exact fun Z' σ' H' s' g => h Z' σ' H' s'.of_at.1 g
      | ct Γ1 => rw [em] at h; exact fun Z' σ' H' s' g => h Z' σ' H' s'.of_at.1 g
      | no => rw [em] at h; exact h
end

/-! ### what is asked of the exception held -/
def mXf (dom : List Str) (x : Xd) (f : Str) : Gm → R D := fun Γ => if dom.contains x.c = true then R.of (x.fs.lookup f) Γ else .no
def mXi (isi : Str → Str → Option Bool) (dom : List Str) (x : Xd) (c : Str) : Gm → R D := fun Γ => if dom.contains x.c = true then R.of ((isi x.c c).map D.bl) Γ else .no
section
variable {X : Cx} {S S0 : Sx} {C : Xd → Gm → Prop} {Δ : Fl} {i : Nat} {a : Addr} {oe : Obj} {cls : Value} {dd : Option Addr} {pn : List (Addr × Obj)} {x : Xd} {dom : List Str} {f n : Str} {pos p p2 p3 : Pos}
theorem de_xf (hz : Zc cls dd oe) (hf : ∃ vs, oe.data = .fields vs) (hd : XfD X.K X.mg dom f) (hi : X.N[i]? = some n := by rfl) (hv : Vis X.env.scope n := by first | exact Or.inl rfl | exact Or.inr (Or.inl rfl) | exact Or.inr (Or.inr rfl)) (hdb : (n == ("__debug__" : Str)) = false := by decide) (hcd : (n == ("__classdict__" : Str)) = false := by decide)
    (hb : attributeBase (.Name n p) f X.env (eval (.Name n p) X.env) = eval (.Name n p) X.env := by rfl) : DE (X.suite a ((a, oe) :: pn)) (S0.xh X.K X.mg i a x cls dd) C Δ (.Attribute (.Name n p) f pos) (mXf dom x f) Δ .im := by
  refine ⟨fun pins s σ H Q I ⟨Z, Γ, sr, h⟩ => ?_⟩
  have hσ : σ[i]? = some (some (V.ref a)) := sr.fx i _ (List.mem_cons_self ..)
  have he : PE (X.suite a ((a, oe) :: pn)) (.Name n p) (tVar i) := pe_var hi hv hdb hcd
  refine attr_of hb (thn (he.run pins s σ H (fun v H1 => v = .ref a ∧ H1 = H) I ⟨_, hσ, rfl, rfl⟩) fun u s1 hh => ?_)
  obtain ⟨v, H1, I1, rx, rfl, rfl⟩ := hh
  obtain rfl : u = Value.ref a := rx
  unfold mXf at h
  split at h
  · rename_i hc
    obtain ⟨u, hu, hq⟩ := h.of
    obtain ⟨D0, e1, e2, e3⟩ := sr.an.2
    rcases e3 with ⟨e3, _⟩ | ⟨d, fs, e3, e4, z, rf⟩
    · rw [e3] at hu; cases hu
    · obtain ⟨w, hw, rw_⟩ := rf.lookup hu
      obtain ⟨T, noN⟩ := hd _ _ hc e2
      obtain ⟨ha, _⟩ := I1.pin (a, oe) (List.mem_append_left _ List.mem_cons_self)
      obtain ⟨vs, hdt⟩ := hf
      have hx : ObjOk X.prog X.w H1 s1.heap d (.xd fs) := I1.hok d _ e4
      obtain ⟨mA, hns, hr⟩ := hx
      obtain ⟨od, ho, hl⟩ := lookIn_ns hns
      obtain ⟨u', hu', ru⟩ := RelO.some_of (v := w) (o := mA f) (by rw [← hw]; exact hr f)
      have J : PySem.W.InstAt s1.heap a oe D0 (some od) := ⟨ha, by rw [hz.1, e1], by unfold PySem.W.notCls; rw [hdt] <;> rfl, by rw [hz.2, e3]; exact ho⟩
      exact HandSPX.exc_get I1.kIn J T.ga T.gg T.exC (PySem.W.findObj_own T.hdC noN rfl (by rw [hl, hu'])) (handed_of ru) ⟨w, H1, I1.tok _, ru, hq Z H1 w (Go.refl sr) rw_⟩
  · exact h.elim
def rIsH (K : PySem.W.Frag) (D0 a : Addr) (dd : Option Addr) : List V → Hp → VK → Prop := fun xs H Q => ∃ (c : V) (cv : Value) (b : Bool), xs = [.ref a, c] ∧ (∀ u, RelV c u → u = cv) ∧ (∀ d, dd = some d → ∃ fs, H d = some (.xd fs)) ∧ PySem.W.kitOne K (.ref D0) cv = some b ∧ Q (.bl b) H
theorem call_isH {D0 : Addr} (T : XfC X.K D0) (hz : Zc (.ref D0) dd oe) (hf : ∃ vs, oe.data = .fields vs) : CallR (X.suite a ((a, oe) :: pn)) (.builtin "isinstance") (rIsH X.K D0 a dd) := by
  intro pins s σ H xs us Q I r h
  obtain ⟨c, cv, b, rfl, hcv, hdd, e, q⟩ := h
  obtain ⟨u1, u2, rfl, rx, rt⟩ := vals2 r
  cases rx
  have ec := hcv _ rt
  subst ec
  obtain ⟨hget, _⟩ := I.pin (a, oe) (List.mem_append.mpr (.inl List.mem_cons_self))
  obtain ⟨vs, hv⟩ := hf
  have J : ∃ od, PySem.W.InstAt s.heap a oe D0 od := by
    cases dd with
    | none => exact ⟨none, hget, hz.1, by unfold PySem.W.notCls; rw [hv] <;> rfl, by rw [hz.2]; trivial⟩
    | some d =>
      obtain ⟨fs, ed⟩ := hdd d rfl
      have hx : ObjOk X.prog X.w H s.heap d (.xd fs) := I.hok d _ ed
      obtain ⟨mA, hns, hr⟩ := hx
      obtain ⟨od, ho, hl⟩ := lookIn_ns hns
      exact ⟨some od, hget, hz.1, by unfold PySem.W.notCls; rw [hv] <;> rfl, by rw [hz.2]; exact ho⟩
  obtain ⟨od, J⟩ := J
  exact PySem.W.kia_one (PySem.W.kitx_exc T.cl T.ga T.gg T.exC T.ha T.hn T.ht T.hm) I.kIn J e (fun z => nomatch z) fun tk => ⟨.bl b, H, I.kept (t' := tk) fun _ _ z => z, rfl, q⟩
theorem de_xi {isi : Str → Str → Option Bool} {c : Str} {cv : Value} {v : V} (hz : Zc cls dd oe) (hf : ∃ vs, oe.data = .fields vs) (hd : XiD X.K X.mg dom) (hik : IsiK X.K X.mg isi c cv) (hpc : PE (X.suite a ((a, oe) :: pn)) (.Name c p3) (tC v)) (hcv : ∀ u, RelV v u → u = cv) (hm : X.mg "isinstance" = none)
    (hi : X.N[i]? = some n := by rfl) (hv : Vis X.env.scope n := by first | exact Or.inl rfl | exact Or.inr (Or.inl rfl) | exact Or.inr (Or.inr rfl)) (hdb : (n == ("__debug__" : Str)) = false := by decide) (hcd : (n == ("__classdict__" : Str)) = false := by decide) (hg : Gl X "isinstance" := by rfl)
    (he : starEach [Expr.Name n p2, .Name c p3] X.env = (false, eval (Expr.Name n p2) X.env) :: starEach [Expr.Name c p3] X.env := by rfl) (he2 : starEach [Expr.Name c p3] X.env = (false, eval (Expr.Name c p3) X.env) :: starEach [] X.env := by rfl) (hpl : (backTo pos (starEach [Expr.Name c p3] X.env)).any (·.1) = false := by rfl) :
    DE (X.suite a ((a, oe) :: pn)) (S0.xh X.K X.mg i a x cls dd) C Δ (.Call (.Name "isinstance" p) [.Name n p2, .Name c p3] [] pos) (mXi isi dom x c) Δ .im := by
  refine ⟨fun pins s σ H Q I ⟨Z, Γ, sr, h⟩ => ?_⟩
  unfold mXi at h
  split at h
  · rename_i hc
    obtain ⟨u, hu, hq⟩ := h.of
    obtain ⟨D0, e1, e2, e3⟩ := sr.an.2
    have T := hd _ _ hc e2
    subst e1
    obtain ⟨b, hb, rfl⟩ := Option.map_eq_some_iff.mp hu
    have hσ : σ[i]? = some (some (V.ref a)) := sr.fx i _ (List.mem_cons_self ..)
    have hvar : PE (X.suite a ((a, oe) :: pn)) (.Name n p2) (tVar i) := pe_var hi hv hdb hcd
    refine (pe_callB (X := X.suite a ((a, oe) :: pn)) (call_isH T hz hf) hg hm PyProof.Rows.Boot.«isinstance» (pa_cons hvar (pa_cons hpc pa_nil he2) he) (by decide) (by decide) he hpl).run pins s σ H Q I ?_
    refine ⟨_, hσ, v, cv, b, rfl, hcv, fun d ed => ?_, hik _ _ _ hb e2, hq Z H _ (Go.refl sr) (.bl b)⟩
    rcases e3 with ⟨_, e3⟩ | ⟨d', fs, e3, e4, _⟩
    · rw [ed] at e3; cases e3
    · rw [ed] at e3; cases e3; exact ⟨fs, e4⟩
  · exact h.elim
end
end DL
/-! DL22: products of tuples and texts. -/
namespace L2
open PySem PySem.Spec PyProof.Rows
theorem tmul_none (l : Addr) (items : Array Value) (n : Nat) (dd : Option Addr) (sl : Array (Option Value)) (x : Int) (u : Tok) (c0 : (decide (x < -(2 ^ 63)) || decide (x ≥ 2 ^ 63)) = false) (c1 : (items.isEmpty || x == 1) = false) (c2 : (decide (x ≤ 0) || items.isEmpty) = true) :
    Meets (Builtin.«tuple.__mul__» ⟨[.ref l, .int x u], []⟩) (fun _ R s => s.heap.get? l = some { cls := .type "tuple", dict := dd, data := .seq items n, slots := sl } ∧
      R (.ok (.ret (Value.ref s.heap.objs.size))) { s with heap := s.heap.push { cls := Value.type "tuple", data := Data.seq #[] }, toks := s.toks }) :=
  .of_wp fun prog w A R s h => by
    obtain ⟨hp, g, d, tk, os⟩ := s
    obtain ⟨hl, h⟩ := h
    have f1 := AutoSeq1.idx_int
    wp_walk using wpAny_loadPart' hl
    repeat (first
      | (refine wpAny_ite_false (decide_eq_false (by rw [c0]; exact Bool.false_ne_true)) ?_; wp_walk using wpAny_loadPart' hl)
      | (refine wpAny_ite_false (decide_eq_false (by rw [c1]; exact Bool.false_ne_true)) ?_; wp_walk using wpAny_loadPart' hl)
      | (refine wpAny_ite_true (decide_eq_true (by rw [c2])) ?_; wp_walk using wpAny_loadPart' hl))
    exact ⟨_, rfl, h⟩
theorem tmul_same (l : Addr) (items : Array Value) (n : Nat) (dd : Option Addr) (sl : Array (Option Value)) (x : Int) (u : Tok) (c0 : (decide (x < -(2 ^ 63)) || decide (x ≥ 2 ^ 63)) = false) (c1 : (items.isEmpty || x == 1) = true) :
    Meets (Builtin.«tuple.__mul__» ⟨[.ref l, .int x u], []⟩) (fun _ R s => s.heap.get? l = some { cls := .type "tuple", dict := dd, data := .seq items n, slots := sl } ∧ R (.ok (.ret (Value.ref l))) s) :=
  .of_wp fun prog w A R s h => by
    obtain ⟨hp, g, d, tk, os⟩ := s
    obtain ⟨hl, h⟩ := h
    have f1 := AutoSeq1.idx_int
    wp_walk using wpAny_loadPart' hl
    repeat (first
      | (refine wpAny_ite_false (decide_eq_false (by rw [c0]; exact Bool.false_ne_true)) ?_; wp_walk using wpAny_loadPart' hl)
      | (refine wpAny_ite_true (decide_eq_true (by rw [c1])) ?_; wp_walk using wpAny_loadPart' hl))
    exact ⟨_, rfl, h⟩
end L2
namespace L2
open PySem PySem.Spec PyProof.Rows
/-- a text's signs, each in a new pair -/
def Itx (x : Str) : It := ⟨fun i _ => i < x.cps.size, fun i H v H' => ∃ T c, v = .ref T ∧ H T = none ∧ H' = upd H T (.tup [.int (i : Nat), .str ⟨#[c]⟩]) ∧ x.cps[i]? = some c, fun i _ => x.cps.size ≤ i⟩
theorem isStrIter_at {h h' : Heap} {it : Addr} {ty : String} {x : Str} {t : Tok} {i : Nat} (a : h.IsStrIter it ty x t i) (k : ∀ o, h.get? it = some o → h'.get? it = some o) : h'.IsStrIter it ty x t i := by
  obtain ⟨o, ho, r⟩ := a
  exact ⟨o, k o ho, r⟩
theorem turn_enumX {P : Program} {w : World} {K : PySem.W.Frag} {elts : List Expr} {kk : Nat} {tpos : Pos} (e it : Addr) (z : Str) (t : Tok) :
    Turn P w K (.Tuple elts kk tpos) (Itx z) [e, it] e (fun i h => (∃ old, IsEnum h e it ((i : Nat) : Int) old) ∧ h.IsStrIter it (strIterType z) z t i ∧ e ≠ it ∧ i ≤ z.cps.size) where
  mem := by simp
  obj := fun i h st b hb => by
    obtain ⟨⟨old, he⟩, ⟨o, ho, hc, hd⟩, _⟩ := st
    have e' : b = e ∨ b = it := by simpa using hb
    rcases e' with q | q
    · rw [q]; exact ⟨_, he, fun v q => nomatch q⟩
    · rw [q]; exact ⟨o, ho, fun v q => by rw [hd] at q; cases q⟩
  keep := fun i h h' st k => let ⟨⟨old, he⟩, hi, hne, hn⟩ := st; ⟨⟨old, k e (by simp) _ he⟩, isStrIter_at hi fun o q => k it (by simp) o q, hne, hn⟩
  item := by
    intro X hP hw hK hc i pins s σ H E I hf st hg
    subst hP hw hK
    obtain ⟨⟨old, he⟩, hit, hne, hn⟩ := st
    have hlt : i < z.cps.size := hg
    have hel : e < s.heap.objs.size := Heap.lt_size he
    have hil : it < s.heap.objs.size := by obtain ⟨_, q, _⟩ := hit; exact Heap.lt_size q
    have D := Draws.text (prog := X.prog) (w := X.w) (A := X.A.in1) (show X.A.in1.handled = none from I.ok.hd hc) it z t
    refine wpAny_pyNext_enum_itemD D he hit hlt hne (by simp [hne]) fun x' h' tk hPx ho hit' hT hsz hk => ?_
    obtain ⟨c, u, hcu, rfl⟩ := hPx
    refine ⟨_, rfl, wpAny_letOwnedTupleGo_enum (s := { s with heap := h', toks := tk + 1 }) ho fun h'' he' sb => ?_⟩
    have hT2 : h''.get? s.heap.objs.size = some { cls := .type "tuple", data := .seq #[.int i tk, .str ⟨#[c]⟩ u] } := (sb.2 _ (Nat.ne_of_gt hel)).trans hT
    have new : ObjOk X.prog X.w (upd H s.heap.objs.size (.tup [.int (i : Nat), .str ⟨#[c]⟩])) h'' s.heap.objs.size (.tup [.int (i : Nat), .str ⟨#[c]⟩]) :=
      ⟨by show 2 ≤ sizeLine; decide, [.int i tk, .str ⟨#[c]⟩ u], .cons ⟨_, rfl⟩ (.cons ⟨_, rfl⟩ .nil), ⟨_, hT2, rfl, _, rfl⟩⟩
    have I1 : Inv X pins σ (upd H s.heap.objs.size (.tup [.int (i : Nat), .str ⟨#[c]⟩])) { s with heap := h'', toks := tk + 1 } :=
      I.turnedNew (ch := [e, it]) (fun b ob hb q => (sb.2 b (fun z => hb (by simp [z]))).trans (hk b ob (fun z => hb (by simp [z])) (fun z => hb (by simp [z])) q)) hf (Nat.le_refl _) new
    refine ⟨.ref s.heap.objs.size, _, I1, rfl, ⟨_, c, rfl, I.hok.fresh (Nat.le_refl _), rfl, hcu⟩, ⟨⟨.str ⟨#[c]⟩ u, ?_⟩, isStrIter_at hit' fun o q => (sb.2 it (Ne.symm hne)).trans q, hne, hlt⟩, fun b hb => ?_⟩
    · have e1 : ((i + 1 : Nat) : Int) = (i : Int) + 1 := by omega
      rw [e1]; exact he'
    · have hb' : b < s.heap.objs.size := by
        have e' : b = e ∨ b = it := by simpa using hb
        rcases e' with q | q
        · rw [q]; exact hel
        · rw [q]; exact hil
      rw [upd_ne (Nat.ne_of_lt hb')]
      exact (hf b hb).1
  done := by
    intro X hP hw hK hc i pins s σ H E I hf st hg
    subst hP hw hK
    obtain ⟨⟨old, he⟩, hit, hne, hn⟩ := st
    have hg : z.cps.size ≤ i := hg
    obtain ⟨f0, f1, f2, f3, f4, f5⟩ := hf it (by simp)
    have D := Draws.text (prog := X.prog) (w := X.w) (A := X.A.in1) (show X.A.in1.handled = none from I.ok.hd hc) it z t
    have hi : i = z.cps.size := by omega
    subst hi
    exact wpAny_pyNext_enum_endD D he hit fun h' eb => ⟨rfl, I.turned (t' := s.toks) (fun b o hb q => eb b o hb q) f0 f1 f3 f4 f5⟩
  self := fun A i s Q E st h => let ⟨⟨_, he⟩, _⟩ := st; wpAny_pyIter_enum he h
def iEnumX (K : PySem.W.Frag) (ta : TA) : TI := fun σ H R => ta σ H fun vs H1 => (∃ a xs, vs = [.ref a] ∧ ((SqL K H1 a xs ∧ R (Ite K a) H1) ∨ (SqT K H1 a xs ∧ R (Itet K a xs.length) H1))) ∨ ∃ z, vs = [.str z] ∧ R (Itx z) H1
theorem pi_enumX {X : Cx} {e : Expr} {ta : TA} {p pos tpos : Pos} {elts : List Expr} {kk : Nat} (hg : Gl X "enumerate") (hm : X.mg "enumerate" = none) (ha : PA X [e] ta) (hs : starEach [e] X.env = [(false, eval e X.env)] := by rfl) :
    PI X (.Tuple elts kk tpos) (.Call (.Name "enumerate" p) [e] [] pos) (iEnumX X.K ta) := by
  refine ⟨fun pins s σ H R I h => ?_⟩
  refine Call_ (ld_blt I hg hm boot_enumerate (PyProof.Rows.callWith_type1 (thn (ha.run pos pins s σ H _ I h) fun us s1 ⟨vs, H1, I1, r1, q1⟩ => ?_) hs rfl))
  have fin : ∀ b, b ∈ [s1.heap.objs.size + 1, s1.heap.objs.size] → s1.heap.objs.size ≤ b := fun b hb => by
    have e' : b = s1.heap.objs.size + 1 ∨ b = s1.heap.objs.size := by simpa using hb
    rcases e' with z | z
    · rw [z]; exact Nat.le_add_right _ _
    · rw [z]; exact Nat.le_refl _
  rcases q1 with ⟨a, xs, ex, q⟩ | ⟨z, ex, q⟩
  · subst ex
    cases r1 with
    | cons r rr =>
    cases rr
    cases r
    rcases q with ⟨hq, q⟩ | ⟨hq, q⟩
    · obtain ⟨its, rv, p', hz⟩ := I1.list hq
      refine call_enumerate_list p'.isList fun h' he hit hsz hk => wpAny_pyIter_enum he ?_
      have I2 : Inv X pins σ H1 { s1 with heap := h' } := I1.kept (t' := s1.toks) hk
      exact ⟨s1.heap.objs.size + 1, [s1.heap.objs.size + 1, s1.heap.objs.size], _, _, H1, rfl, I2, turn_enum a (s1.heap.objs.size + 1) s1.heap.objs.size, ⟨⟨.none, he⟩, hit, Nat.succ_ne_self _⟩, fun b hb => I1.fpOk (fin b hb) (I1.hok.fresh (fin b hb)), q⟩
    · obtain ⟨its, rv, p', hz⟩ := I1.tuple hq
      have hlt : a < s1.heap.objs.size := by obtain ⟨_, e, _⟩ := p'; exact Heap.lt_size e
      refine PySem.DLE.enum_begins1 (PySem.begins_tuple a its.toArray) p' fun h' he hit hsz hk => wpAny_pyIter_enum he ?_
      have I2 : Inv X pins σ H1 { s1 with heap := h' } := I1.kept (t' := s1.toks) hk
      exact ⟨s1.heap.objs.size + 1, [s1.heap.objs.size + 1, s1.heap.objs.size], _, _, H1, rfl, I2, turn_enumT a (s1.heap.objs.size + 1) s1.heap.objs.size xs.length (Nat.ne_of_lt hlt) (Nat.ne_of_lt (Nat.lt_succ_of_lt hlt)), ⟨⟨.none, he⟩, ⟨_, hit, rfl, rfl⟩, Nat.succ_ne_self _, Nat.zero_le _⟩, fun b hb => I1.fpOk (fin b hb) (I1.hok.fresh (fin b hb)), q⟩
  · subst ex
    cases r1 with
    | cons r rr =>
    cases rr
    obtain ⟨t, rfl⟩ := r
    refine call_enumerate_str fun h' he hit hsz hk => wpAny_pyIter_enum he ?_
    have I2 : Inv X pins σ H1 { s1 with heap := h' } := I1.kept (t' := s1.toks) hk
    exact ⟨s1.heap.objs.size + 1, [s1.heap.objs.size + 1, s1.heap.objs.size], _, _, H1, rfl, I2, turn_enumX (s1.heap.objs.size + 1) s1.heap.objs.size z t, ⟨⟨.none, he⟩, hit, Nat.succ_ne_self _, Nat.zero_le _⟩, fun b hb => I1.fpOk (fin b hb) (I1.hok.fresh (fin b hb)), q⟩
/-- a tuple times a number -/
def rRepA (K : PySem.W.Frag) : R2 := fun x y H Q => ∃ l k xs, x = .ref l ∧ y = .int k ∧ SqT K H l xs ∧ -(2 ^ 63) ≤ k ∧ k ≤ 1000 ∧ xs.length ≤ 1000 ∧ ((k = 1 ∨ xs = []) → Q (.ref l) H) ∧ (k ≠ 1 → xs ≠ [] → ∀ p, H p = none → Q (.ref p) (upd H p (.tup (List.replicate k.toNat xs).flatten)))
theorem op_repA {X : Cx} : OpR X (binaryOp .Mult) (rRepA X.K) := by
  intro pins s σ H x y v u Q I rx ry h
  obtain ⟨l, k, xs, rfl, rfl, hT, hlo, hk, hz, q1, q2⟩ := h
  by_cases h2 : 2 ≤ k ∧ xs ≠ []
  · exact op_repT pins s σ H _ _ v u Q I rx ry ⟨l, k, xs, rfl, rfl, hT, h2.2, h2.1, hk, hz, q2 (by omega) h2.2⟩
  cases rx
  obtain ⟨t, rfl⟩ := ry
  obtain ⟨its, r, ⟨⟨cls, dd, data, sl⟩, ho, hc, n, hd⟩, hs⟩ := I.tuple hT
  simp only at hc hd
  subst hc hd
  have hle : its.length = xs.length := r.length.symm
  have c0 : (decide (k < -(2 ^ 63)) || decide (k ≥ 2 ^ 63)) = false := by
    rw [decide_eq_false (by omega), decide_eq_false (by omega)] <;> rfl
  by_cases hsame : k = 1 ∨ xs = []
  · have c1 : (its.toArray.isEmpty || k == 1) = true := by
      rcases hsame with e | e
      · rw [e]; simp
      · rw [e] at hle
        have : its = [] := List.eq_nil_of_length_eq_zero hle
        subst this; rfl
    refine wpAny_binaryOp_repeat_ref (T := "tuple") (U := "int") (by decide) ⟨_, ho, rfl⟩ (fun s' => typeIs_int s' k t) noFill_tuple_mul F.fills_int_mul F.slot_int_rmul repeat_tuple F.slot_int_index.lookup
      (call_meets F.slot_int_rmul (typeIs_int s k t) F.entry_int_rmul (F.args_int_rmul_2 _ _) (int_rmul_tuple k t l its.toArray n dd sl)
        ⟨ho, rfl, ⟨_, ho, rfl⟩, call_meets F.slot_tuple_mul ⟨_, ho, rfl⟩ F.entry_tuple_mul (F.args_tuple_mul_2 _ _) (tmul_same l its.toArray n dd sl k t c0 c1) ⟨ho, ?_⟩⟩)
    exact ⟨.ref l, H, I, rfl, q1 hsame⟩
  · have hk1 : k ≠ 1 := fun e => hsame (.inl e)
    have hne : xs ≠ [] := fun e => hsame (.inr e)
    have hk0 : k ≤ 0 := by
      have : ¬ 2 ≤ k := fun z => h2 ⟨z, hne⟩
      omega
    have hn : its ≠ [] := fun e => hne (by
      rw [e] at hle
      exact List.eq_nil_of_length_eq_zero hle.symm)
    have hi : its.toArray.isEmpty = false := by
      cases its with
      | nil => exact absurd rfl hn
      | cons a b => rfl
    have c1 : (its.toArray.isEmpty || k == 1) = false := by
      rw [hi, Bool.false_or]
      exact beq_eq_false_iff_ne.mpr hk1
    have c2 : (decide (k ≤ 0) || its.toArray.isEmpty) = true := by rw [decide_eq_true hk0]; rfl
    refine wpAny_binaryOp_repeat_ref (T := "tuple") (U := "int") (by decide) ⟨_, ho, rfl⟩ (fun s' => typeIs_int s' k t) noFill_tuple_mul F.fills_int_mul F.slot_int_rmul repeat_tuple F.slot_int_index.lookup
      (call_meets F.slot_int_rmul (typeIs_int s k t) F.entry_int_rmul (F.args_int_rmul_2 _ _) (int_rmul_tuple k t l its.toArray n dd sl)
        ⟨ho, rfl, ⟨_, ho, rfl⟩, call_meets F.slot_tuple_mul ⟨_, ho, rfl⟩ F.entry_tuple_mul (F.args_tuple_mul_2 _ _) (tmul_none l its.toArray n dd sl k t c0 c1 c2) ⟨ho, ?_⟩⟩)
    have e0 : k.toNat = 0 := by omega
    refine ⟨.ref s.heap.objs.size, _, I.laid (t' := s.toks) (o := .tup []) (fun b ob q => Heap.get?_push_of_some _ q) (Nat.le_refl _) ?_, rfl, ?_⟩
    · exact ⟨Nat.zero_le _, [], .nil, IsTup.new _ _⟩
    · have := q2 hk1 hne _ (I.hok.fresh (Nat.le_refl _))
      rw [e0] at this
      exact this
/-- a text times a number -/
def strMul (s : Str) (k : Int) : Str := if k < 1 then Str.empty else if (k == 1 || s.length == 0) = true then s else ⟨(List.replicate k.toNat s.cps).foldl (· ++ ·) #[]⟩
def rRepS : R2 := fun x y H Q => ∃ z k, x = .str z ∧ y = .int k ∧ -(2 ^ 63) ≤ k ∧ k ≤ 1000 ∧ z.length ≤ 1000 ∧ Q (.str (strMul z k)) H
theorem op_repS {X : Cx} : OpR X (binaryOp .Mult) rRepS := by
  intro pins s σ H x y v u Q I rx ry h
  obtain ⟨z, k, rfl, rfl, hlo, hk, hz, q⟩ := h
  obtain ⟨t, rfl⟩ := rx
  obtain ⟨t', rfl⟩ := ry
  have hb : 1 ≤ k → z.length * k.toNat ≤ 1000000 := fun h1 => by
    have : z.length * k.toNat ≤ 1000 * 1000 := Nat.mul_le_mul hz (by omega)
    omega
  refine PySem.P.mul_str (by rw [decide_eq_false (by omega), decide_eq_false (by omega)] <;> rfl) (fun h1 _ => ?_) (fun h1 _ => ?_) ?_
  · have h2 : (1000 : Int) ≤ (2 ^ 63 - 1) / k := by
      have : (1000 : Int) * k ≤ 2 ^ 63 - 1 := by omega
      exact (Int.le_ediv_iff_mul_le (by omega)).mpr this
    omega
  · have := hb (by omega)
    unfold Builtin.Str.tooLong
    rw [sizeLine_eq]
    exact decide_eq_false (by omega)
  · unfold strMul at q
    by_cases h1 : k < 1
    · rw [if_pos h1] at q ⊢
      exact ⟨by decide, ⟨.str _, H, I.tok _, ⟨_, rfl⟩, q⟩⟩
    · rw [if_neg h1] at q ⊢
      by_cases h2 : (k == 1 || z.length == 0) = true
      · rw [if_pos h2] at q ⊢
        exact ⟨.str _, H, I, ⟨_, rfl⟩, q⟩
      · rw [if_neg h2] at q ⊢
        refine ⟨?_, ⟨.str _, H, I.tok _, ⟨_, rfl⟩, q⟩⟩
        have := hb (by omega)
        have hl : (⟨(List.replicate k.toNat z.cps).foldl (· ++ ·) #[]⟩ : Str).length = z.length * k.toNat := by
          have gen : ∀ (n : Nat) (a : Array Nat), ((List.replicate n z.cps).foldl (· ++ ·) a).size = a.size + z.cps.size * n := by
            intro n
            induction n with
            | zero => intro a; simp
            | succ n ih => intro a; rw [List.replicate_succ, List.foldl_cons, ih, Array.size_append, Nat.mul_succ]; omega
          have := gen k.toNat #[]
          simpa [Str.length] using this
        have h3 : (⟨(List.replicate k.toNat z.cps).foldl (· ++ ·) #[]⟩ : Str).length ≤ sizeLine := by rw [hl, sizeLine_eq]; omega
        first
          | exact h3
          | (unfold Builtin.Str.tooLong; exact decide_eq_false (by omega))
end L2
/-! DL23: texts: walked, counted through, asked, joined; products; {}. -/
namespace DL
open PySem PySem.Spec PyProof.Rows L2
def signsD (s : Str) : List D := s.cps.toList.map fun c => .str ⟨#[c]⟩
def itemsX : D → Option (List D)
  | .str s => some (signsD s)
  | d => itemsD d
def mItX (m : Gm → R D) : Gm → R (List D) := fun Γ => (m Γ).bind fun d Γ1 => R.of (itemsX d) Γ1
def mEnumX (m : Gm → R D) : Gm → R (List D) := fun Γ => (m Γ).bind fun d Γ1 => R.of ((itemsX d).map (enumI 0)) Γ1
theorem signs_len {s : Str} : (signsD s).length = s.cps.size := by simp [signsD]
theorem signs_at {s : Str} {i c : Nat} (h : s.cps[i]? = some c) : (signsD s)[i]? = some (.str ⟨#[c]⟩) := by
  unfold signsD
  rw [List.getElem?_map, Array.getElem?_toList, h]
  rfl
def iSeqX (K : PySem.W.Frag) (tl : TE) : TI := fun σ H R => tl σ H fun x H1 => (∃ a, x = .ref a ∧ (((∃ xs, SqL K H1 a xs) ∧ R (Itl K a) H1) ∨ ((∃ xs, SqT K H1 a xs) ∧ R (Itt K a) H1))) ∨ ∃ z, x = .str z ∧ R (Its z) H1
theorem pi_seqX {X : Cx} {tg l : Expr} {tl : TE} (hl : PE X l tl) : PI X tg l (iSeqX X.K tl) := by
  refine ⟨fun pins s σ H R I h => ?_⟩
  refine thn (hl.run pins s σ H _ I h) fun v s1 ⟨x, H1, I1, r1, q1⟩ => ?_
  rcases q1 with ⟨a, e, q⟩ | ⟨z, e, q⟩
  · subst e
    cases r1
    rcases q with ⟨⟨xs, hq⟩, q⟩ | ⟨⟨xs, hq⟩, q⟩
    · obtain ⟨its, rv, p, hz⟩ := I1.list hq
      refine wpAny_pyIter_list p.isList ?_
      refine ⟨s1.heap.objs.size, [s1.heap.objs.size], _, _, H1, rfl, I1.kept (t' := s1.toks) fun b o e => Heap.get?_push_of_some _ e, turn_list a _, ⟨_, Heap.get?_push_size _ rfl, rfl, rfl⟩, fun b hb => ?_, q⟩
      have e : b = s1.heap.objs.size := by simpa using hb
      subst e
      exact I1.fpOk (Nat.le_refl _) (I1.hok.fresh (Nat.le_refl _))
    · obtain ⟨its, rv, p, hz⟩ := I1.tuple hq
      refine wpAny_pyIter_tuple (show s1.heap.IsTuple a its.toArray from p) ?_
      refine ⟨s1.heap.objs.size, [s1.heap.objs.size], _, _, H1, rfl, I1.kept (t' := s1.toks) fun b o e => Heap.get?_push_of_some _ e, turn_tuple a _, ⟨_, Heap.get?_push_size _ rfl, rfl, rfl⟩, fun b hb => ?_, q⟩
      have e : b = s1.heap.objs.size := by simpa using hb
      subst e
      exact I1.fpOk (Nat.le_refl _) (I1.hok.fresh (Nat.le_refl _))
  · subst e
    obtain ⟨t, rfl⟩ := r1
    cases ha : z.cps.all (· < 128)
    · exact wpAny_pyIter_wide ha (pi_one (tk := s1.toks) I1 _ (turn_str _ z t "str_iterator" (.inr rfl)) ⟨_, Heap.get?_push_size _ rfl, rfl, rfl⟩ q)
    · exact wpAny_pyIter_ascii ha (pi_one (tk := s1.toks) I1 _ (turn_str _ z t "str_ascii_iterator" (.inl rfl)) ⟨_, Heap.get?_push_size _ rfl, rfl, rfl⟩ q)
section
variable {K : PySem.W.Frag} {mg : Str → Option Value} {Z : Addr → Prop} {H : Hp} {z : Str}
theorem its_ok : ItOk K mg Z H (Its z) (signsD z) := fun i Z' H' g zd => by
  refine ⟨fun hi => ?_, fun hi => by rw [signs_len] at hi; exact hi⟩
  rw [signs_len] at hi
  refine ⟨hi, fun x H2 ⟨e, c, hc, ev⟩ => ?_⟩
  subst e; subst ev
  exact ⟨Z', _, signs_at hc, .refl zd, .str _⟩
theorem itx_ok : ItOk K mg Z H (Itx z) (enumI 0 (signsD z)) := fun i Z' H' g zd => by
  rw [enumI_len, signs_len]
  refine ⟨fun hi => ⟨hi, fun v H2 ⟨T, c, e1, n, e2, hc⟩ => ?_⟩, fun hi => hi⟩
  subst e1 e2
  obtain ⟨Z2, g2, r2⟩ := pair_rp (i := i) (d := .str ⟨#[c]⟩) n zd (.str _)
  exact ⟨Z2, _, by rw [enumI_get 0 _ i _ (signs_at hc), Nat.zero_add], g2, r2⟩
end
section
variable {X : Cx} {S : Sx} {C : Xd → Gm → Prop} {Δ Δ1 Δ2 : Fl} {a b tg : Expr} {m m1 m2 : Gm → R D} {k k1 k2 : Kd} {p pos tpos cpos apos : Pos} {elts : List Expr} {kk : Nat}
theorem di_seqX (ha : DE X S C Δ a m Δ1 .im) : DI X S C Δ tg a (mItX m) Δ1 := PI_weak (pi_seqX ha) fun σ H Q ⟨Z, Γ, s, h⟩ => ⟨Z, Γ, s, h.bind.mono (fun d Γ1 h1 Z1 H1 v g1 r1 => by
  obtain ⟨items, hi, q⟩ := h1.of
  have r1 : Rp X.K X.mg Z1 H1 d v := r1
  cases d with
  | tup ds => cases hi; cases r1 with
    | tup f r => exact .inl ⟨_, rfl, .inr ⟨⟨_, f.sq⟩, q Z1 H1 _ g1 (itt_ok f r)⟩⟩
  | lst ds => cases hi; cases r1 with
    | lst f r => exact .inl ⟨_, rfl, .inl ⟨⟨_, f.sq⟩, q Z1 H1 _ g1 (itl_ok f r)⟩⟩
  | str z => cases hi; cases r1; exact .inr ⟨z, rfl, q Z1 H1 _ g1 its_ok⟩
  | _ => cases hi) fun _ _ c => c⟩
theorem di_enumX (hm : X.mg "enumerate" = none) (ha : DE X S C Δ a m Δ1 .im) (hg : Gl X "enumerate" := by rfl) (hs : starEach [a] X.env = [(false, eval a X.env)] := by rfl) (hs2 : starEach (a :: []) X.env = (false, eval a X.env) :: starEach [] X.env := by rfl) :
    DI X S C Δ (.Tuple elts kk tpos) (.Call (.Name "enumerate" p) [a] [] pos) (mEnumX m) Δ1 :=
  PI_weak (pi_enumX hg hm (pa_cons ha pa_nil hs2) hs) fun σ H Q ⟨Z, Γ, s, h⟩ => ⟨Z, Γ, s, h.bind.mono (fun d Γ1 h1 Z1 H1 v g1 r1 => by
    obtain ⟨items, hi, q⟩ := h1.of
    have r1 : Rp X.K X.mg Z1 H1 d v := r1
    cases d with
    | tup ds => cases hi; cases r1 with
      | tup f r => exact .inl ⟨_, _, rfl, .inr ⟨f.sq, q Z1 H1 _ g1 (itet_ok f r)⟩⟩
    | lst ds => cases hi; cases r1 with
      | lst f r => exact .inl ⟨_, _, rfl, .inl ⟨f.sq, q Z1 H1 _ g1 (ite_ok f r)⟩⟩
    | str z => cases hi; cases r1; exact .inr ⟨z, rfl, q Z1 H1 _ g1 itx_ok⟩
    | _ => cases hi) fun _ _ c => c⟩
/-! ### products -/
def mulA (d e : D) : Option D := match d, e with
  | .tup xs, .int k => if -(2 ^ 63) ≤ k ∧ k ≤ 1000 ∧ xs.length ≤ 1000 then some (.tup (List.replicate k.toNat xs).flatten) else none
  | .str z, .int k => if -(2 ^ 63) ≤ k ∧ k ≤ 1000 ∧ z.length ≤ 1000 then some (.str (strMul z k)) else none
  | d, e => mulD d e
theorem od_mulA : OpR X (binaryOp .Mult) (rD2 X.K X.mg mulA false) := OpR.cases (OpR.or op_repA op_repS) od_mul fun x y H Q ⟨Z, d, e, u, zd, p1, p2, h, q⟩ => by
  unfold mulA at h; split at h
  · split at h
    · rename_i xs k c
      cases h
      obtain ⟨a, vs, rfl, f, r⟩ := p1.tup
      rw [p2.int]
      have hl := r.length
      refine .inl (.inl ⟨a, k, vs, rfl, rfl, f.sq, c.1, c.2.1, by omega, fun hs => ?_, fun _ _ pp np => resT zd q (r.rep k.toNat) np⟩)
      refine q Z H _ (.refl zd) ?_
      have e : (List.replicate k.toNat xs).flatten = xs := by
        rcases hs with rfl | rfl
        · simp
        · have : xs = [] := List.eq_nil_of_length_eq_zero (by simpa using hl)
          subst this; simp
      rw [e]
      exact .tup f r
    · cases h
  · split at h
    · rename_i z k c
      cases h
      rw [p1.str, p2.int]
      exact .inl (.inr ⟨z, k, rfl, rfl, c.1, c.2.1, c.2.2, res0 zd q (.str _)⟩)
    · cases h
  · exact .inr ⟨Z, _, _, u, zd, p1, p2, h, q⟩
/-! ### x in y, y a text too -/
def strIn (a b : Str) : Bool := match a.cps.toList with
  | [c] => decide (c ∈ b.cps.toList)
  | _ => !(Builtin.Str.occurrences b a 0 b.length 1).isEmpty
def inA (d e : D) : Option D := match d, e with
  | .str a, .str b => some (.bl (strIn a b))
  | d, e => inD d e
def notinA (d e : D) : Option D := match d, e with
  | .str a, .str b => some (.bl (!strIn a b))
  | d, e => notinD d e
theorem one_sign {a : Str} {c : Nat} (h : a.cps.toList = [c]) : a = ⟨#[c]⟩ := by
  obtain ⟨q⟩ := a
  congr 1
  exact Array.toList_inj.mp h
theorem od_inA (hu : X.A.units + 65 < cLine) : OpR X (compareOp .In) (rD2 X.K X.mg inA false) := OpR.cases (OpR.or op_in_sign op_in_str) (od_in hu) fun x y H Q ⟨Z, d, e, u, zd, p1, p2, h, q⟩ => by
  unfold inA at h; split at h
  · rename_i a b
    cases h
    rw [p1.str, p2.str]
    unfold strIn at q
    split at q
    · rename_i c hc
      exact .inl (.inl ⟨c, b, by rw [one_sign hc], rfl, res0 zd q (.bl _)⟩)
    · exact .inl (.inr ⟨a, b, rfl, rfl, res0 zd q (.bl _)⟩)
  · exact .inr ⟨Z, _, _, u, zd, p1, p2, h, q⟩
theorem od_notinA (hu : X.A.units + 65 < cLine) : OpR X (compareOp .NotIn) (rD2 X.K X.mg notinA false) := OpR.cases (OpR.or op_notIn_sign op_notIn_str) (od_notin hu) fun x y H Q ⟨Z, d, e, u, zd, p1, p2, h, q⟩ => by
  unfold notinA at h; split at h
  · rename_i a b
    cases h
    rw [p1.str, p2.str]
    unfold strIn at q
    split at q
    · rename_i c hc
      exact .inl (.inl ⟨c, b, by rw [one_sign hc], rfl, res0 zd q (.bl _)⟩)
    · exact .inl (.inr ⟨a, b, rfl, rfl, res0 zd q (.bl _)⟩)
  · exact .inr ⟨Z, _, _, u, zd, p1, p2, h, q⟩
theorem blf_inA : Blf inA := fun d e u h => by
  unfold inA at h; split at h
  · cases h; exact ⟨_, rfl⟩
  · exact blf_in _ _ _ h
theorem blf_notinA : Blf notinA := fun d e u h => by
  unfold notinA at h; split at h
  · cases h; exact ⟨_, rfl⟩
  · exact blf_notin _ _ _ h
/-! ### int(..) of a text -/
def intS : D → Option D
  | .str s => if s.length ≤ 640 then (PySem.intText? s).map D.int else none
  | d => intD d
theorem CallR.cases {f : Value} {r r1 r2 : List V → Hp → VK → Prop} (h1 : CallR X f r1) (h2 : CallR X f r2) (w : ∀ xs H Q, r xs H Q → r1 xs H Q ∨ r2 xs H Q) : CallR X f r := fun pins s σ H xs us Q I rs q => (w xs H Q q).elim (fun q => h1 pins s σ H xs us Q I rs q) fun q => h2 pins s σ H xs us Q I rs q
theorem cd_intS : CallR X (.type "int") (rC1 X.K X.mg intS false) := CallR.cases call_int_str cd_int fun xs H Q ⟨x, ex, Z, d, u, zd, p1, h, q⟩ => by
  unfold intS at h; split at h
  · split at h
    · rename_i s hs
      obtain ⟨n, hn, rfl⟩ := Option.map_eq_some_iff.mp h
      subst ex
      rw [p1.str]
      exact .inl ⟨s, n, rfl, hn, hs, res0 zd q (.int _)⟩
    · cases h
  · exact .inr ⟨x, ex, Z, _, u, zd, p1, h, q⟩
/-! ### methods of texts -/
def isStrD : D → Bool
  | .str _ => true
  | _ => false
def mSm (f : D → D → Option D) (m1 m2 : Gm → R D) : Gm → R D := fun Γ => (m1 Γ).bind fun d Γ1 => if isStrD d = true then (m2 Γ1).bind fun e Γ2 => R.of (f d e) Γ2 else .no
def rM2 (K : PySem.W.Frag) (mg : Str → Option Value) (f : D → D → Option D) (b : Bool) : V → List V → Hp → VK → Prop := fun x xs H Q => ∃ y, xs = [y] ∧ rD2 K mg f b x y H Q
theorem mtr_imp {id : String} {r r' : V → List V → Hp → VK → Prop} (h : MtR X id r) (w : ∀ x xs H Q, r' x xs H Q → r x xs H Q) : MtR X id r' := fun pins s σ H x xs v us Q I rx rs q => h pins s σ H x xs v us Q I rx rs (w x xs H Q q)
theorem de_sm {f : D → D → Option D} {id : String} {name : Str} (slot : Slot "str" name id) (hty : typeOf (.builtin id) = pure (.type "method_descriptor")) (hm : MtR X id (rM2 X.K X.mg f false)) (ha : DE X S C Δ a m1 Δ1 k1) (hb : DE X S C Δ1 b m2 Δ2 k2) (hk : KeepK k1 m2)
    (hbase : attributeBase a name X.env (eval a X.env) = eval a X.env := by rfl)
    (hfew : ((backTo cpos (starEach (b :: []) X.env)).all (fun x => !x.1) && (backToKw cpos (keywordEach [] X.env)).all (fun x => x.1.isSome)
      && decide ((b :: []).length + ([] : List Keyword).length + (if ([] : List Keyword).isEmpty then 0 else 1) < 30)) = true := by rfl)
    (hline : (apos.endLine == cpos.line) = true := by rfl) (hs : starEach (b :: []) X.env = (false, eval b X.env) :: starEach [] X.env := by rfl) (hpl : (backTo cpos (starEach [] X.env)).any (·.1) = false := by rfl) :
    DE X S C Δ (.Call (.Attribute a name apos) [b] [] cpos) (mSm f m1 m2) Δ2 .im :=
  (pe_bm PySem.F.plainAttrs_str slot hty hm ha (pa_cons hb pa_nil hs) hbase hfew hline hs hpl).weak fun σ H Q ⟨Z, Γ, s, h⟩ => ⟨Z, Γ, s, h.bind.mono (fun d Γ1 h1 Z1 H1 v g1 r1 => by
    have pk := r1.pk g1.s
    split at h1
    · rename_i hd
      cases d with
      | str z =>
        have ev := pk.str
        subst ev
        refine ⟨rfl, Z1, Γ1, g1.s, h1.bind'.mono (fun e Γ2 ⟨em, h2⟩ Z2 H2 w g2 r2 => ?_) fun _ _ c => c⟩
        obtain ⟨u, hu, q⟩ := h2.of
        exact ⟨w, rfl, Z2, .str z, e, u, g2.s.zd, .rp (.str z), r2.pk g2.s, hu, fun Z3 H3 y g3 r3 => q Z3 H3 y ((g1.trans g2).trans (Go.gr0 g2.s g3)) r3⟩
      | _ => cases hd
    · exact h1.elim) fun _ _ c => c⟩
def strsD : List D → Option (List Str)
  | [] => some []
  | .str s :: ds => match strsD ds with
    | some l => some (s :: l)
    | none => none
  | _ :: _ => none
theorem rps_strs {K : PySem.W.Frag} {mg : Str → Option Value} {Z : Addr → Prop} {H : Hp} : ∀ {ds : List D} {vs : List V} {l : List Str}, Rps K mg Z H ds vs → strsD ds = some l → vs = l.map V.str
  | [], _, _, .nil, e => by cases e; rfl
  | d :: ds, _, l, .cons r t, e => by
    cases d with
    | str s =>
      unfold strsD at e
      split at e
      · rename_i l' el
        cases e
        cases r
        rw [rps_strs t el]; rfl
      · cases e
    | _ => cases e
def joinD : D → D → Option D
  | .str a, .lst xs => match strsD xs with
    | some l => if (l.map (·.length)).sum + l.length * a.length ≤ 16777216 then some (.str (Txt.join a l)) else none
    | none => none
  | _, _ => none
theorem md_join : MtR X "str.join" (rM2 X.K X.mg joinD false) := mtr_imp mt_join fun x xs H Q ⟨y, ex, Z, d, e, u, zd, p1, p2, h, q⟩ => by
  subst ex
  unfold joinD at h; split at h
  · split at h
    · rename_i l el
      split at h
      · rename_i hz
        cases h
        obtain ⟨ad, vs, rfl, f, r⟩ := p2.lst
        rw [p1.str]
        have ev := rps_strs r el
        subst ev
        exact ⟨_, ad, l, rfl, rfl, .inl f, hz, res0 zd q (.str _)⟩
      · cases h
    · cases h
  · cases h
def sindexD : D → D → Option D
  | .str a, .str b => match Builtin.Str.occurrences a b 0 a.length 1 with
    | i :: _ => some (.int (i : Nat))
    | [] => none
  | _, _ => none
theorem md_sindex : MtR X "str.index" (rM2 X.K X.mg sindexD false) := mtr_imp mt_sindex fun x xs H Q ⟨y, ex, Z, d, e, u, zd, p1, p2, h, q⟩ => by
  subst ex
  unfold sindexD at h; split at h
  · split at h
    · rename_i i rest ho
      cases h
      rw [p1.str, p2.str]
      exact ⟨_, _, i, rest, rfl, rfl, ho, res0 zd q (.int _)⟩
    · cases h
  · cases h
/-! ### {} -/
theorem de_dct0 : DE X S C Δ (.Dict [] [] pos) (mC (.dct [])) Δ .ow := pe_dnewK.weak fun σ H Q ⟨Z, Γ, s, h⟩ p np => by
  have gl : Gr0 Z Z H (upd H p (.dK [])) := Gr0.lay np s.zd
  exact h Z _ _ (Go.gr0 s gl) ⟨p, rfl, .dctK upd_same .nil, s.freshZ np, s.freshO np, np⟩
end
end DL
/-! DL24: the head's facts for exceptions that are held. -/
namespace DL
open PySem PySem.Spec PyProof.Rows L2
def xfB (K : PySem.W.Frag) (x : Str) : Bool := He.eqO (PySem.W.nsIn K mainGlobals x) (some (some (.ref (He.ga K x)))) && (He.eqO (PySem.W.findIn K (.ref (He.ga K x)) "__getattribute__") (some (some (.builtin "BaseException.__getattribute__"))) &&
  (He.eqO (PySem.W.findIn K (.ref (He.ga K x)) "__getattr__") (some none) && (decide (PySem.W.subIn K (.ref (He.ga K x)) (.type "BaseException") = some true) && (PySem.W.hasDictIn K (He.ga K x) && ((PySem.W.clsIn K (He.ga K x)).isSome &&
  (He.eqO (PySem.W.findIn K (.ref (He.ga K x)) "__class__") (some (some (.builtin "object.__class__"))) && (decide (PySem.W.specialIn K (.builtin "object.__class__") "__get__" = some (some (.builtin "getset_descriptor.__get__"))) &&
  (decide (PySem.W.takesIn K (.builtin "object.__class__") = some true) && decide (PySem.W.mroIn K (He.ga K x) (.type "object") = some true)))))))))
theorem xfB_ok {K : PySem.W.Frag} {h : Heap} {mg : Str → Option Value} (X : K.In h) (G : h.Ns mainGlobals mg) {x : Str} (c : xfB K x = true) : mg x = some (.ref (He.ga K x)) ∧ XfC K (He.ga K x) := by
  obtain ⟨c1, c⟩ := He.ba c
  obtain ⟨c2, c⟩ := He.ba c
  obtain ⟨c3, c⟩ := He.ba c
  obtain ⟨c4, c⟩ := He.ba c
  obtain ⟨c5, c⟩ := He.ba c
  obtain ⟨c6, c⟩ := He.ba c
  obtain ⟨c7, c⟩ := He.ba c
  obtain ⟨c8, c⟩ := He.ba c
  obtain ⟨c9, c10⟩ := He.ba c
  exact ⟨PySem.W.mg_of X G (He.eqO_ok c1), He.eqO_ok c2, He.eqO_ok c3, of_decide_eq_true c4, c5, c6, He.eqO_ok c7, of_decide_eq_true c8, of_decide_eq_true c9, of_decide_eq_true c10⟩
def xfFB (K : PySem.W.Frag) (L : List Str) (f : Str) : Bool := L.all fun x => He.eqO (PySem.W.findIn K (.ref (He.ga K x)) f) (some none)
section
variable {K : PySem.W.Frag} {h : Heap} {mg : Str → Option Value} {L : List Str} {f : Str}
theorem mem_of_contains {x : Str} (hx : L.contains x = true) : x ∈ L := by simpa using hx
theorem xfD_of (X : K.In h) (G : h.Ns mainGlobals mg) (c : (L.all fun x => xfB K x) = true) (d : xfFB K L f = true) : XfD K mg L f := fun x C hx hm => by
  have m := mem_of_contains hx
  obtain ⟨q1, q2⟩ := xfB_ok X G (List.all_eq_true.mp c x m)
  rw [q1] at hm; cases hm
  exact ⟨q2, He.eqO_ok (List.all_eq_true.mp d x m)⟩
theorem xiD_of (X : K.In h) (G : h.Ns mainGlobals mg) (c : (L.all fun x => xfB K x) = true) : XiD K mg L := fun x C hx hm => by
  have m := mem_of_contains hx
  obtain ⟨q1, q2⟩ := xfB_ok X G (List.all_eq_true.mp c x m)
  rw [q1] at hm; cases hm
  exact q2
theorem isiK_of {tbl : List (Str × Str × Bool)} {x : Str} {cv : Value} (X : K.In h) (G : h.Ns mainGlobals mg) (c : (tbl.all fun p => xfB K p.1) = true) (d : (tbl.all fun p => !decide (p.2.1 = x) || decide (PySem.W.kitOne K (.ref (He.ga K p.1)) cv = some p.2.2)) = true) : IsiK K mg (isaT tbl) x cv := fun c' C b e hm => by
  unfold isaT at e
  rw [Option.map_eq_some_iff] at e
  obtain ⟨p, hp, rfl⟩ := e
  have hmem := List.mem_of_find?_eq_some hp
  have hc := List.find?_some hp
  rw [Bool.and_eq_true, decide_eq_true_eq, decide_eq_true_eq] at hc
  obtain ⟨rfl, rfl⟩ := hc
  obtain ⟨q1, _⟩ := xfB_ok X G (List.all_eq_true.mp c p hmem)
  rw [q1] at hm; cases hm
  have := List.all_eq_true.mp d p hmem
  simpa using this
end
section
variable {X : Cx} {S0 : Sx} {C : Xd → Gm → Prop} {Δ : Fl} {i : Nat} {a : Addr} {oe : Obj} {cls : Value} {dd : Option Addr} {pn : List (Addr × Obj)} {x : Xd} {dom : List Str} {n : Str} {pos p p2 p3 : Pos} {isi : Str → Str → Option Bool} {c : Str}
/-- isinstance(e, C), C an own class -/
theorem de_xiO {D0 : Addr} (hz : Zc cls dd oe) (hf : ∃ vs, oe.data = .fields vs) (hd : XiD X.K X.mg dom) (hik : IsiK X.K X.mg isi c (.ref D0)) (hmc : X.mg c = some (.ref D0)) (hm : X.mg "isinstance" = none)
    (hi : X.N[i]? = some n := by rfl) (hv : Vis X.env.scope n := by first | exact Or.inl rfl | exact Or.inr (Or.inl rfl) | exact Or.inr (Or.inr rfl)) (hdb : (n == ("__debug__" : Str)) = false := by decide) (hcd : (n == ("__classdict__" : Str)) = false := by decide) (hg : Gl X "isinstance" := by rfl) (hgc : Gl X c := by rfl) (hcb : (c == ("__debug__" : Str)) = false := by decide)
    (he : starEach [Expr.Name n p2, .Name c p3] X.env = (false, eval (Expr.Name n p2) X.env) :: starEach [Expr.Name c p3] X.env := by rfl) (he2 : starEach [Expr.Name c p3] X.env = (false, eval (Expr.Name c p3) X.env) :: starEach [] X.env := by rfl) (hpl : (backTo pos (starEach [Expr.Name c p3] X.env)).any (·.1) = false := by rfl) :
    DE (X.suite a ((a, oe) :: pn)) (S0.xh X.K X.mg i a x cls dd) C Δ (.Call (.Name "isinstance" p) [.Name n p2, .Name c p3] [] pos) (mXi isi dom x c) Δ .im :=
  de_xi (v := .ref D0) (cv := .ref D0) hz hf hd hik (pe_glob (X := X.suite a ((a, oe) :: pn)) hgc hmc rfl hcb) (fun u r => r) hm hi hv hdb hcd hg he he2 hpl
/-- .. C a built-in class -/
theorem de_xiB {T : String} (hz : Zc cls dd oe) (hf : ∃ vs, oe.data = .fields vs) (hd : XiD X.K X.mg dom) (hik : IsiK X.K X.mg isi c (.type T)) (hmc : X.mg c = none) (hm : X.mg "isinstance" = none) (hbt : bootBuiltins c = some (.type T) := by rfl) (hnn : c ≠ "__name__" := by decide)
    (hi : X.N[i]? = some n := by rfl) (hv : Vis X.env.scope n := by first | exact Or.inl rfl | exact Or.inr (Or.inl rfl) | exact Or.inr (Or.inr rfl)) (hdb : (n == ("__debug__" : Str)) = false := by decide) (hcd : (n == ("__classdict__" : Str)) = false := by decide) (hg : Gl X "isinstance" := by rfl) (hgc : Gl X c := by rfl) (hcb : (c == ("__debug__" : Str)) = false := by decide)
    (he : starEach [Expr.Name n p2, .Name c p3] X.env = (false, eval (Expr.Name n p2) X.env) :: starEach [Expr.Name c p3] X.env := by rfl) (he2 : starEach [Expr.Name c p3] X.env = (false, eval (Expr.Name c p3) X.env) :: starEach [] X.env := by rfl) (hpl : (backTo pos (starEach [Expr.Name c p3] X.env)).any (·.1) = false := by rfl) :
    DE (X.suite a ((a, oe) :: pn)) (S0.xh X.K X.mg i a x cls dd) C Δ (.Call (.Name "isinstance" p) [.Name n p2, .Name c p3] [] pos) (mXi isi dom x c) Δ .im :=
  de_xi (v := .ty T) (cv := .type T) hz hf hd hik (pe_bltn (X := X.suite a ((a, oe) :: pn)) hgc hmc hbt rfl hnn hcb) (fun u r => r) hm hi hv hdb hcd hg he he2 hpl
/-- the suite's ground -/
theorem Okb.xh {B : Bx} (ob : Okb B) (K : PySem.W.Frag) (mg : Str → Option Value) (Δx : Fl) : Okb (B.xh (B.S.xh K mg i a x cls dd) i Δx) := ⟨ob.pm, ob.lt, fun j v m => by
  rcases List.mem_cons.mp m with e | m
  · cases e; exact List.mem_cons_self ..
  · exact List.mem_cons_of_mem _ (ob.fx j v m)⟩
end
end DL
/-! DL25: a tuple turned about. -/
namespace HT
open PySem PySem.Spec PyProof.Rows L2
section
variable {prog : Program} {w : World} {A : Around} {E : Value → Shared → Prop} {s : Shared}
theorem sliceApplied_rev {sl : Addr} {vl vu vs : Value} {n : Nat} {Q : Int × Int × Nat → Shared → Prop} (hs : s.heap.IsSliceOf sl vl vu vs) (pl : IsPart vl none) (pu : IsPart vu none) (ps : IsPart vs (some (-1)))
    (h : Q ((n : Int) - 1, -1, n) s) : wpAny (model prog w) A (Builtin.Slice.sliceApplied (.ref sl) (pure (n : Int))) Q E s := by
  obtain ⟨os, hos, hcs, hds⟩ := id hs
  unfold Builtin.Slice.sliceApplied Builtin.Slice.sliceFields
  refine wpAny_bind (wpAny_bind (wpAny_field hos hds (x := vl) rfl (wpAny_bind (wpAny_field hos hds (x := vu) rfl (wpAny_bind (wpAny_field hos hds (x := vs) rfl (wpAny_pure ?_)))))))
  refine wpAny_bind (slicePart_ ps ?_)
  show wpAny _ _ (if ((-1 : Int) == 0) = true then _ else _) _ _ s
  rw [if_neg (by decide)]
  refine wpAny_bind (slicePart_ pl (wpAny_bind (slicePart_ pu (wpAny_bind (wpAny_pure ?_)))))
  show wpAny _ _ (match Builtin.Slice.sliceAdjust none none (-1) (n : Int) with | (lo, hi) => pure (lo, (-1 : Int), Builtin.Slice.slicePlaces lo hi (-1))) _ _ s
  have e1 : Builtin.Slice.sliceAdjust none none (-1) (n : Int) = ((n : Int) - 1, -1) := by
    unfold Builtin.Slice.sliceAdjust
    simp
  rw [e1]
  show wpAny _ _ (pure ((n : Int) - 1, (-1 : Int), Builtin.Slice.slicePlaces ((n : Int) - 1) (-1) (-1))) _ _ s
  have e2 : Builtin.Slice.slicePlaces ((n : Int) - 1) (-1) (-1) = n := by
    unfold Builtin.Slice.slicePlaces
    by_cases hn : n = 0
    · subst hn; simp
    · have : (n : Int) - 1 > -1 := by omega
      simp [this]
  rw [e2]
  exact wpAny_pure h
theorem pick_rev (xs : Array Value) : ((List.range xs.size).filterMap fun (k : Nat) => xs[(((xs.size : Nat) : Int) - 1 + (k : Int) * (-1)).toNat]?).toArray = xs.toList.reverse.toArray := by
  congr 1
  apply List.ext_getElem?
  intro i
  have e : (List.range xs.size).filterMap (fun (k : Nat) => xs[(((xs.size : Nat) : Int) - 1 + (k : Int) * (-1)).toNat]?) = (List.range xs.size).filterMap fun k => (xs.toList.reverse)[k]? := by
    have fc : ∀ (l : List Nat) (f g : Nat → Option Value), (∀ k ∈ l, f k = g k) → l.filterMap f = l.filterMap g := by
      intro l f g
      induction l with
      | nil => intro _; rfl
      | cons a l ih => intro hh; rw [List.filterMap_cons, List.filterMap_cons, hh a (List.mem_cons_self ..), ih fun k hk => hh k (List.mem_cons_of_mem _ hk)]
    apply fc
    intro k hk
    have hk := List.mem_range.mp hk
    rw [List.getElem?_reverse (by simpa using hk), Array.getElem?_toList]
    congr 1
    rw [Array.length_toList]
    omega
  rw [e]
  have g : ∀ l : List Value, (List.range l.length).filterMap (fun k => l[k]?) = l := by
    intro l
    induction l with
    | nil => rfl
    | cons a l ih =>
      rw [List.length_cons, List.range_succ_eq_map, List.filterMap_cons, List.filterMap_map]
      simp only [List.getElem?_cons_zero]
      congr 1
  have := g xs.toList.reverse
  rw [List.length_reverse, Array.length_toList] at this
  rw [this]
theorem getItem_tuple_rev {t sl : Addr} {items : Array Value} {vl vu vs : Value} {Q : Value → Shared → Prop} (ht : IsTup s.heap t items) (hs : s.heap.IsSliceOf sl vl vu vs) (pl : IsPart vl none) (pu : IsPart vu none) (ps : IsPart vs (some (-1)))
    (h : Q (.ref s.heap.objs.size) { s with heap := s.heap.push { cls := .type "tuple", data := .seq items.toList.reverse.toArray } }) (hz : items.size ≤ sizeLine) : wpAny (model prog w) A (getItem (.ref t) (.ref sl)) Q E s := by
  obtain ⟨os, hos, hcs, hds⟩ := id hs
  have hTs : s.TypeIs (.ref sl) "slice" := ⟨os, hos, hcs⟩
  unfold getItem
  try with_reducible refine wpAny_holding ?_
  first | refine wpAny_bind (wpAny_pure ?_) | skip
  refine wpAny_bind (wpAny_sequenceKey ht.typeIs (by decide) ?_)
  refine wpAny_bind (wpAny_callSpecial?_slot (name := Str.ofString "__getitem__") ht.typeIs PyProof.Rows.slot_tuple_getitem
    (wpAny_call_entry PyProof.Rows.slot_tuple_getitem ht.typeIs entry_tuple_getitem ?_ (args_tuple_getitem _ _)))
  show wpAny _ _ (Builtin.Tuple.tupleItemsOf (.ref t) >>= _) _ _ s
  refine wpAny_bind (tupleItemsOf_ ht ?_)
  refine wpAny_bind (wpAny_typeOf hTs ?_)
  rw [if_pos (by decide)]
  refine wpAny_bind (sliceApplied_rev (n := items.size) hs pl pu ps ?_)
  have hno : ¬ (((items.size : Nat) : Int) - 1 == 0 && (-1 : Int) == 1 && items.size == items.size) = true := by simp
  show wpAny _ _ (if (((items.size : Nat) : Int) - 1 == 0 && (-1 : Int) == 1 && items.size == items.size) = true then _ else _) _ _ s
  rw [if_neg hno]
  rw [pick_rev]
  have hlen : items.toList.reverse.toArray.size ≤ sizeLine := by simpa using hz
  have htake : sizeOk (.seq items.toList.reverse.toArray) := hlen
  first
    | exact wpAny_bind (m := Builtin.Tuple.tupleExact _) (wpAny_newObj_type (wpAny_pure ⟨_, rfl, wpAny_pure h⟩) htake)
    | exact wpAny_bind (m := Builtin.Tuple.tupleExact _) (wpAny_newObj_type (wpAny_bind (wpAny_pure (wpAny_pure ⟨_, rfl, wpAny_pure h⟩))) htake)
    | exact wpAny_bind (wpAny_bind (m := Builtin.Tuple.tupleExact _) (wpAny_newObj_type (wpAny_pure (wpAny_pure ⟨_, rfl, wpAny_pure h⟩)) htake))
    | exact wpAny_bind (wpAny_bind (m := Builtin.Tuple.tupleExact _) (wpAny_newObj_type (wpAny_pure ⟨_, rfl, wpAny_pure h⟩) htake))
end
end HT
namespace L2
open PySem PySem.Spec PyProof.Rows
/-- xs[::-1], xs a list or a tuple -/
def tRevA (K : PySem.W.Frag) (te : TE) : TE := fun σ H Q => te σ H fun x H1 => ∃ a xs, x = .ref a ∧ ((SqL K H1 a xs ∧ ∀ p, H1 p = none → Q (.ref p) (upd H1 p (.lst xs.reverse))) ∨ (SqT K H1 a xs ∧ ∀ p, H1 p = none → Q (.ref p) (upd H1 p (.tup xs.reverse))))
theorem pe_revA {X : Cx} {e : Expr} {te : TE} {k : Nat} {p1 p2 p3 pos : Pos} (he : PE X e te) : PE X (.Subscript e (.Slice none none (some (.UnaryOp .USub (.Constant (.int 1) k p1) p2)) p3) pos) (tRevA X.K te) := by
  refine ⟨fun pins s σ H Q I h => ?_⟩
  refine Subscript_ (thn (he.run pins s σ H _ I h) fun v s1 ⟨x, H1, I1, r1, q1⟩ => ?_)
  obtain ⟨a, xs, ex, hq⟩ := q1
  subst ex
  cases r1
  have hst : PO X (some (.UnaryOp .USub (.Constant (.int 1) k p1) p2)) (tPart (tUn (rU fun i => .int (-i)) (tC (.int 1)))) := po_some (pe_un un_neg pe_int)
  refine wpAny_Slice (thn (po_none.run pins s1 σ H1 (fun o H2 => o = none ∧ H2 = H1) I1 ⟨rfl, rfl⟩) fun vl s2 ⟨l, H2, I2, pl, el, e2⟩ => ?_)
  subst el e2
  refine thn (po_none.run pins s2 σ H2 (fun o H3 => o = none ∧ H3 = H2) I2 ⟨rfl, rfl⟩) fun vu s3 ⟨u, H3, I3, pu, eu, e3⟩ => ?_
  subst eu e3
  refine thn (hst.run pins s3 σ H3 (fun o H4 => o = some (-1) ∧ H4 = H3) I3 ⟨1, rfl, -1, rfl, rfl, rfl⟩) fun vs s4 ⟨o, H4, I4, ps, eo, e4⟩ => ?_
  subst eo e4
  have I5 : Inv X pins σ H4 { s4 with heap := s4.heap.push { cls := .type "slice", data := .fields #[vl, vu, vs] } } := I4.kept (t' := s4.toks) fun b ob q => Heap.get?_push_of_some _ q
  show wpAny (model X.prog X.w) X.A (subscriptTail e (.Slice none none (some (.UnaryOp .USub (.Constant (.int 1) k p1) p2)) p3) (.ref a) (.ref s4.heap.objs.size)) (EP X pins σ Q) X.xe { s4 with heap := s4.heap.push { cls := .type "slice", data := .fields #[vl, vu, vs] } }
  rcases hq with ⟨hx, q⟩ | ⟨hx, q⟩
  · obtain ⟨its, r, ht, hz⟩ := I5.list hx
    have hlen := r.length
    refine tail_any (ops := [.ref a, .ref s4.heap.objs.size]) ht.isList.typeIs (PySem.slot_list_getitem.lookup) ?_ (by with_unfolding_all rfl)
    refine wpAny_getItem_list_slice ht.isList (Heap.IsSliceOf.new _ vl vu vs) pl pu ps (by decide) ?_ (by rw [List.size_toArray]; omega)
    rw [PySem.W.krv_pick]
    refine ⟨.ref _, _, I5.laid (t' := s4.toks) (o := .lst xs.reverse) (fun b ob q => Heap.get?_push_of_some _ q) (Nat.le_refl _) ?_, rfl, q _ (I5.hok.fresh (Nat.le_refl _))⟩
    exact ⟨by rw [List.length_reverse]; exact hz, _, 0, r.reverse, Heap.get?_push_size _ rfl⟩
  · obtain ⟨its, r, ht, hz⟩ := I5.tuple hx
    have hlen := r.length
    refine tail_any (ops := [.ref a, .ref s4.heap.objs.size]) ht.typeIs (PyProof.Rows.slot_tuple_getitem.lookup) ?_ (by with_unfolding_all rfl)
    refine HT.getItem_tuple_rev ht (Heap.IsSliceOf.new _ vl vu vs) pl pu ps ?_ (by rw [List.size_toArray]; omega)
    refine ⟨.ref _, _, I5.laid (t' := s4.toks) (o := .tup xs.reverse) (fun b ob q => Heap.get?_push_of_some _ q) (Nat.le_refl _) ?_, rfl, q _ (I5.hok.fresh (Nat.le_refl _))⟩
    exact ⟨by rw [List.length_reverse]; exact hz, _, r.reverse, IsTup.new _ _⟩
end L2
namespace DL
open PySem PySem.Spec PyProof.Rows L2
def revA : D → Option D
  | .lst xs => some (.lst xs.reverse)
  | .tup xs => some (.tup xs.reverse)
  | _ => none
section
variable {X : Cx} {S : Sx} {C : Xd → Gm → Prop} {Δ Δ1 : Fl} {a : Expr} {m : Gm → R D} {k : Kd} {pos : Pos}
theorem de_revA {i : Nat} {p1 p2 p3 : Pos} (ha : DE X S C Δ a m Δ1 k) : DE X S C Δ (.Subscript a (.Slice none none (some (.UnaryOp .USub (.Constant (.int 1) i p1) p2)) p3) pos) (mUn revA m) Δ1 .im :=
  (pe_revA ha).weak fun σ H Q ⟨Z, Γ, s, h⟩ => ⟨Z, Γ, s, h.bind.mono (fun d Γ1 h1 Z1 H1 v g1 r1 => by
    obtain ⟨u, hu, q⟩ := h1.of
    have fin : ∀ {u : D}, (∀ Z' H' v', Go X.K X.mg S σ Δ Z Γ H Δ1 Z' Γ1 H' → Kr X.K X.mg H Δ1 Z' Γ1 σ H' .im u v' → Q v' H') → ∀ Z' H' v', Gr0 Z1 Z' H1 H' → ResB X.K X.mg H1 Z' H' false u v' → Q v' H' := fun q Z' H' v' g0 rr => q Z' H' v' (g1.trans (.gr0 g1.s g0)) (ResB.kr (b := false) g1.s g0 g1.g.th rr)
    unfold revA at hu; split at hu
    · cases hu
      obtain ⟨p, vs, rfl, f, r⟩ := (r1.pk g1.s).lst
      exact ⟨p, vs, rfl, .inl ⟨f, fun p2 n => resLi g1.s.zd (fin q) r.reverse n⟩⟩
    · cases hu
      obtain ⟨p, vs, rfl, f, r⟩ := (r1.pk g1.s).tup
      exact ⟨p, vs, rfl, .inr ⟨f.sq, fun p2 n => resT g1.s.zd (fin q) r.reverse n⟩⟩
    · cases hu) fun _ _ c => c⟩
end
end DL
/-! DL26: sorted lists of ints, of tuples of ints; of what a set holds. -/
namespace DL
/-! ### sorted lists -/
def ltL : List Int → List Int → Bool
  | [], [] => false
  | [], _ :: _ => true
  | _ :: _, [] => false
  | a :: s, b :: t => if a < b then true else if b < a then false else ltL s t
def ltI (a b : Int) : Bool := decide (a < b)
structure STot {α : Type} (lt : α → α → Bool) : Prop where
  irr : ∀ x, lt x x = false
  tr : ∀ x y z, lt x y = true → lt y z = true → lt x z = true
  tri : ∀ x y, lt x y = false → lt y x = false → x = y
theorem ltI_tot : STot ltI where
  irr x := by simp [ltI]
  tr x y z h1 h2 := by simp [ltI] at *; omega
  tri x y h1 h2 := by simp [ltI] at *; omega
theorem ltL_irr : ∀ x, ltL x x = false
  | [] => rfl
  | a :: s => by
    rw [ltL, if_neg (Int.lt_irrefl a), if_neg (Int.lt_irrefl a), ltL_irr s]
theorem ltL_tri : ∀ x y, ltL x y = false → ltL y x = false → x = y
  | [], [], _, _ => rfl
  | [], _ :: _, h, _ => by cases h
  | _ :: _, [], _, h => by cases h
  | a :: s, b :: t, h1, h2 => by
    unfold ltL at h1 h2
    by_cases p : a < b
    · rw [if_pos p] at h1; cases h1
    · by_cases q : b < a
      · rw [if_pos q] at h2; cases h2
      · rw [if_neg p, if_neg q] at h1
        rw [if_neg q, if_neg p] at h2
        have := ltL_tri s t h1 h2
        have : a = b := by omega
        subst this; subst s; rfl
theorem ltL_tr : ∀ x y z, ltL x y = true → ltL y z = true → ltL x z = true
  | [], [], z, h, _ => by cases h
  | [], _ :: _, [], _, h => by cases h
  | [], _ :: _, _ :: _, _, _ => rfl
  | _ :: _, [], _, h, _ => by cases h
  | _ :: _, _ :: _, [], _, h => by cases h
  | a :: s, b :: t, c :: u, h1, h2 => by
    unfold ltL at h1 h2 ⊢
    by_cases p : a < b
    · by_cases q : b < c
      · rw [if_pos (by omega)]
      · rw [if_neg q] at h2
        by_cases q' : c < b
        · rw [if_pos q'] at h2; cases h2
        · rw [if_pos (by omega)]
    · rw [if_neg p] at h1
      by_cases p' : b < a
      · rw [if_pos p'] at h1; cases h1
      · rw [if_neg p'] at h1
        by_cases q : b < c
        · rw [if_pos (by omega)]
        · rw [if_neg q] at h2
          by_cases q' : c < b
          · rw [if_pos q'] at h2; cases h2
          · rw [if_neg q'] at h2
            rw [if_neg (by omega), if_neg (by omega)]
            exact ltL_tr s t u h1 h2
theorem ltL_tot : STot ltL := ⟨ltL_irr, ltL_tr, ltL_tri⟩
section
variable {α : Type} {lt : α → α → Bool}
theorem STot.asy (O : STot lt) {x y : α} (h : lt x y = true) : lt y x = false := by
  cases q : lt y x with
  | false => rfl
  | true =>
    have := O.tr _ _ _ h q
    rw [O.irr] at this
    cases this
/-- each once, ascending -/
def insS (lt : α → α → Bool) (x : α) : List α → List α
  | [] => [x]
  | y :: t => if lt x y = true then x :: y :: t else if lt y x = true then y :: insS lt x t else y :: t
def srtS (lt : α → α → Bool) (l : List α) : List α := l.foldr (insS lt) []
/-- all of them, ascending -/
def insW (lt : α → α → Bool) (x : α) : List α → List α
  | [] => [x]
  | y :: t => if lt y x = true then y :: insW lt x t else x :: y :: t
def srtW (lt : α → α → Bool) (l : List α) : List α := l.foldr (insW lt) []
theorem srtS_nil : srtS lt [] = [] := (rfl)
theorem srtS_cons (x : α) (l : List α) : srtS lt (x :: l) = insS lt x (srtS lt l) := (rfl)
theorem srtW_cons (x : α) (l : List α) : srtW lt (x :: l) = insW lt x (srtW lt l) := (rfl)
theorem mem_insS (O : STot lt) {x z : α} : ∀ {l : List α}, z ∈ insS lt x l ↔ z = x ∨ z ∈ l
  | [] => by simp [insS]
  | y :: t => by
    unfold insS
    by_cases h1 : lt x y = true
    · rw [if_pos h1]; simp
    · rw [if_neg h1]
      by_cases h2 : lt y x = true
      · rw [if_pos h2]
        rw [List.mem_cons, mem_insS O (l := t), List.mem_cons]
        constructor
        · rintro (h | h | h) <;> simp [h]
        · rintro (h | h | h) <;> simp [h]
      · rw [if_neg h2]
        have := O.tri x y (by simpa using h1) (by simpa using h2)
        subst this
        simp
theorem mem_srtS (O : STot lt) {z : α} : ∀ {l : List α}, z ∈ srtS lt l ↔ z ∈ l
  | [] => by simp [srtS_nil]
  | x :: l => by rw [srtS_cons, mem_insS O, mem_srtS O (l := l), List.mem_cons]
abbrev StS (lt : α → α → Bool) (l : List α) : Prop := l.Pairwise fun x y => lt x y = true
theorem insS_sorted (O : STot lt) {x : α} : ∀ {l : List α}, StS lt l → StS lt (insS lt x l)
  | [], _ => by simp [insS, StS]
  | y :: t, h => by
    have h' := List.pairwise_cons.mp h
    unfold insS
    by_cases h1 : lt x y = true
    · rw [if_pos h1]
      refine List.pairwise_cons.mpr ⟨fun z hz => ?_, h⟩
      rcases List.mem_cons.mp hz with e | hz
      · rw [e]; exact h1
      · exact O.tr _ _ _ h1 (h'.1 z hz)
    · rw [if_neg h1]
      by_cases h2 : lt y x = true
      · rw [if_pos h2]
        refine List.pairwise_cons.mpr ⟨fun z hz => ?_, insS_sorted O h'.2⟩
        rcases (mem_insS O).mp hz with e | hz
        · rw [e]; exact h2
        · exact h'.1 z hz
      · rw [if_neg h2]; exact h
theorem srtS_sorted (O : STot lt) : ∀ (l : List α), StS lt (srtS lt l)
  | [] => List.Pairwise.nil
  | x :: l => insS_sorted O (srtS_sorted O l)
theorem StS.nodup (O : STot lt) {l : List α} (h : StS lt l) : l.Nodup := h.imp fun {x y} q e => by
  subst e
  rw [O.irr] at q
  cases q
/-- there is just one such list -/
theorem stS_uniq (O : STot lt) : ∀ {l m : List α}, StS lt l → StS lt m → (∀ x, x ∈ l ↔ x ∈ m) → l = m
  | [], [], _, _, _ => rfl
  | [], y :: m, _, _, h => absurd ((h y).mpr (by simp)) (by simp)
  | x :: l, [], _, _, h => absurd ((h x).mp (by simp)) (by simp)
  | x :: l, y :: m, hl, hm, h => by
    have hl' := List.pairwise_cons.mp hl
    have hm' := List.pairwise_cons.mp hm
    have e : x = y := by
      refine O.tri x y ?_ ?_
      · rcases List.mem_cons.mp ((h x).mp (by simp)) with e | q
        · rw [e]; exact O.irr y
        · exact O.asy (hm'.1 x q)
      · rcases List.mem_cons.mp ((h y).mpr (by simp)) with e | q
        · rw [e]; exact O.irr x
        · exact O.asy (hl'.1 y q)
    subst e
    congr 1
    refine stS_uniq O hl'.2 hm'.2 fun z => ⟨fun hz => ?_, fun hz => ?_⟩
    · rcases List.mem_cons.mp ((h z).mp (by simp [hz])) with e | q
      · have := hl'.1 z hz
        rw [e, O.irr] at this; cases this
      · exact q
    · rcases List.mem_cons.mp ((h z).mpr (by simp [hz])) with e | q
      · have := hm'.1 z hz
        rw [e, O.irr] at this; cases this
      · exact q
theorem srtS_of (O : STot lt) {l m : List α} (hm : StS lt m) (h : ∀ x, x ∈ m ↔ x ∈ l) : srtS lt l = m :=
  stS_uniq O (srtS_sorted O l) hm fun x => (mem_srtS O).trans (h x).symm
theorem srtS_congr (O : STot lt) {l m : List α} (h : ∀ x, x ∈ l ↔ x ∈ m) : srtS lt l = srtS lt m :=
  srtS_of O (srtS_sorted O m) fun x => (mem_srtS O).trans (h x).symm
theorem srtS_fix (O : STot lt) {l : List α} (h : StS lt l) : srtS lt l = l := srtS_of O h fun _ => Iff.rfl
theorem insS_len (O : STot lt) [DecidableEq α] {x : α} : ∀ {l : List α}, StS lt l → (insS lt x l).length = if x ∈ l then l.length else l.length + 1
  | [], _ => by simp [insS]
  | y :: t, h => by
    have h' := List.pairwise_cons.mp h
    unfold insS
    by_cases h1 : lt x y = true
    · rw [if_pos h1, if_neg]
      · simp
      · intro q
        rcases List.mem_cons.mp q with e | q
        · rw [e, O.irr] at h1; cases h1
        · have := O.tr _ _ _ h1 (h'.1 x q)
          rw [O.irr] at this; cases this
    · rw [if_neg h1]
      by_cases h2 : lt y x = true
      · rw [if_pos h2, List.length_cons, insS_len O h'.2]
        have ne : x ≠ y := by
          intro e
          rw [e, O.irr] at h2; cases h2
        by_cases q : x ∈ t
        · rw [if_pos q, if_pos (by simp [q])]; simp
        · rw [if_neg q, if_neg (by simp [q, ne])]; simp
      · rw [if_neg h2]
        have := O.tri x y (by simpa using h1) (by simpa using h2)
        subst this
        rw [if_pos (by simp)]
/-- how many unlike ones -/
def ndl [DecidableEq α] : List α → Nat
  | [] => 0
  | a :: l => if a ∈ l then ndl l else ndl l + 1
theorem srtS_len (O : STot lt) [DecidableEq α] : ∀ (l : List α), (srtS lt l).length = ndl l
  | [] => rfl
  | x :: l => by
    have := srtS_len O l
    rw [srtS_cons, insS_len O (srtS_sorted O l), ndl, this]
    by_cases q : x ∈ l
    · rw [if_pos q, if_pos ((mem_srtS O).mpr q)]
    · rw [if_neg q, if_neg (fun h => q ((mem_srtS O).mp h))]
theorem ndl_nodup [DecidableEq α] : ∀ {l : List α}, l.Nodup → ndl l = l.length
  | [], _ => rfl
  | a :: l, h => by
    have h' := List.nodup_cons.mp h
    rw [ndl, if_neg h'.1, ndl_nodup h'.2, List.length_cons]
theorem ndl_le [DecidableEq α] : ∀ (l : List α), ndl l ≤ l.length
  | [] => Nat.le_refl _
  | a :: l => by
    have := ndl_le l
    rw [ndl, List.length_cons]
    split <;> omega
theorem mem_insW {x z : α} : ∀ {l : List α}, z ∈ insW lt x l ↔ z = x ∨ z ∈ l
  | [] => by simp [insW]
  | y :: t => by
    unfold insW
    by_cases h2 : lt y x = true
    · rw [if_pos h2, List.mem_cons, mem_insW (l := t), List.mem_cons]
      constructor
      · rintro (h | h | h) <;> simp [h]
      · rintro (h | h | h) <;> simp [h]
    · rw [if_neg h2]; simp
theorem insW_perm {x : α} : ∀ {l : List α}, (insW lt x l).Perm (x :: l)
  | [] => List.Perm.refl _
  | y :: t => by
    unfold insW
    by_cases h2 : lt y x = true
    · rw [if_pos h2]
      exact ((insW_perm (l := t)).cons y).trans (List.Perm.swap x y t)
    · rw [if_neg h2]
theorem srtW_perm : ∀ (l : List α), (srtW lt l).Perm l
  | [] => List.Perm.refl _
  | x :: l => by
    rw [srtW_cons]
    exact insW_perm.trans ((srtW_perm l).cons x)
abbrev StW (lt : α → α → Bool) (l : List α) : Prop := l.Pairwise fun x y => lt y x = false
theorem insW_sorted (O : STot lt) {x : α} : ∀ {l : List α}, StW lt l → StW lt (insW lt x l)
  | [], _ => by simp [insW, StW]
  | y :: t, h => by
    have h' := List.pairwise_cons.mp h
    unfold insW
    by_cases h2 : lt y x = true
    · rw [if_pos h2]
      refine List.pairwise_cons.mpr ⟨fun z hz => ?_, insW_sorted O h'.2⟩
      rcases mem_insW.mp hz with e | hz
      · rw [e]; exact O.asy h2
      · exact h'.1 z hz
    · rw [if_neg h2]
      refine List.pairwise_cons.mpr ⟨fun z hz => ?_, h⟩
      rcases List.mem_cons.mp hz with e | hz
      · rw [e]; simpa using h2
      · have q := h'.1 z hz
        cases w : lt z x with
        | false => rfl
        | true =>
          cases v : lt x y with
          | true => rw [O.tr _ _ _ w v] at q; cases q
          | false =>
            have := O.tri x y v (by simpa using h2)
            subst this
            rw [w] at q; cases q
theorem srtW_sorted (O : STot lt) : ∀ (l : List α), StW lt (srtW lt l)
  | [] => List.Pairwise.nil
  | x :: l => insW_sorted O (srtW_sorted O l)
theorem stW_uniq (O : STot lt) : ∀ {l m : List α}, StW lt l → StW lt m → l.Perm m → l = m
  | [], m, _, _, h => (List.Perm.eq_nil h.symm).symm
  | x :: l, [], _, _, h => absurd h.length_eq (by simp)
  | x :: l, y :: m, hl, hm, h => by
    have hl' := List.pairwise_cons.mp hl
    have hm' := List.pairwise_cons.mp hm
    have e : x = y := by
      refine O.tri x y ?_ ?_
      · rcases List.mem_cons.mp (h.mem_iff.mp (List.mem_cons_self (a := x) (l := l))) with e | q
        · rw [e]; exact O.irr y
        · exact hm'.1 x q
      · rcases List.mem_cons.mp (h.mem_iff.mpr (List.mem_cons_self (a := y) (l := m))) with e | q
        · rw [e]; exact O.irr x
        · exact hl'.1 y q
    subst e
    rw [stW_uniq O hl'.2 hm'.2 h.cons_inv]
theorem srtW_of (O : STot lt) {l m : List α} (hm : StW lt m) (h : m.Perm l) : srtW lt l = m :=
  stW_uniq O (srtW_sorted O l) hm ((srtW_perm l).trans h.symm)
end
end DL
namespace DL
theorem ltL_swo : SrtO.Swo ltL where
  asym := fun x y h => ltL_tot.asy h
  tr := fun x y z h1 h2 => by
    cases h : ltL z x with
    | false => rfl
    | true =>
      cases h3 : ltL x y with
      | true => rw [ltL_tr _ _ _ h h3] at h2; cases h2
      | false => rw [← ltL_tri x y h3 h1, h] at h2; cases h2
end DL
namespace TS2
open PySem PyProof.Rows L2 DL Srt
section
variable {prog : Program} {w : World} {A : Around} {E : Value → Shared → Prop} {s : Shared}
theorem lexL_ints (c : Bool) {Q : Bool → Shared → Prop} : ∀ {us vs : List Value} {xs ys : List Int} (i : Nat) (fin : Bool), IntsAre us xs → IntsAre vs ys → fin = decide (xs.length < ys.length) → Q (ltL xs ys) s →
    PySem.W.KatLex prog w A c fin Q (us.zip vs) i s
  | _, _, _, _, i, fin, .nil, .nil, hf, q => by
    subst hf
    exact PySem.W.kat_nil q
  | _, _, _, _, i, fin, .nil, .cons n t r, hf, q => by
    subst hf
    exact PySem.W.kat_nil q
  | _, _, _, _, i, fin, .cons n t r, .nil, hf, q => by
    subst hf
    exact PySem.W.kat_nil q
  | _, _, _, _, i, fin, .cons (ns := xs) a t r, .cons (ns := ys) b u r', hf, q => by
    refine PySem.W.kat_cons (wpAny_eqBool_int ?_)
    unfold ltL at q
    by_cases e : a = b
    · subst e
      rw [if_neg (Int.lt_irrefl a), if_neg (Int.lt_irrefl a)] at q
      rw [beq_self_eq_true]
      exact PySem.W.kat_yes (lexL_ints c (i + 1) fin r r' (by simpa using hf) q)
    · rw [beq_eq_false_iff_ne.mpr e]
      refine PySem.W.kat_no (TS.oneLt_ints _ ?_)
      by_cases l : a < b
      · rw [if_pos l] at q
        rw [decide_eq_true l]; exact q
      · rw [if_neg l, if_pos (by omega)] at q
        rw [decide_eq_false l]; exact q
/-- all are tuples of ints, k tells them -/
def Tups1 (h : Heap) (k : Value → List Int) (vs : List Value) : Prop := ∀ v ∈ vs, TS.TupInts h v (k v)
theorem Tups1.keeps {h h' : Heap} {k : Value → List Int} {vs : List Value} (x : Tups1 h k vs) (g : ∀ b o, h.get? b = some o → o.cls = .type "tuple" → h'.get? b = some o) : Tups1 h' k vs := fun v hv => (x v hv).keeps g
theorem firsts1 {h : Heap} {k : Value → List Int} : ∀ vs : List Value, Tups1 h k vs → (∀ v ∈ vs, k v ≠ []) → ∃ fs, PySem.W.KatTups h vs fs ∧ fs.length = vs.length ∧ ∀ f, f ∈ fs → ∃ n t, f = Value.int n t
  | [], _, _ => ⟨[], trivial, rfl, fun f hf => nomatch hf⟩
  | v :: vs, x, ne => by
    obtain ⟨fs, h1, h2, h3⟩ := firsts1 vs (fun u hu => x u (by simp [hu])) fun u hu => ne u (by simp [hu])
    obtain ⟨a, xs, rfl, ⟨o, ho, hc, n, hd⟩, ia⟩ := x v (by simp)
    have nk := ne _ (List.mem_cons_self (a := Value.ref a) (l := vs))
    generalize hq : k (Value.ref a) = q at ia nk
    generalize hl : xs.toList = l at ia
    cases ia with
    | nil => exact absurd rfl nk
    | cons i t r =>
      refine ⟨.int i t :: fs, PySem.W.KatTups.cons ho hc hd ?_ h1, by simp [h2], fun f hf => ?_⟩
      · rw [← Array.getElem?_toList, hl]; rfl
      · rcases List.mem_cons.mp hf with e | hf
        · exact ⟨_, _, e⟩
        · exact h3 f hf
theorem tups_cmp {k : Value → List Int} {vs : List Value} (x : Tups1 s.heap k vs) : SrtO.Cmp prog w A s (tuples' true) (fun p => p.1 ∈ vs) (SrtO.lt2 fun v u => ltL (k v) (k u)) := by
  intro p q hm hm'
  have h1 := x _ hm
  have h2 := x _ hm'
  show wpAny (model prog w) A (keyLt' (tuples' true) p.1 q.1) (fun r s' => s' = s ∧ r = ltL (k p.1) (k q.1)) (fun _ _ => False) s
  generalize k p.1 = xs at h1 ⊢
  generalize k q.1 = ys at h2 ⊢
  obtain ⟨a, us, e, ⟨o, ho, hc, n, hd⟩, ia⟩ := h1
  obtain ⟨a', us', e', ⟨o', ho', hc', n', hd'⟩, ia'⟩ := h2
  rw [e, e']
  refine PySem.W.kat_lt ho hd ho' hd' ?_
  have l1 := IntsAre.length ia
  have l2 := IntsAre.length ia'
  rw [Array.length_toList] at l1 l2
  exact lexL_ints true 0 _ ia ia' (by rw [l1, l2]) ⟨rfl, rfl⟩
theorem tups_sortableO {a : Addr} {k : Value → List Int} {vs : List Value} (h0 : 0 < vs.length) (x : Tups1 s.heap k vs) (ne : ∀ v ∈ vs, k v ≠ []) (ha : ∀ o, s.heap.get? a = some o → o.cls ≠ .type "tuple") : SrtO.SortableO prog w A s a vs fun v u => ltL (k v) (k u) := by
  intro h' keep
  have x' : Tups1 h' k vs := x.keeps fun b o e c => keep b o (fun z => by subst z; exact ha o e c) e
  obtain ⟨fs, h1, h2, h3⟩ := firsts1 vs x' ne
  refine ⟨tuples' true, fun Q E hq => ?_, tups_cmp x'⟩
  refine PySem.W.kat_kind (T := .type "int") h1 (by omega) (fun f hm => ?_) (by rfl) ?_
  · obtain ⟨n, t, rfl⟩ := h3 f hm
    exact PySem.W.Looks.now
  · have e : (Value.type "int" != Value.type "tuple") = true := by first | decide +kernel | rfl | decide
    rw [e]
    exact hq
theorem swo_k (k : Value → List Int) : SrtO.Swo fun v u => ltL (k v) (k u) := ⟨fun x y h => ltL_swo.asym _ _ h, fun x y z h1 h2 => ltL_swo.tr _ _ _ h1 h2⟩
end
end TS2
/-! DL27: sorted(xs), sorted(set(xs)), len(set(xs)). -/
namespace L2
open PySem PySem.Spec PyProof.Rows DL
theorem perm_map_back {α β : Type} (f : α → β) : ∀ (m : List α) (l : List β), l.Perm (m.map f) → ∃ m' : List α, m'.Perm m ∧ l = m'.map f
  | [], l, h => ⟨[], .refl _, List.Perm.eq_nil h⟩
  | a :: m, l, h => by
    have hm : f a ∈ l := h.mem_iff.mpr (by simp)
    obtain ⟨l1, l2, e⟩ := List.append_of_mem hm
    subst e
    have h' : (l1 ++ l2).Perm (m.map f) := ((List.perm_middle.symm.trans h)).cons_inv
    obtain ⟨m', p, e⟩ := perm_map_back f m _ h'
    obtain ⟨m1, m2, rfl, e1, e2⟩ := List.map_eq_append_iff.mp e.symm
    refine ⟨m1 ++ a :: m2, List.perm_middle.trans (p.cons a), ?_⟩
    rw [List.map_append, List.map_cons, e1, e2]
theorem stS_of {α : Type} {lt : α → α → Bool} (O : STot lt) : ∀ {l : List α}, StW lt l → l.Nodup → StS lt l
  | [], _, _ => .nil
  | x :: l, h, n => by
    have h' := List.pairwise_cons.mp h
    have n' := List.nodup_cons.mp n
    refine List.pairwise_cons.mpr ⟨fun y hy => ?_, stS_of O h'.2 n'.2⟩
    cases q : lt x y with
    | true => rfl
    | false => exact absurd (O.tri x y q (h'.1 y hy)) fun e => n'.1 (e ▸ hy)
section
variable {P : Program} {w : World} {A : Around} {E : Value → Shared → Prop} {s : Shared}
abbrev refs (ps : List (Addr × List Int)) : List Value := ps.map fun p => Value.ref p.1
abbrev vrefs (ps : List (Addr × List Int)) : List V := ps.map fun p => V.ref p.1
theorem refs_keys {h : Heap} {L : List (Addr × List Int)} (hk : ∀ p ∈ L, IsT P w h p.2 p.1) : (refs L).map (TS.intsOf h) = L.map (·.2) := by
  rw [List.map_map]
  exact List.map_congr_left fun p hp => (tupInts_of (hk p hp)).ints
theorem refs_tups {h : Heap} {L : List (Addr × List Int)} (hk : ∀ p ∈ L, IsT P w h p.2 p.1) : TS2.Tups1 h (TS.intsOf h) (refs L) := fun v hv => by
  obtain ⟨p, hp, e⟩ := List.mem_map.mp hv
  subst e
  have q := tupInts_of (hk p hp)
  rw [q.ints]; exact q
/-- what a sort leaves of tuples -/
theorem refs_out {h : Heap} {L : List (Addr × List Int)} {out : List Value} (hk : ∀ p ∈ L, IsT P w h p.2 p.1) (h1 : SrtO.Srtd (fun v u => ltL (TS.intsOf h v) (TS.intsOf h u)) out) (h2 : out.Perm (refs L)) :
    ∃ L' : List (Addr × List Int), L'.Perm L ∧ out = refs L' ∧ StW ltL (L'.map (·.2)) := by
  obtain ⟨L', p, e⟩ := perm_map_back _ L out h2
  refine ⟨L', p, e, ?_⟩
  rw [← refs_keys (h := h) fun q hq => hk q (p.mem_iff.mp hq), show refs L' = out from e.symm]
  exact List.pairwise_map.mpr h1
/-- sorted(l), tuples of ints -/
theorem srt_list {l : Addr} {L : List (Addr × List Int)} {Q : Value → Shared → Prop} (hl : s.heap.IsList l (refs L).toArray) (hz : L.length ≤ sizeLine) (hk : ∀ p ∈ L, IsT P w s.heap p.2 p.1) (hne : 2 ≤ L.length → ∀ p ∈ L, p.2 ≠ [])
    (h : ∀ L' : List (Addr × List Int), L'.Perm L → StW ltL (L'.map (·.2)) → Q (.ref (s.heap.objs.size + 1)) { s with heap := sortedAll s.heap (refs L) (refs L').toArray }) :
    wpAny (model P w) A (call (.builtin "sorted") [.ref l]) Q E s := by
  refine SrtO.sorted_ord (TS2.swo_k (TS.intsOf s.heap)) hl (by simpa using hz) (fun h2 h₁ a ha kk => ?_) fun out hs hb => ?_
  · have h2' : 2 ≤ L.length := by simpa using h2
    refine TS2.tups_sortableO (s := { s with heap := h₁ }) (by omega) ((refs_tups hk).keeps fun b o e _ => (kk b o e).2) (fun v hv => ?_) fun o e c => ?_
    · obtain ⟨p, hp, rfl⟩ := List.mem_map.mp hv
      rw [(tupInts_of (hk p hp)).ints]
      exact hne h2' p hp
    · cases e.symm.trans ha
      exact absurd (Value.type.inj c) (by decide)
  · obtain ⟨L', p, rfl, q⟩ := refs_out hk hs hb.perm
    exact h L' p q
/-- sorted(a), a a set of tuples of ints -/
theorem srt_set {a : Addr} {L : List (Addr × List Int)} {es : Array (Int × Value)} {ep : Nat} {t : SetTable} {Q : Value → Shared → Prop} (R : SetTR P w s.heap a L es ep t) (hh : A.handled = none) (hne : 2 ≤ L.length → ∀ p ∈ L, p.2 ≠ [])
    (hQ : ∀ s' p (c : Nat) (L' : List (Addr × List Int)), (∀ b o, s.heap.get? b = some o → s'.heap.get? b = some o) → s'.gens = s.gens → s'.os = s.os → s.heap.objs.size ≤ p → s'.heap.get? p = some (seqObj "list" (refs L').toArray c) → L'.Perm L → StS ltL (L'.map (·.2)) → Q (.ref p) s') :
    wpAny (model P w) A (call (.builtin "sorted") [.ref a]) Q E s := by
  have hsz := R.size; have few := R.few
  have ob := R.ob
  rcases ob with ⟨o, ho, hex, hd⟩
  apply Calls.call_function_entry kind_sorted plain_sorted entry_sorted (args_sorted1 _); unfold Builtin.«sorted»
  apply wpAny_bind (m := checkCount "sorted" 1 1 _); apply wpAny_pure
  refine wpAny_bind (collect_set (A := A.in1) hh ⟨o, ho, hex.1, hd⟩ R.fits (by unfold scanBound; omega) R.tab.ris R.led (fun s1 vs k1 hz g1 o1 pm => ?_))
  have hv : es.toList.map (fun x => x.2) = refs L := by rw [R.rows]; unfold rowsOf refs; rw [List.map_map]; rfl
  have pm' : vs.Perm (refs L) := hv ▸ pm
  obtain ⟨L1, p1, rfl⟩ := perm_map_back _ L vs pm'
  have l1 := p1.length_eq
  have hk1 : ∀ p ∈ L1, IsT P w (s1.heap.push (seqObj "list" (refs L1).toArray 0)) p.2 p.1 := fun p hp => isT_keep (R.tup p (p1.mem_iff.mp hp)) fun b u e => Heap.get?_push_of_some _ (k1 b u e)
  refine wpAny_bind (wpAny_newList ?_ (by rw [List.length_map, sizeLine_eq]; omega))
  have at1 : (s1.heap.push (seqObj "list" (refs L1).toArray 0)).get? s1.heap.objs.size = some (seqObj "list" (refs L1).toArray 0) := Heap.get?_push_size _ rfl
  apply wpAny_bind; apply wpAny_holding
  refine wpAny_call_entry slot_list_sort ⟨_, at1, rfl⟩ entry_list_sort (SrtO.list_sort_ord (s := { s1 with heap := s1.heap.push (seqObj "list" (refs L1).toArray 0) })
    (TS2.swo_k (TS.intsOf (s1.heap.push (seqObj "list" (refs L1).toArray 0)))) at1 (by rw [List.length_map, sizeLine_eq]; omega) (fun h2 => ?_) fun out a1 a2 => ⟨_, rfl, ?_⟩) (args_list_sort _)
  · have h2' : 2 ≤ L.length := by rw [List.length_map] at h2; omega
    refine TS2.tups_sortableO (by omega) (refs_tups hk1) (fun v hv => ?_) fun o e c => ?_
    · obtain ⟨p, hp, rfl⟩ := List.mem_map.mp hv
      rw [(tupInts_of (hk1 p hp)).ints]
      exact hne h2' p (p1.mem_iff.mp hp)
    · cases e.symm.trans at1
      exact absurd (Value.type.inj c) (by decide)
  · obtain ⟨L', p, rfl, q⟩ := refs_out hk1 a1 a2.perm
    obtain ⟨c, hc⟩ := sortedHeap_at (vs := refs L1) (out := (refs L').toArray) at1
    refine wpAny_pure ⟨_, rfl, hQ _ s1.heap.objs.size c L' (fun b u e => ?_) g1 o1 hz hc (p.trans p1) (stS_of ltL_tot q (((p.trans p1).map _).nodup_iff.mpr R.nd))⟩
    have old := k1 b u e
    have lt := Heap.lt_size old
    show (sortedHeap (s1.heap.push (seqObj "list" (refs L1).toArray 0)) s1.heap.objs.size (refs L1) (refs L').toArray).get? b = some u
    rw [sortedHeap_old (Nat.ne_of_lt lt) (by rw [size_push']; exact Nat.lt_succ_of_lt lt)]
    exact Heap.get?_push_of_some _ old
end
end L2
/-! DL28: the set of a list of ints. -/
namespace L2
open PySem PySem.Spec PyProof.Rows DL
abbrev newSet (w : World) : Obj := { cls := .type "set", dict := none, data := .set #[] 0 (.fresh 0 0 (!w.params.followText "set-order")) }
section
variable {P : Program} {w : World} {A : Around} {E : Value → Shared → Prop} {s : Shared}
/-- set.__init__ of the new set and a list of ints -/
theorem init_ints {l : Addr} {items : Array Value} {ns : List Int} (hh : A.handled = none) (hl : s.heap.IsList l items) (hit : IntsAre items.toList ns) (hb : ns.length + 1 < scanBound) {Q : Value → Shared → Prop}
    (h : ∀ (h' : Heap) (tk c : Nat), SetR w h' s.heap.objs.size (fun j => decide (j ∈ ns)) c → c ≤ ns.length → (∀ b o, s.heap.get? b = some o → h'.get? b = some o) → Q (.ref s.heap.objs.size) { s with heap := h', toks := tk }) :
    wpAny (model P w) A (call (.type "set") [.ref l]) Q E s := by
  have hisz : items.size = ns.length := by have := IntsAre.length hit; rwa [Array.length_toList] at this
  have lS : l < s.heap.objs.size := by obtain ⟨ol, hol, _⟩ := hl; exact Heap.lt_size hol
  rcases F.called_set.mro with ⟨c, tl, hmro⟩
  have hmade := F.called_set.made; have hsub := F.called_set.sub; have h1 := F.called_set.notType; have h2 := F.called_set.canCreate; have hct := F.typeCall_set_1 (.ref l)
  apply wpAny_call; apply codeAny_of_tree; show wpAny _ _ (callAny (.type "set") _) _ _ _
  apply wpAny_pure; refine ⟨Code.quiet_builtin _ (by decide +kernel), codeAny_builtin F.entry_type_call ?_⟩
  rewrite [Around.under_plain (weight_type_call_type "set" [.ref l] []) rfl]
  repeat (any_goals first | assumption | wp_step)
  refine codeAny_mono (code_set_led1 (.ref l) (E := E) (Q₁ := fun v s₁ => v = .ref s.heap.objs.size ∧ s₁ = { s with heap := s.heap.push (newSet w) }) ⟨rfl, rfl⟩) (fun r s₁ hr => ?_)
  rcases r with e | fl; exact hr
  cases fl with
  | ret v => ?_
  | _ => exact hr.elim
  rcases hr with ⟨rfl, rfl⟩
  have hS : (s.heap.push (newSet w)).get? s.heap.objs.size = some (newSet w) := Heap.get?_push_size _ rfl
  have hT : Shared.TypeIs { s with heap := s.heap.push (newSet w) } (.ref s.heap.objs.size) "set" := ⟨_, hS, rfl⟩
  have hli := F.called_set.init.lookup; have hbi := F.called_set.init.bind (.ref s.heap.objs.size)
  repeat (any_goals first | assumption | wp_step)
  refine codeAny_mono (codeAny_call_builtin (R := wants (fun r s₂ => r = .none ∧ ∃ h' tk c, s₂ = { s with heap := h', toks := tk } ∧ SetR w h' s.heap.objs.size (fun j => decide (j ∈ ns)) c ∧ c ≤ ns.length ∧ ∀ b o, s.heap.get? b = some o → h'.get? b = some o) E)
    F.called_set.init.plain F.entry_set_init (check_set_init_1 hT ?_)) (fun r₂ s₂ hr₂ => ?_)
  · have hl0 := hl.push (newSet w)
    have hl1 := hl0
    obtain ⟨⟨ocls, odict, odata, oslots⟩, hol, hcl, nl, hdl⟩ := hl0
    simp only at hcl hdl; subst hcl; subst hdl
    have hsls := F.sub_list_set; have hslf := F.sub_list_frozenset
    have hne : (Value.type "list" == Value.type "dict") = false := by decide
    unfold Builtin.«set.__init__» noKeywords Builtin.Frozenset.updateFrom; generalize hPI : pyIter = PI; wp_walk; subst hPI
    apply wpAny_pyIter_list hl1
    apply wpAny_bind; apply wpAny_runValue
    have hz1 : (s.heap.push (newSet w)).objs.size = s.heap.objs.size + 1 := Heap.size_push ..
    have hneI : l ≠ (s.heap.push (newSet w)).objs.size := by rw [hz1]; exact Nat.ne_of_lt (Nat.lt_succ_of_lt lS)
    have hSf : s.heap.objs.size ∉ [(s.heap.push (newSet w)).objs.size, l] := by
      rw [hz1]; intro q
      rcases List.mem_cons.mp q with q | q
      · exact absurd q (Nat.ne_of_lt (Nat.lt_succ_self _))
      · exact absurd (List.mem_singleton.mp q) (Nat.ne_of_gt lS)
    have hval : ∀ (i : Nat) (v : Value), items[i]? = some v → ∃ k t, ns[i]? = some k ∧ v = .int k t := fun i v hv => by
      have hi : i < ns.length := hisz ▸ (Array.getElem?_eq_some_iff.mp hv).1
      obtain ⟨t, e⟩ := PyProof.Rows.IntsAre.int_at hit i v (by rw [Array.getElem?_toList]; exact hv)
      exact ⟨ns[i], t, List.getElem?_eq_getElem hi, by rw [e, List.getD_eq_getElem?_getD, List.getElem?_eq_getElem hi]; rfl⟩
    refine set_update_ints ((Walks.list (A := A.in1.in1.in1) (by simp [hh]) _ l hneI items).toS) s.heap.objs.size hSf ns hisz hb hval (items.size - 0) 0 _ (by omega) (Nat.zero_le _) ⟨⟨_, Heap.get?_push_size _ rfl, rfl, rfl⟩, hl1.push _⟩ ⟨0, Nat.le_refl 0, setR_new_at (Heap.get?_push_of_some _ hS)⟩ (fun s' c' hm hc' hS' => ?_)
    rcases s' with ⟨h', g2, d', tk', os'⟩
    have eg : g2 = s.gens := hm.gens; have ed : d' = s.drawn := hm.drawn; have eo : os' = s.os := hm.os
    subst eg ed eo
    show wpAny _ _ _ _ _ _; apply wpAny_pure; show wpAny _ _ (ret Value.none) _ _ _
    refine wpAny_pure ⟨rfl, h', tk', c', rfl, hS', hisz ▸ hc', fun b o e => ?_⟩
    have hb0 := Heap.lt_size e
    refine hm.heap b o ?_ (Heap.get?_push_of_some _ (Heap.get?_push_of_some _ e))
    intro q
    rcases List.mem_cons.mp q with q | q
    · exact absurd q (Nat.ne_of_lt hb0)
    · rw [hz1] at q; exact absurd (List.mem_singleton.mp q) (Nat.ne_of_lt (Nat.lt_succ_of_lt hb0))
  · rcases r₂ with e | fl₂; exact hr₂
    cases fl₂ with
    | ret r => ?_
    | _ => exact hr₂.elim
    rcases hr₂ with ⟨rfl, h', tk, c', rfl, hS', hc', hk'⟩
    repeat (any_goals first | assumption | wp_step)
    exact h _ _ _ hS' hc' hk'
end
end L2
/-! DL29: sorted(set(xs)), sorted(xs). -/
namespace L2
open PySem PySem.Spec PyProof.Rows DL
section
variable {X : Cx}
/-- sorted(set(x)) of a list of ints, of tuples of ints -/
def rSrtSet (K : PySem.W.Frag) : V → Hp → VK → Prop := fun x H Q => ∃ l, x = V.ref l ∧
  ((∃ ns : List Int, SqL K H l (ns.map V.int) ∧ ns.length < 64 ∧ ∀ p, H p = none → Q (.ref p) (upd H p (.lst ((srtS ltI ns).map V.int)))) ∨
   (∃ ps : List (Addr × List Int), SqL K H l (vrefs ps) ∧ (∀ p ∈ ps, SqT K H p.1 (p.2.map V.int)) ∧ ps.length < 64 ∧ (2 ≤ (srtS ltL (ps.map (·.2))).length → ∀ p ∈ ps, p.2 ≠ []) ∧
     ∀ (ps' : List (Addr × List Int)) (p : Addr), (∀ q ∈ ps', q ∈ ps) → ps'.map (·.2) = srtS ltL (ps.map (·.2)) → H p = none → Q (.ref p) (upd H p (.lst (vrefs ps')))))
/-- sorted(x) of such a list, of any length -/
def rSrt (K : PySem.W.Frag) : List V → Hp → VK → Prop := fun xs H Q => ∃ l, xs = [V.ref l] ∧
  ((∃ ns : List Int, SqL K H l (ns.map V.int) ∧ ∀ p, H p = none → Q (.ref p) (upd H p (.lst ((srtW ltI ns).map V.int)))) ∨
   (∃ ps : List (Addr × List Int), SqL K H l (vrefs ps) ∧ (∀ p ∈ ps, SqT K H p.1 (p.2.map V.int)) ∧ (2 ≤ ps.length → ∀ p ∈ ps, p.2 ≠ []) ∧
     ∀ (ps' : List (Addr × List Int)) (p : Addr), (∀ q ∈ ps', q ∈ ps) → ps'.map (·.2) = srtW ltL (ps.map (·.2)) → H p = none → Q (.ref p) (upd H p (.lst (vrefs ps')))))
theorem vals_rfs : ∀ {ps : List (Addr × List Int)} {us : List Value}, Vals (vrefs ps) us → us = refs ps
  | [], _, .nil => rfl
  | p :: ps, _, .cons r t => by cases r; rw [vals_rfs t]; rfl
theorem refs_vals : ∀ (ps : List (Addr × List Int)), Vals (vrefs ps) (refs ps)
  | [] => .nil
  | p :: ps => .cons rfl (refs_vals ps)
/-- a new list at p -/
theorem Inv.newL {pins : List (Addr × Obj)} {σ : St} {H : Hp} {s s' : Shared} {p : Addr} {xs : List V} {its : List Value} {c : Nat} (I : Inv X pins σ H s) (k : ∀ b o, s.heap.get? b = some o → s'.heap.get? b = some o) (g : s'.gens = s.gens) (o : s'.os = s.os)
    (hp : s.heap.objs.size ≤ p) (hg : s'.heap.get? p = some (seqObj "list" its.toArray c)) (hv : Vals xs its) (hl : xs.length ≤ sizeLine) : H p = none ∧ Inv X pins σ (upd H p (.lst xs)) s' := by
  have hn : H p = none := I.hok.fresh hp
  have J : Inv X pins σ (upd H p (.lst xs)) { s with heap := s'.heap, gens := s'.gens, drawn := s'.drawn, toks := s'.toks } :=
    I.call (ch := []) (Un.laid k hp hn) (I.hok.laid k hp ⟨hl, its, c, hv, hg⟩) (by rw [g]; exact I.bare) (fun _ z => nomatch z)
  refine ⟨hn, ?_⟩
  cases s'; cases s; cases o
  exact J
theorem pe_srtSet {a : Expr} {ta : TE} {p p2 q pos : Pos} (hc : X.calm = true) (hu : X.A.units + 65 < cLine) (hg : Gl X "sorted") (hm : X.mg "sorted" = none) (hg2 : Gl X "set") (hm2 : X.mg "set" = none) (ha : PE X a ta)
    (na : starEach [a] X.env = (false, eval a X.env) :: starEach [] X.env := by rfl) : PE X (.Call (.Name "sorted" p) [.Call (.Name "set" p2) [a] [] q] [] pos) (fun σ H Q => ta σ H fun x H1 => rSrtSet X.K x H1 Q) := by
  refine ⟨fun pins s σ H Q I h => ?_⟩
  refine Call_ (ld_blt I hg hm Boot.«sorted» ?_)
  refine PyProof.Rows.callWith_builtin1 (PyProof.Rows.args_cons ?_ rfl) rfl rfl
  refine Call_ (ld_blt I hg2 hm2 PyProof.Rows.boot_set ?_)
  refine PyProof.Rows.callWith_type1 (PyProof.Rows.args_cons (thn (ha.run pins s σ H _ I h) fun v s1 ⟨x, H1, I1, r1, q1⟩ => PyProof.Rows.args_nil ?_) na) na rfl
  obtain ⟨l, rfl, q1⟩ := q1
  cases r1
  rcases q1 with ⟨ns, hq, h1, q1⟩ | ⟨ps, hq, hk, h1, hne, q1⟩
  · obtain ⟨its, r, pl, hz⟩ := I1.list hq
    refine init_ints (P := X.prog) (w := X.w) (I1.ok.hd hc) pl.isList (ns := ns) (by simpa using r.ints) (by unfold scanBound; omega) fun h' tk c hS hc' k => PyProof.Rows.args_nil ?_
    refine sorted_set hS (I1.ok.hd hc) (by omega) fun s' p out c ns' k' g o hp hg hi hpw hm hn => ?_
    have e : srtS ltI ns = ns' := srtS_of ltI_tot (hpw.imp fun {x y} z => decide_eq_true z) fun z => (hm z).trans (by simp)
    have lt : ns'.length < 64 := by omega
    obtain ⟨n, J⟩ := (I1.kept (t' := tk) k).newL (its := out.toList) (xs := (srtS ltI ns).map V.int) (c := c) (fun b u z => k' b u z) g o hp (by simpa using hg) (by rw [e]; exact vals_of_ints hi) (by rw [List.length_map, e, sizeLine_eq]; omega)
    exact ⟨V.ref _, _, J, rfl, q1 p n⟩
  · obtain ⟨its, r, pl, hz⟩ := I1.list hq
    refine call_set_tups (P := X.prog) (w := X.w) ps (I1.ok.hd hc) pl.isList (by simpa using vals_rfs r) (fun p hp => I1.isT (hk p hp)) h1 (by omega) fun h' tk L es ep t R g k => PyProof.Rows.args_nil ?_
    have sub : ∀ p ∈ L, p ∈ ps := fun p hp => List.mem_of_mem_take (g.sub p hp)
    have same : ∀ z, z ∈ L.map (·.2) ↔ z ∈ ps.map (·.2) := fun z => by
      constructor
      · intro q
        obtain ⟨p, hp, e⟩ := List.mem_map.mp q
        exact List.mem_map.mpr ⟨p, sub p hp, e⟩
      · intro q
        obtain ⟨p, hp, e⟩ := List.mem_map.mp q
        exact e ▸ g.all p (by rw [List.take_length]; exact hp)
    have ln : (srtS ltL (ps.map (·.2))).length = L.length := by
      rw [← srtS_congr ltL_tot same, srtS_len ltL_tot, ndl_nodup R.nd, List.length_map]
    refine srt_set (s := { s1 with heap := h', toks := tk }) R (I1.ok.hd hc) (fun h2 p hp => hne (by omega) p (sub p hp)) fun s' p c L' k' g' o hp hg hP hS => ?_
    have e : L'.map (·.2) = srtS ltL (ps.map (·.2)) := (srtS_of ltL_tot hS fun z => (hP.map (fun x : Addr × List Int => x.2)).mem_iff.trans (same z)).symm
    have few : L'.length < 64 := by rw [hP.length_eq]; exact R.few
    obtain ⟨n, J⟩ := (I1.kept (t' := tk) k).newL (its := refs L') (xs := vrefs L') (c := c) (fun b u z => k' b u z) g' o hp hg (refs_vals L') (by rw [List.length_map, sizeLine_eq]; omega)
    exact ⟨V.ref _, _, J, rfl, q1 L' p (fun q hq => sub q (hP.mem_iff.mp hq)) e n⟩
theorem cr_srt : CallR X (.builtin "sorted") (rSrt X.K) := by
  intro pins s σ H vs us Q I r h
  obtain ⟨l, rfl, h⟩ := h
  rcases h with ⟨ns, hq, q⟩ | ⟨ps, hq, hk, hne, q⟩
  · refine cr_sortedI pins s σ H _ us Q I r ⟨l, ns, rfl, hq, fun ns' p h1 h2 hn => ?_⟩
    have e : srtW ltI ns = ns' := srtW_of ltI_tot (h2.imp fun {x y} z => decide_eq_false (by omega)) h1
    exact e ▸ q p hn
  · obtain ⟨its, rv, hl, hz⟩ := I.list hq
    rw [Vals.ref1 r]
    have ei := vals_rfs rv
    subst ei
    refine srt_list (P := X.prog) (w := X.w) hl.isList (by rw [List.length_map] at hz; exact hz) (fun p hp => I.isT (hk p hp)) hne fun L' hP hS => ?_
    obtain ⟨ep, he'⟩ := PyProof.Rows.sortedAll_at s.heap (refs ps) (refs L').toArray
    have e : L'.map (·.2) = srtW ltL (ps.map (·.2)) := (srtW_of ltL_tot hS (hP.map _)).symm
    obtain ⟨n, J⟩ := I.newL (s' := { s with heap := sortedAll s.heap (refs ps) (refs L').toArray }) (its := refs L') (xs := vrefs L') (c := ep) (fun b u z => sortedAll_old z) rfl rfl (Nat.le_succ _) he' (refs_vals L') (by rw [List.length_map, hP.length_eq]; rw [List.length_map] at hz; exact hz)
    exact ⟨V.ref _, _, J, rfl, q L' _ (fun q hq => hP.mem_iff.mp hq) e n⟩
end
end L2
namespace DL
open PySem PySem.Spec PyProof.Rows L2
def tupI (k : List Int) : D := .tup (k.map .int)
def tupsD : List D → Option (List (List Int))
  | [] => some []
  | .tup xs :: ds => match intsD xs, tupsD ds with
    | some k, some ks => some (k :: ks)
    | _, _ => none
  | _ :: _ => none
theorem intsD_map (ns : List Int) : intsD (ns.map D.int) = some ns := by
  induction ns with
  | nil => rfl
  | cons n ns ih => rw [List.map_cons, intsD, ih]; rfl
theorem tupsD_map (ks : List (List Int)) : tupsD (ks.map tupI) = some ks := by
  induction ks with
  | nil => rfl
  | cons k ks ih =>
    show (match intsD (k.map D.int), tupsD (ks.map tupI) with
    | some k, some ks => some (k :: ks)
    | _, _ => none) = _
    rw [intsD_map, ih]
theorem intsD_is : ∀ {ds : List D} {k : List Int}, intsD ds = some k → ds = k.map D.int
  | [], k, e => by cases e; rfl
  | d :: ds, k, e => by
    cases d with
    | int i =>
      rw [intsD, Option.map_eq_some_iff] at e
      obtain ⟨k', e1, rfl⟩ := e
      rw [intsD_is e1]; rfl
    | _ => cases e
theorem rps_tups {K : PySem.W.Frag} {mg : Str → Option Value} {Z : Addr → Prop} {H : Hp} : ∀ {ds : List D} {vs : List V} {ks : List (List Int)}, Rps K mg Z H ds vs → tupsD ds = some ks →
    ∃ ps : List (Addr × List Int), vs = vrefs ps ∧ ps.map (·.2) = ks ∧ (∀ p ∈ ps, SqT K H p.1 (p.2.map V.int)) ∧ ∀ p ∈ ps, Rp K mg Z H (tupI p.2) (.ref p.1)
  | [], _, _, .nil, e => by cases e; exact ⟨[], rfl, rfl, (fun _ h => nomatch h), (fun _ h => nomatch h)⟩
  | d :: ds, _, ks, .cons r t, e => by
    cases d with
    | tup xs =>
      rw [tupsD] at e
      split at e
      · rename_i k ks' e1 e2
        cases e
        obtain ⟨ps, rfl, e3, h1, h2⟩ := rps_tups t e2
        have ex := intsD_is e1
        subst ex
        cases r with
        | tup f q =>
          have ev := rps_ints q e1
          subst ev
          refine ⟨(_, k) :: ps, rfl, by rw [List.map_cons, e3], fun p hp => ?_, fun p hp => ?_⟩
          · rcases List.mem_cons.mp hp with z | z
            · subst z; exact f.sq
            · exact h1 p z
          · rcases List.mem_cons.mp hp with z | z
            · subst z; exact .tup f q
            · exact h2 p z
      · cases e
    | _ => cases e
theorem rps_of_tups {K : PySem.W.Frag} {mg : Str → Option Value} {Z : Addr → Prop} {H : Hp} : ∀ {ps : List (Addr × List Int)}, (∀ p ∈ ps, Rp K mg Z H (tupI p.2) (.ref p.1)) → Rps K mg Z H (ps.map fun p => tupI p.2) (vrefs ps)
  | [], _ => .nil
  | p :: ps, h => .cons (h p (by simp)) (rps_of_tups fun q hq => h q (by simp [hq]))
theorem rps_of_ints {K : PySem.W.Frag} {mg : Str → Option Value} {Z : Addr → Prop} {H : Hp} : ∀ (ns : List Int), Rps K mg Z H (ns.map D.int) (ns.map V.int)
  | [] => .nil
  | n :: ns => .cons (.int n) (rps_of_ints ns)
/-- all filled, or all empty -/
def evenT (ks : List (List Int)) : Bool := ks.all (fun k => !k.isEmpty) || ks.all (fun k => k.isEmpty)
def srtSetD : D → Option D
  | .lst xs => match intsD xs with
    | some ns => if ns.length < 64 then some (.lst ((srtS ltI ns).map .int)) else none
    | none => match tupsD xs with
      | some ks => if ks.length < 64 ∧ evenT ks = true then some (.lst ((srtS ltL ks).map tupI)) else none
      | none => none
  | _ => none
def sortedD : D → Option D
  | .lst xs => match intsD xs with
    | some ns => some (.lst ((srtW ltI ns).map .int))
    | none => match tupsD xs with
      | some ks => if ks.length < 2 ∨ ks.all (fun k => !k.isEmpty) = true then some (.lst ((srtW ltL ks).map tupI)) else none
      | none => none
  | _ => none
theorem even_ne {ks : List (List Int)} (h : evenT ks = true) (h2 : 2 ≤ (srtS ltL ks).length) : ∀ k ∈ ks, k ≠ [] := by
  rcases Bool.or_eq_true_iff.mp h with h | h
  · intro k hk e
    have := List.all_eq_true.mp h k hk
    subst e
    cases this
  · exfalso
    have all : ∀ k ∈ srtS ltL ks, k = [] := fun k hk => by
      have := List.all_eq_true.mp h k ((mem_srtS ltL_tot).mp hk)
      cases k with
      | nil => rfl
      | cons _ _ => cases this
    have s := srtS_sorted ltL_tot ks
    generalize srtS ltL ks = l at h2 all s
    match l, h2 with
    | a :: b :: l, _ =>
      have e1 := all a (by simp)
      have e2 := all b (by simp)
      have := (List.pairwise_cons.mp s).1 b (by simp)
      rw [e1, e2] at this
      cases this
    | [_], h2 => simp at h2
    | [], h2 => simp at h2
section
variable {X : Cx} {S : Sx} {C : Xd → Gm → Prop} {Δ Δ1 : Fl} {a : Expr} {m : Gm → R D} {k : Kd} {p p2 q pos : Pos}
theorem rd_srtSet {x : V} {H : Hp} {Q : VK} (h : rD1 X.K X.mg srtSetD true x H Q) : rSrtSet X.K x H Q := by
  obtain ⟨Z, d, u, zd, p1, h, q⟩ := h
  unfold srtSetD at h; split at h
  · obtain ⟨l, vs, rfl, f, r⟩ := p1.lst
    refine ⟨l, rfl, ?_⟩
    split at h
    · rename_i ns e
      split at h
      · rename_i hl
        cases h
        have ev := rps_ints r e
        subst ev
        exact .inl ⟨ns, f, hl, fun p hn => resL zd q (rps_of_ints _) hn⟩
      · cases h
    · split at h
      · rename_i ks e
        split at h
        · rename_i hl
          cases h
          obtain ⟨ps, rfl, ek, h1, h2⟩ := rps_tups r e
          subst ek
          refine .inr ⟨ps, f, h1, by simpa using hl.1, fun h3 p hp => even_ne hl.2 h3 _ (List.mem_map_of_mem hp), fun ps' p sub e hn => ?_⟩
          refine resL zd q ?_ hn
          rw [← e, List.map_map]
          exact rps_of_tups fun p hp => h2 p (sub p hp)
        · cases h
      · cases h
  · cases h
theorem de_srtSet (hu : X.A.units + 65 < cLine) (hm : X.mg "sorted" = none) (hm2 : X.mg "set" = none) (ha : DE X S C Δ a m Δ1 k) (hc : X.calm = true := by rfl) (hg : Gl X "sorted" := by rfl) (hg2 : Gl X "set" := by rfl)
    (na : starEach [a] X.env = (false, eval a X.env) :: starEach [] X.env := by rfl) : DE X S C Δ (.Call (.Name "sorted" p) [.Call (.Name "set" p2) [a] [] q] [] pos) (mUn srtSetD m) Δ1 .ow :=
  (pe_srtSet hc hu hg hm hg2 hm2 ha na).weak (un_fin (bo := true) (f := srtSetD) fun σ H Q ⟨Z, Γ, s, h⟩ => ⟨Z, Γ, s, h.mono (fun d Γ1 h1 Z1 H1 v g1 r1 => rd_srtSet (h1 Z1 H1 v g1 r1)) fun _ _ c => c⟩)
theorem cd_sorted : CallR X (.builtin "sorted") (rC1 X.K X.mg sortedD true) := cri cr_srt fun xs H Q ⟨x, ex, Z, d, u, zd, p1, h, q⟩ => by
  subst ex
  unfold sortedD at h; split at h
  · obtain ⟨l, vs, rfl, f, r⟩ := p1.lst
    refine ⟨l, rfl, ?_⟩
    split at h
    · rename_i ns e
      cases h
      have ev := rps_ints r e
      subst ev
      exact .inl ⟨ns, f, fun p hn => resL zd q (rps_of_ints _) hn⟩
    · split at h
      · rename_i ks e
        split at h
        · rename_i hl
          cases h
          obtain ⟨ps, rfl, ek, h1, h2⟩ := rps_tups r e
          subst ek
          refine .inr ⟨ps, f, h1, fun h3 p hp => ?_, fun ps' p sub e hn => ?_⟩
          · rcases hl with hl | hl
            · rw [List.length_map] at hl; omega
            · intro z
              have := List.all_eq_true.mp hl _ (List.mem_map_of_mem hp)
              rw [z] at this
              cases this
          · refine resL zd q ?_ hn
            rw [← e, List.map_map]
            exact rps_of_tups fun p hp => h2 p (sub p hp)
        · cases h
      · cases h
  · cases h
end
end DL
/-! DL30: range downwards, {i: j}. -/
namespace DL
open PySem PySem.Spec PyProof.Rows L2
theorem downD_get {lo : Int} {n i : Nat} (h : i < n) : (downD lo n)[i]? = some (.int (lo + (i : Nat) * (-1))) := by
  unfold downD
  rw [List.getElem?_map, List.getElem?_range h]; rfl
theorem downD_len {lo : Int} {n : Nat} : (downD lo n).length = n := by simp [downD]
theorem itdown_ok {K : PySem.W.Frag} {mg : Str → Option Value} {Z : Addr → Prop} {H : Hp} {lo : Int} {n : Nat} : ItOk K mg Z H (Itc lo (-1) n) (downD lo n) := fun i Z' H' g zd => by
  rw [downD_len]
  refine ⟨fun hi => ⟨hi, fun x H2 ⟨e, y⟩ => ?_⟩, fun hi => hi⟩
  subst e; subst y
  exact ⟨Z', _, downD_get hi, .refl zd, .int _⟩
def rg3 : D → D → D → Option (List D)
  | .int i, .int j, .int c => if -two62 ≤ i ∧ i < two62 ∧ -two62 ≤ j ∧ j < two62 ∧ c = -1 then some (downD i (i - j).toNat) else none
  | _, _, _ => none
def mR3 (m1 m2 m3 : Gm → R D) : Gm → R (List D) := fun Γ => (m1 Γ).bind fun d Γ1 => (m2 Γ1).bind fun e Γ2 => (m3 Γ2).bind fun f Γ3 => R.of (rg3 d e f) Γ3
section
variable {X : Cx} {S : Sx} {C : Xd → Gm → Prop} {Δ Δ1 Δ2 Δ3 : Fl} {tg a b c : Expr} {m1 m2 m3 : Gm → R D} {pos p : Pos}
theorem di_range3 (hm : X.mg "range" = none) (ha : DE X S C Δ a m1 Δ1 .im) (hb : DE X S C Δ1 b m2 Δ2 .im) (hc : DE X S C Δ2 c m3 Δ3 .im) (hg : Gl X "range" := by rfl)
    (hs : starEach [a, b, c] X.env = (false, eval a X.env) :: starEach [b, c] X.env := by rfl) (hpl : (backTo pos (starEach [b, c] X.env)).any (·.1) = false := by rfl)
    (hs2 : starEach (b :: [c]) X.env = (false, eval b X.env) :: starEach [c] X.env := by rfl) (hs3 : starEach (c :: []) X.env = (false, eval c X.env) :: starEach [] X.env := by rfl) :
    DI X S C Δ tg (.Call (.Name "range" p) [a, b, c] [] pos) (mR3 m1 m2 m3) Δ3 := PI_weak (pi_range3 hg hm (pa_cons ha (pa_cons hb (pa_cons hc pa_nil hs3) hs2) hs) hs hpl) fun σ H Q ⟨Z, Γ, s, h⟩ =>
    ⟨Z, Γ, s, h.bind.mono (fun d Γ1 h1 Z1 H1 v g1 r1 => ⟨Z1, Γ1, g1.s, h1.bind.mono (fun e Γ2 h2 Z2 H2 w g2 r2 => ⟨Z2, Γ2, g2.s, h2.bind.mono (fun f Γ3 h3 Z3 H3 u g3 r3 => by
  obtain ⟨items, hi, q⟩ := h3.of
  unfold rg3 at hi
  split at hi
  · split at hi
    · rename_i i j k hj
      cases hi
      obtain ⟨j1, j2, j3, j4, rfl⟩ := hj
      cases r1; cases r2; cases r3
      unfold two62 at *
      exact ⟨i, j, -1, _, rfl, RgC.neg (by omega) (by omega) (by omega) (by omega), q Z3 H3 _ ((g1.trans g2).trans g3) itdown_ok⟩
    · cases hi
  · cases hi) fun _ _ c => c⟩) fun _ _ c => c⟩) fun _ _ c => c⟩
theorem de_dct1 {i j : Int} {ci cj : Nat} {p1 p2 : Pos} : DE X S C Δ (.Dict [some (.Constant (.int i) ci p1)] [.Constant (.int j) cj p2] pos) (mC (.dct [(.int i, .int j)])) Δ .ow :=
  (pe_disp (pps_cons pe_int pe_int pps_nil) rfl rfl (by simp) (by show 1 ≤ 15; omega)).weak fun σ H Q ⟨Z, Γ, s, h⟩ => fun p np => by
    refine ⟨upd_same, [(.inl i, .int j)], rfl, by show 1 ≤ 15; omega, ?_⟩
    have e : upd (upd H p (.dK [])) p (.dK (mergeK [] [(.inl i, .int j)])) = upd H p (.dK [(.inl i, .int j)]) := by
      funext x
      by_cases hx : x = p
      · subst hx; rw [upd_same, upd_same]; rfl
      · rw [upd_ne hx, upd_ne hx, upd_ne hx]
    rw [e]
    have gl : Gr0 Z Z H (upd H p (.dK [(.inl i, .int j)])) := Gr0.lay np s.zd
    exact h Z _ _ (Go.gr0 s gl) ⟨p, rfl, .dctK upd_same (.cons rfl (.int j) .nil), s.freshZ np, s.freshO np, np⟩
/-- slots frozen behind an expression -/
theorem de_low {e : Expr} {m : Gm → R D} (h : DE X S C Δ e m Δ1 .im) (hs : sub Δ2 Δ1 = true) (hP : ∀ p ∈ S.PM, own Δ2 p.1) : DE X S C Δ e m Δ2 .im :=
  h.weak fun σ H Q ⟨Z, Γ, s, hq⟩ => ⟨Z, Γ, s, hq.mono (fun d Γ1 h1 Z1 H1 v g1 k1 => by
    obtain ⟨Z2, g2⟩ := g1.s.freezeGo hs hP
    have r1 : Rp X.K X.mg Z1 H1 d v := k1
    exact h1 Z2 H1 v (g1.trans g2) (r1.ag (g2.ag g1.s))) fun _ _ c => c⟩
end
end DL
/-! DL31: the rows of runs, made in place. -/
namespace DL
open PySem PySem.Spec PyProof.Rows L2
/-- one letter more -/
def stepR (rs : List (Int × Int)) (l : Int) : List (Int × Int) := match rs.getLast? with
  | some q => if q.1 = l then rs.dropLast ++ [(q.1, q.2 + 1)] else rs ++ [(l, 1)]
  | none => [(l, 1)]
def runsP (ns : List Int) : List (Int × Int) := ns.foldl stepR []
def rowD2 (q : Int × Int) : D := .lst [.int q.1, .int q.2]
/-- [some word, none, none] -/
def mRunRows : Gm → SE := fun Γ => match Γ with
  | [some (.tup ds), none, none] => match intsD ds with
    | some ns => if ns.length ≤ 1000 then .rt (.lst ((runsP ns).map rowD2)) Γ else .no
    | none => .no
  | _ => .no
theorem stepR_nil (l : Int) : stepR [] l = [(l, 1)] := rfl
theorem stepR_snoc (rs : List (Int × Int)) (q : Int × Int) (l : Int) : stepR (rs ++ [q]) l = if q.1 = l then rs ++ [(q.1, q.2 + 1)] else rs ++ [q] ++ [(l, 1)] := by
  unfold stepR
  simp
theorem runsP_snoc (ns : List Int) (l : Int) : runsP (ns ++ [l]) = stepR (runsP ns) l := by
  unfold runsP
  rw [List.foldl_append]; rfl
theorem stepR_len (rs : List (Int × Int)) (l : Int) : (stepR rs l).length ≤ rs.length + 1 := by
  rcases List.eq_nil_or_concat rs with e | ⟨r0, q, e⟩
  · subst e; simp [stepR_nil]
  · subst e
    rw [List.concat_eq_append, stepR_snoc]
    split <;> simp
theorem runsP_len : ∀ (ns : List Int), (runsP ns).length ≤ ns.length := by
  intro ns
  have : ∀ (ns : List Int) (rs : List (Int × Int)), (ns.foldl stepR rs).length ≤ rs.length + ns.length := by
    intro ns
    induction ns with
    | nil => intro rs; simp
    | cons a ns ih =>
      intro rs
      have h1 := ih (stepR rs a)
      have h2 := stepR_len rs a
      rw [List.foldl_cons, List.length_cons]
      omega
  have := this ns []
  unfold runsP
  simpa using this
/-- the rows at their addresses -/
inductive Rws (H : Hp) : List Addr → List (Int × Int) → Prop
  | nil : Rws H [] []
  | cons {a : Addr} {q : Int × Int} {as : List Addr} {rs : List (Int × Int)} : H a = some (.lst [.int q.1, .int q.2]) → Rws H as rs → Rws H (a :: as) (q :: rs)
theorem Rws.len {H : Hp} : ∀ {as : List Addr} {rs : List (Int × Int)}, Rws H as rs → as.length = rs.length
  | _, _, .nil => rfl
  | _, _, .cons _ r => by rw [List.length_cons, List.length_cons, Rws.len r]
theorem Rws.other {H H' : Hp} : ∀ {as : List Addr} {rs : List (Int × Int)}, Rws H as rs → (∀ a ∈ as, H' a = H a) → Rws H' as rs
  | _, _, .nil, _ => .nil
  | _, _, .cons h r, e => .cons ((e _ (List.mem_cons_self ..)).trans h) (r.other fun a ha => e a (List.mem_cons_of_mem _ ha))
theorem Rws.app {H : Hp} : ∀ {as bs : List Addr} {rs qs : List (Int × Int)}, Rws H as rs → Rws H bs qs → Rws H (as ++ bs) (rs ++ qs)
  | _, _, _, _, .nil, s => s
  | _, _, _, _, .cons h r, s => .cons h (r.app s)
theorem Rws.unapp {H : Hp} : ∀ {rs : List (Int × Int)} {as : List Addr} {q : Int × Int}, Rws H as (rs ++ [q]) → ∃ as0 a, as = as0 ++ [a] ∧ Rws H as0 rs ∧ H a = some (.lst [.int q.1, .int q.2])
  | [], _, q, .cons (a := a) h .nil => ⟨[], a, rfl, .nil, h⟩
  | r :: rs, _, q, .cons (a := b) h t => by
    obtain ⟨as0, a, rfl, h1, h2⟩ := t.unapp
    exact ⟨b :: as0, a, rfl, .cons h h1, h2⟩
theorem Rws.dp {K : PySem.W.Frag} {H : Hp} : ∀ {as : List Addr} {rs : List (Int × Int)}, Rws H as rs → DpAll K H (as.map V.ref) (rs.map fun q => .list [.int q.1, .int q.2])
  | _, _, .nil => .nil
  | _, _, .cons h r => .cons (.lst (.of h) (.cons (.int _) (.cons (.int _) .nil))) r.dp
theorem Rws.rps {K : PySem.W.Frag} {mg : Str → Option Value} {Z : Addr → Prop} {H : Hp} : ∀ {as : List Addr} {rs : List (Int × Int)}, Rws H as rs → (∀ a ∈ as, Z a) → Rps K mg Z H (rs.map rowD2) (as.map V.ref)
  | _, _, .nil, _ => .nil
  | _, _, .cons h r, z => .cons (.lst (.inl ⟨.inl h, z _ (List.mem_cons_self ..)⟩) (.cons (.int _) (.cons (.int _) .nil))) (r.rps fun a ha => z a (List.mem_cons_of_mem _ ha))
end DL
namespace DL
open PySem PySem.Spec PyProof.Rows L2
/-- what the loop keeps -/
structure RunI (K : PySem.W.Frag) (H : Hp) (w : Addr) (vs : List V) (rs : List (Int × Int)) (σ' : Sg) (H' : Hp) : Prop where
  ex : ∃ (p : Addr) (as : List Addr) (x : Option V), σ' = [some (.ref w), some (.ref p), x] ∧ H' p = some (.lst (as.map V.ref)) ∧ Rws H' as rs ∧ as.Nodup ∧ p ∉ as ∧ (∀ a o, H a = some o → H' a = some o) ∧ H p = none ∧ ∀ a ∈ as, H a = none
theorem sqT_frame {K : PySem.W.Frag} {H H' : Hp} {a : Addr} {xs : List V} (f : ∀ a o, H a = some o → H' a = some o) (h : SqT K H a xs) : SqT K H' a xs :=
  h.elim (fun h => .inl (h.elim (fun h => .inl (f _ _ h)) fun ⟨o, h⟩ => .inr ⟨o, f _ _ h⟩)) fun h => .inr h
section
variable {X : Cx} {B : Bx} {k : Nat}
theorem run_turn {H H1 : Hp} {K : PySem.W.Frag} {w : Addr} {vs : List V} {rs : List (Int × Int)} {l : Int} {p : Addr} {as : List Addr} (hp : H1 p = some (.lst (as.map V.ref))) (hr : Rws H1 as rs) (nd : as.Nodup) (np : p ∉ as) (fr : ∀ a o, H a = some o → H1 a = some o) (hp0 : H p = none) (ha0 : ∀ a ∈ as, H a = none) :
    (∀ rs0 q, rs = rs0 ++ [q] → q.1 = l → ∃ as0 a, as = as0 ++ [a] ∧ H1 a = some (.lst [.int q.1, .int q.2]) ∧ RunI K H w vs (stepR rs l) [some (.ref w), some (.ref p), some (.int l)] (upd H1 a (.lst [.int q.1, .int (q.2 + 1)]))) ∧
    ((∀ rs0 q, rs = rs0 ++ [q] → q.1 ≠ l) → ∀ b, H1 b = none → RunI K H w vs (stepR rs l) [some (.ref w), some (.ref p), some (.int l)] (upd (upd H1 b (.lst [.int l, .int 1])) p (.lst ((as ++ [b]).map V.ref)))) := by
  refine ⟨fun rs0 q e hq => ?_, fun hn b hb => ?_⟩
  · subst e
    obtain ⟨as0, a, rfl, h0, ha⟩ := hr.unapp
    refine ⟨as0, a, rfl, ha, ⟨p, as0 ++ [a], some (.int l), rfl, ?_, ?_, nd, np, ?_, hp0, ha0⟩⟩
    · rw [upd_ne (fun z => np (by rw [z]; simp))]; exact hp
    · rw [stepR_snoc, if_pos hq]
      refine Rws.app (h0.other fun c hc => upd_ne fun z => ?_) (.cons upd_same .nil)
      have := (List.nodup_append.mp nd).2.2 c hc a (by simp)
      exact this z
    · intro c o hc
      rw [upd_ne (fun z => ?_)]
      · exact fr c o hc
      · have := ha0 a (by simp)
        rw [z, this] at hc; cases hc
  · have hbp : b ≠ p := fun z => by rw [z, hp] at hb; cases hb
    have hba : b ∉ as := fun z => by
      have : ∀ {as : List Addr} {rs : List (Int × Int)}, Rws H1 as rs → b ∈ as → H1 b ≠ none := fun {as rs} h => by
        induction h with
        | nil => intro z; cases z
        | cons h _ ih =>
          intro z e
          rcases List.mem_cons.mp z with z | z
          · rw [z, h] at e; cases e
          · exact ih z e
      exact this hr z hb
    have hb0 : H b = none := by
      cases e : H b with
      | none => rfl
      | some o => rw [fr b o e] at hb; cases hb
    refine ⟨p, as ++ [b], some (.int l), rfl, upd_same, ?_, ?_, ?_, ?_, hp0, ?_⟩
    · have es : stepR rs l = rs ++ [(l, 1)] := by
        rcases List.eq_nil_or_concat rs with e | ⟨r0, q, e⟩
        · subst e; rfl
        · rw [List.concat_eq_append] at e
          subst e
          rw [stepR_snoc, if_neg (hn r0 q rfl)]
      rw [es]
      refine Rws.app (hr.other fun c hc => ?_) (.cons ?_ .nil)
      · rw [upd_ne (show c ≠ p from fun z => np (z ▸ hc)), upd_ne (show c ≠ b from fun z => hba (z ▸ hc))]
      · rw [upd_ne hbp, upd_same]
    · refine List.nodup_append.mpr ⟨nd, by simp, fun a ha c hc z => ?_⟩
      rw [List.mem_singleton.mp hc] at z
      exact hba (z ▸ ha)
    · intro z
      rcases List.mem_append.mp z with z | z
      · exact np z
      · exact hbp (List.mem_singleton.mp z).symm
    · intro c o hc
      rw [upd_ne (fun z => by rw [z, hp0] at hc; cases hc), upd_ne (fun z => by rw [z, hb0] at hc; cases hc)]
      exact fr c o hc
    · intro a ha
      rcases List.mem_append.mp ha with z | z
      · exact ha0 a z
      · rw [List.mem_singleton.mp z]; exact hb0
abbrev tM1 : TE := tUn (rU fun i => V.int (-i)) (tC (.int 1))
abbrev tLast (K : PySem.W.Frag) : TE := tOp (rIxL K) (tVar 1) tM1
abbrev tTestR (K : PySem.W.Frag) : TT := tAnd (tTest (tOp (rNeD K) (tVar 1) (tLst tNil))) (tTest (tOp rEq (tOp (rIxL K) (tLast K) (tC (.int 0))) (tVar 2)))
abbrev tThenR (K : PySem.W.Frag) : TS := tAsg (tOp (rI0 fun i j => V.int (i + j)) (tOp (rIxL K) (tLast K) (tC (.int 1))) (tC (.int 1))) (gSub (tLast K) (tC (.int 1)) rSetL)
abbrev tElseR (K : PySem.W.Frag) : TS := tDrop (tBM K "list" rAppend (tVar 1) (tCons (tLst (tCons (tVar 2) (tCons (tC (.int 1)) tNil))) tNil))
abbrev tRunRows (K : PySem.W.Frag) : TS := tSeq (tAsg (tLst tNil) (gName 1)) (tSeq (tFor (iSeqX K (tVar 0)) (gName 2) (tIfS (tTestR K) (tThenR K) (tElseR K))) (tRet (tVar 1)))
theorem atI_end {α : Type} {l : List α} {d : α} : L2.atI (l ++ [d]) (-1) = some d := by
  unfold L2.atI ixN
  rw [if_neg (by omega), if_pos (by simp; omega)]
  have e : ((-1 : Int) + ((l ++ [d]).length : Nat)).toNat = l.length := by simp; omega
  simp only [Option.bind_some, e]
  simp
theorem Rws.there {H : Hp} : ∀ {as : List Addr} {rs : List (Int × Int)}, Rws H as rs → ∀ a ∈ as, ∃ o, H a = some o
  | _, _, .nil, _, h => nomatch h
  | _, _, .cons h r, a, ha => by
    rcases List.mem_cons.mp ha with e | ha
    · rw [e]; exact ⟨_, h⟩
    · exact r.there a ha
theorem eqv_rows (rs : List (Int × Int)) : PyData.eqv (.list (rs.map fun q => .list [.int q.1, .int q.2])) (.list []) = rs.isEmpty := by
  cases rs with
  | nil => decide
  | cons q rs => rfl
theorem shaped_rows (rs : List (Int × Int)) : SeqAt.shaped (.list (rs.map fun q => .list [.int q.1, .int q.2])) = true := by
  have h1 : ∀ rs : List (Int × Int), PyData.canLayAll0 (rs.map fun q => .list [.int q.1, .int q.2]) = true := fun rs => by
    induction rs with
    | nil => rfl
    | cons q rs ih => rw [List.map_cons, PyData.canLayAll0, ih]; rfl
  have h2 : ∀ rs : List (Int × Int), PyData.depthAll (rs.map fun q => .list [.int q.1, .int q.2]) ≤ 5 := fun rs => by
    induction rs with
    | nil => exact Nat.zero_le _
    | cons q rs ih =>
      rw [List.map_cons, PyData.depthAll]
      have : PyData.depth (.list [.int q.1, .int q.2]) ≤ 5 := by simp [PyData.depth, PyData.depthAll]
      omega
  unfold SeqAt.shaped
  rw [show PyData.canLay0 (.list (rs.map fun q => .list [.int q.1, .int q.2])) = true from h1 rs, Bool.true_and]
  have := h2 rs
  refine decide_eq_true ?_
  rw [PyData.depth]
  omega
theorem runrows_read (bd : Body X B k) (hP : B.P = []) (hF : B.F = []) (hro : B.ro = false) (hB : B.n = 3) : ∀ Dn σ H, rdS X.K X.mg B [false, false, false] mRunRows [false, false, false] Dn σ H → tRunRows X.K Dn σ H := fun Dn σ H ⟨Z, Γ, s, h⟩ => by
  unfold mRunRows at h
  split at h
  · rename_i ds
    split at h
    · rename_i ns en
      split at h
      · rename_i hl
        obtain ⟨v0, hv0, r0⟩ := s.im 0 (.tup ds) rfl (by intro z; cases z)
        have hlen := s.len
        obtain ⟨x0, x1, x2, rfl⟩ : ∃ a b c, σ = [a, b, c] := by
          match σ, hlen with
          | [a, b, c], _ => exact ⟨a, b, c, rfl⟩
        cases hv0
        obtain ⟨w, vs, rfl, f, r⟩ := (Pk.rp r0).tup
        have ev := rps_ints r en
        subst ev
        have sq : SqT X.K H w (ns.map V.int) := f.sq
        -- rows = []
        refine ⟨Nat.zero_le _, fun p np => ?_⟩
        -- the loop
        have sq1 : SqT X.K (upd H p (.lst [])) w (ns.map V.int) := sqT_frame (fun a o e => by rw [upd_ne (ne_of_none e np)]; exact e) sq
        refine ⟨_, rfl, .inl ⟨w, rfl, .inr ⟨⟨_, sq1⟩, ?_⟩⟩⟩
        refine ⟨fun i m σ' H' => m = ns.length - i ∧ i ≤ ns.length ∧ RunI X.K H w (ns.map V.int) (runsP (ns.take i)) σ' H', ⟨_, rfl, Nat.zero_le _, ⟨p, [], x2, rfl, upd_same, .nil, List.nodup_nil, by simp, fun a o e => by rw [upd_ne (ne_of_none e np)]; exact e, np, fun _ z => nomatch z⟩⟩, ?_⟩
        rintro i m σ' H' ⟨rfl, hi, p, as, x, rfl, hp, hr, nd, nap, fr, hp0, ha0⟩
        have sq' := sqT_frame fr sq
        by_cases hlt : i < ns.length
        · refine .inr ⟨⟨_, _, sq', by rw [List.getElem?_map, List.getElem?_eq_getElem hlt]; rfl⟩, fun σ2 H2 => ∃ m', m' < ns.length - i ∧ (m' = ns.length - (i + 1) ∧ i + 1 ≤ ns.length ∧ RunI X.K H w (ns.map V.int) (runsP (ns.take (i + 1))) σ2 H2), fun σ2 H2 ⟨m', h1, h2⟩ => ⟨m', h1, h2⟩, fun y H2 ⟨e2, y2⟩ => ?_⟩
          have e3 := e2.symm
          subst e3
          have ey := y2 _ sq'
          rw [List.getElem?_map, List.getElem?_eq_getElem hlt] at ey
          cases ey
          have et : ns.take (i + 1) = ns.take i ++ [ns[i]] := by rw [List.take_succ_eq_append_getElem hlt]
          have rl : (runsP (ns.take i)).length ≤ 1000 := by
            have := runsP_len (ns.take i)
            rw [List.length_take] at this
            omega
          have fin : ∀ {σ2 : Sg} {H2 : Hp}, RunI X.K H w (ns.map V.int) (runsP (ns.take (i + 1))) σ2 H2 → ∃ m', m' < ns.length - i ∧ (m' = ns.length - (i + 1) ∧ i + 1 ≤ ns.length ∧ RunI X.K H w (ns.map V.int) (runsP (ns.take (i + 1))) σ2 H2) := fun q => ⟨_, by omega, rfl, by omega, q⟩
          have al := hr.len
          -- the test makes an empty list
          refine ⟨_, rfl, Nat.zero_le _, fun b hb => ⟨_, _, .lst (.of (by rw [upd_ne (fun z => by rw [← z, hp] at hb; cases hb)]; exact hp)) (Rws.dp (hr.other fun c hc => upd_ne fun z => ?_)), .lst (.of upd_same) .nil, shaped_rows _, rfl, _, rfl, ?_⟩⟩
          · obtain ⟨o, e⟩ := hr.there c hc
            rw [z, hb] at e; cases e
          have hp' : upd H' b (.lst []) p = some (.lst (as.map V.ref)) := by rw [upd_ne (fun z => by rw [← z, hp] at hb; cases hb)]; exact hp
          have hr' : Rws (upd H' b (.lst [])) as (runsP (ns.take i)) := hr.other fun c hc => upd_ne fun z => by
            obtain ⟨o, e⟩ := hr.there c hc
            rw [z, hb] at e; cases e
          have fr' : ∀ a o, H a = some o → upd H' b (.lst []) a = some o := fun a o e => by rw [upd_ne (fun z => by rw [z] at e; rw [fr b o e] at hb; cases hb)]; exact fr a o e
          have key := run_turn (K := X.K) (w := w) (vs := ns.map V.int) (l := ns[i]) hp' hr' nd nap fr' hp0 ha0
          rw [← runsP_snoc, ← et] at key
          generalize upd H' b (.lst []) = H3 at hp' hr' fr' key ⊢
          rw [eqv_rows]
          generalize hrs : runsP (ns.take i) = rs at key hr' rl al
          rcases List.eq_nil_or_concat rs with e | ⟨rs0, q, e⟩
          · subst e
            have app := key.2 (fun rs0 q z => by simp at z)
            refine ⟨_, rfl, Or.inl ⟨rfl, _, .of hp'⟩, ⟨_, rfl, by rw [sizeLine_eq]; show 2 ≤ 16777216; omega, fun c hc => ⟨p, _, _, rfl, rfl, by rw [upd_ne (fun z => by rw [← z, hp'] at hc; cases hc)]; exact hp', by simp [al]; decide, ?_⟩⟩⟩
            refine fin ?_
            have := app c hc
            rw [List.map_append] at this
            exact this
          · rw [List.concat_eq_append] at e
            subst e
            obtain ⟨as0, a, ea, _, ha⟩ := hr'.unapp
            subst ea
            have pa : (as0 ++ [a]).map V.ref = as0.map V.ref ++ [V.ref a] := by rw [List.map_append]; rfl
            rw [pa] at hp'
            have e0 : (rs0 ++ [q]).isEmpty = false := by cases rs0 <;> rfl
            rw [e0]
            refine ⟨_, rfl, _, rfl, p, _, _, V.ref a, rfl, rfl, .of hp', atI_end, a, _, _, V.int q.1, rfl, rfl, .of ha, rfl, _, rfl, rfl, _, rfl, ?_⟩
            by_cases hq : q.1 = ns[i]
            · have hd : decide (V.int q.1 = V.int ns[i]) = true := decide_eq_true (by rw [hq])
              rw [hd]
              obtain ⟨as1, a1, e1, _, ri⟩ := key.1 rs0 q rfl hq
              obtain ⟨rfl, e2⟩ := List.append_inj' e1 rfl
              cases e2
              refine ⟨_, rfl, _, rfl, p, _, _, V.ref a, rfl, rfl, .of hp', atI_end, a, _, _, V.int q.2, rfl, rfl, .of ha, rfl, _, _, rfl, rfl, ?_⟩
              refine ⟨_, rfl, _, rfl, p, _, _, V.ref a, rfl, rfl, .of hp', atI_end, a, _, _, 1, rfl, rfl, ha, rfl, ?_⟩
              exact fin ri
            · have hd : decide (V.int q.1 = V.int ns[i]) = false := decide_eq_false (fun z => hq (V.int.inj z))
              rw [hd]
              have app := key.2 (fun rs1 q1 z => by
                obtain ⟨_, e2⟩ := List.append_inj' z rfl
                cases e2
                exact hq)
              refine ⟨_, rfl, Or.inl ⟨rfl, _, .of hp'⟩, ⟨_, rfl, by rw [sizeLine_eq]; show 2 ≤ 16777216; omega, fun c hc => ⟨p, _, _, rfl, rfl, by rw [upd_ne (fun z => by rw [← z, hp'] at hc; cases hc)]; exact hp', ?_, ?_⟩⟩⟩
              · have : sizeLine = 16777216 := sizeLine_eq
                simp at al ⊢
                simp at rl
                omega
              · refine fin ?_
                have := app c hc
                rw [List.map_append, pa] at this
                exact this
        · refine .inl ⟨⟨_, sq', by simp; omega⟩, ?_⟩
          have e : ns.take i = ns := List.take_of_length_le (by omega)
          rw [e] at hr
          refine ⟨_, rfl, ?_⟩
          have hpm : B.S.PM = [] := by
            have := bd.ob.pm
            rw [hP] at this
            exact List.map_eq_nil_iff.mp this
          have noM : ∀ a, ¬ B.S.M a := fun a ⟨i, m⟩ => by rw [hpm] at m; cases m
          have noF : ∀ i v, (i, v) ∉ B.S.Fx := fun i v m => by
            have := bd.ob.fx i v m
            rw [hF] at this; cases this
          have h0 : ∀ a, H a = none → B.S.H0 a = none := fun a e => by
            cases q : B.S.H0 a with
            | none => rfl
            | some o => rw [s.keep a o q (noM a)] at e; cases e
          have mk : mask B.P [some (D.tup ds), none, none] = [none, none, none] := by rw [hP]; rfl
          have fl : flP B.n B.P = [false, false, false] := by rw [hP, hB]; rfl
          have nn : ∀ (i : Nat) (d : D), ([none, none, none] : Gm)[i]? ≠ some (some d) := fun i d z => by
            match i, z with
            | 0, z => cases z
            | 1, z => cases z
            | 2, z => cases z
            | i + 3, z => simp at z
          have ag : Ag Z (fun a => Z a ∨ a = p ∨ a ∈ as ∨ (H a = none ∧ ∃ xs, H' a = some (.tup xs))) H H' := ⟨fun a z => .inl z, fun a z => by
            obtain ⟨o, e⟩ := s.zd.1 a z
            rw [e]; exact fr a o e⟩
          refine h (fun a => Z a ∨ a = p ∨ a ∈ as ∨ (H a = none ∧ ∃ xs, H' a = some (.tup xs))) [some (V.ref w), some (V.ref p), x] H' (.ref p) ?_ ?_
          · rw [mk, fl]
            refine ⟨rfl, rfl, ⟨fun a z => ?_, fun a xs e => ?_⟩, fun a z => .inl (s.z0 a z), fun a o e m => fr a o (s.keep a o e m), fun a z => ?_, fun i d e => absurd e (nn i d), fun i d e => absurd e (nn i d), fun i j d e' a ne e => absurd e (nn i d), fun i a m => (by rw [hpm] at m; cases m), B.S.anc _ _ _ _ s.an ag, fun i v m => absurd m (noF i v)⟩
            · rcases z with z | z | z | ⟨_, xs, z⟩
              · obtain ⟨o, e⟩ := s.zd.1 a z
                exact ⟨o, fr a o e⟩
              · rw [z]; exact ⟨_, hp⟩
              · exact hr.there a z
              · exact ⟨_, z⟩
            · cases q : H a with
              | none => exact .inr (.inr (.inr ⟨q, xs, e⟩))
              | some o =>
                have e2 := fr a o q
                rw [e] at e2; cases e2
                exact .inl (s.zd.2 a xs q)
            · rcases z with z | z | z | ⟨z, _⟩
              · exact s.new a z
              · rw [z]; exact .inr (h0 p hp0)
              · exact .inr (h0 a (ha0 a z))
              · exact .inr (h0 a z)
          · rw [hro]
            exact .lst (.inl ⟨.inl hp, .inr (.inl rfl)⟩) (hr.rps fun a ha => .inr (.inr (.inl ha)))
      · exact h.elim
    · exact h.elim
  · exact h.elim
end
end DL
/-! DL32: zip of a list or a tuple and a list or a tuple. -/
namespace ZX
open PySem PySem.Spec PyProof.Rows L2 RZ
/-- true: a list, false: a tuple -/
def SqK (k : Bool) (h : Heap) (l : Addr) (xs : Array Value) : Prop := match k with
  | true => h.IsList l xs
  | false => h.IsTuple l xs
def ItK (k : Bool) (h : Heap) (i l : Addr) (n : Nat) : Prop := match k with
  | true => h.IsListIter i l n
  | false => h.IsTupleIter i l n
section
variable {k : Bool} {h h' : Heap} {a b l i : Addr} {n : Nat} {xs : Array Value}
theorem SqK.ext (x : SqK k h a xs) (e : Heap.ExtBut b h h') (ne : a ≠ b) : SqK k h' a xs := by
  cases k
  · exact Heap.IsTuple.extBut x e ne
  · exact Heap.IsList.extBut x e ne
theorem ItK.ext (x : ItK k h a l n) (e : Heap.ExtBut b h h') (ne : a ≠ b) : ItK k h' a l n := by
  cases k
  · exact Heap.IsTupleIter.extBut x e ne
  · exact Heap.IsListIter.extBut x e ne
theorem ItK.at (x : ItK k h a l n) (e : ∀ o, h.get? a = some o → h'.get? a = some o) : ItK k h' a l n := by
  cases k
  · exact Heap.IsTupleIter.at x e
  · exact Heap.IsListIter.at x e
theorem ItK.ob (x : ItK k h a l n) : ∃ o, h.get? a = some o ∧ ∀ v, o.data ≠ .cell v := by
  cases k
  · obtain ⟨o, e, _, d⟩ := x
    exact ⟨o, e, fun v z => by rw [d] at z; cases z⟩
  · obtain ⟨o, e, _, d⟩ := x
    exact ⟨o, e, fun v z => by rw [d] at z; cases z⟩
theorem SqK.lt (x : SqK k h a xs) : a < h.objs.size := by
  cases k
  · obtain ⟨_, e, _⟩ := x; exact Heap.lt_size e
  · obtain ⟨_, e, _⟩ := x; exact Heap.lt_size e
end
section
variable {prog : Program} {w : World} {A : Around} {E : Value → Shared → Prop} {s : Shared}
theorem next_item {k : Bool} {it l : Addr} {i : Nat} {items : Array Value} {x : Value} {Q : Value → Shared → Prop} (hit : ItK k s.heap it l i) (hl : SqK k s.heap l items) (hx : items[i]? = some x)
    (hQ : ∀ h', ItK k h' it l (i + 1) → Heap.SameBut it s.heap h' → Q x { s with heap := h' }) : wpAny (model prog w) A (Builtin.SmallTypes.nextOf (.ref it)) Q E s := by
  cases k
  · exact nextOf_tuple_item hit hl hx hQ
  · exact wpAny_nextOf_list_item hit hl hx hQ
theorem next_end {k : Bool} {it l : Addr} {i : Nat} {items : Array Value} {Q : Value → Shared → Prop} (hh : A.handled = none) (hit : ItK k s.heap it l i) (hl : SqK k s.heap l items) (hx : items[i]? = none)
    (hE : ∀ h' e, Heap.ExtBut it s.heap h' → (∃ o, h'.get? e = some o ∧ o.cls = .type "StopIteration") → E (.ref e) { s with heap := h' }) : wpAny (model prog w) A (Builtin.SmallTypes.nextOf (.ref it)) Q E s := by
  cases k
  · exact nextOf_tuple_end hh hit hl hx hE
  · exact wpAny_nextOf_list_end hh hit hl hx hE
/-- what stands while zip is asked -/
structure ZSt (h : Heap) (k1 k2 : Bool) (z TI TO i1 i2 l1 l2 : Addr) (n1 n2 : Nat) (xs ys : Array Value) (a b : Value) : Prop where
  ap : ZipApart z TI TO i1 i2 l1 l2
  z : IsZip h z TI TO .none
  ti : IsPair h TI (.ref i1) (.ref i2)
  to : IsPair h TO a b
  i1 : ItK k1 h i1 l1 n1
  i2 : ItK k2 h i2 l2 n2
  l1 : SqK k1 h l1 xs
  l2 : SqK k2 h l2 ys
theorem zx_item {k1 k2 : Bool} {z TI TO i1 i2 l1 l2 : Addr} {n1 n2 : Nat} {xs ys : Array Value} {x y a b : Value} {Q : Value → Shared → Prop} (S : ZSt s.heap k1 k2 z TI TO i1 i2 l1 l2 n1 n2 xs ys a b) (hx : xs[n1]? = some x) (hy : ys[n2]? = some y)
    (hQ : ∀ h', IsZip h' z TI TO (rawInt s.heap.objs.size) → IsPair h' TO x y → ItK k1 h' i1 l1 (n1 + 1) → ItK k2 h' i2 l2 (n2 + 1) → IsPair h' s.heap.objs.size x y → h'.objs.size = s.heap.objs.size + 1 →
      (∀ c o, c ≠ z → c ≠ TO → c ≠ i1 → c ≠ i2 → s.heap.get? c = some o → h'.get? c = some o) → Q (.ref s.heap.objs.size) { s with heap := h' }) :
    wpAny (model prog w) A (Builtin.«zip.__next__» ⟨[.ref z], []⟩) (fun fin s' => ∃ v, fin = .done (.ret v) ∧ Q v s') E s := by
  have D := S.ap
  show wpAny _ _ (field (.ref z) 2 >>= _) _ _ _; apply wpAny_bind; apply wpAny_field S.z rfl (x := .bool false) rfl
  show wpAny _ _ (field (.ref z) 3 >>= _) _ _ _; apply wpAny_bind; apply wpAny_field S.z rfl (x := .ref TI) rfl
  apply wpAny_bind; apply wpAny_seqItems S.ti rfl
  show wpAny _ _ (Builtin.SmallTypes.ownedTupleIsFree (.ref z) >>= _) _ _ _; apply wpAny_bind; unfold Builtin.SmallTypes.ownedTupleIsFree
  apply wpAny_bind; apply wpAny_field S.z rfl (x := .none) rfl; apply wpAny_pure; simp only [if_true]
  apply wpAny_bind; apply wpAny_rule; apply wpAny_bind; apply wpAny_field S.z rfl (x := .ref TO) rfl
  refine wpAny_bind (wpAny_setField_rec S.z (by simp) (fun m1 z1 e1 => ?_))
  have z1 : IsZip m1 z TI TO .ellipsis := z1
  apply wpAny_bind; simp only [List.zipIdx_cons, List.zipIdx_nil, List.forIn_cons, List.forIn_nil]
  apply wpAny_bind; apply wpAny_bind; apply wpAny_onRaise; show wpAny _ _ (Builtin.SmallTypes.nextOf (.ref i1) >>= _) _ _ _
  refine wpAny_bind (next_item (S.i1.ext e1.extBut D.i1z) (S.l1.ext e1.extBut D.l1z) hx (fun m2 it2 e2 => wpAny_pure ?_))
  have to2 : IsPair m2 TO a b := e2.extBut TO _ D.TOi1 (e1.extBut TO _ D.TOz S.to)
  apply wpAny_bind; apply wpAny_seqItems to2 rfl
  refine wpAny_bind (wpAny_updateSeq_pair to2 (fun m3 t3 e3 => ?_))
  have to3 : IsPair m3 TO x b := t3
  apply wpAny_bind; apply wpAny_letGo; apply wpAny_pure
  apply wpAny_bind; apply wpAny_bind; apply wpAny_onRaise; show wpAny _ _ (Builtin.SmallTypes.nextOf (.ref i2) >>= _) _ _ _
  refine wpAny_bind (next_item (((S.i2.ext e1.extBut D.i2z).ext e2.extBut D.i12.symm).ext e3.extBut D.TOi2.symm) (((S.l2.ext e1.extBut D.l2z).ext e2.extBut D.l2i1).ext e3.extBut D.l2TO) hy (fun m4 it4 e4 => wpAny_pure ?_))
  have to4 : IsPair m4 TO x b := e4.extBut TO _ D.TOi2 to3
  apply wpAny_bind; apply wpAny_seqItems to4 rfl
  refine wpAny_bind (wpAny_updateSeq_pair to4 (fun m5 t5 e5 => ?_))
  have to5 : IsPair m5 TO x y := t5
  apply wpAny_bind; apply wpAny_letGo; apply wpAny_pure; apply wpAny_pure
  apply wpAny_bind; apply wpAny_seqItems to5 rfl; apply wpAny_bind; refine wpAny_newTuple ?_
  have sz : m5.objs.size = s.heap.objs.size := ((((e5.1.trans e4.1).trans e3.1).trans e2.1).trans e1.1)
  have z5 : IsZip m5 z TI TO .ellipsis := e5.extBut z _ D.TOz.symm (e4.extBut z _ D.i2z.symm (e3.extBut z _ D.TOz.symm (e2.extBut z _ D.i1z.symm z1)))
  have kp : ∀ c o, c ≠ z → c ≠ TO → c ≠ i1 → c ≠ i2 → s.heap.get? c = some o → m5.get? c = some o := fun c o c1 c2 c3 c4 e => e5.extBut c _ c2 (e4.extBut c _ c4 (e3.extBut c _ c2 (e2.extBut c _ c3 (e1.extBut c _ c1 e))))
  have j1 : ItK k1 m5 i1 l1 (n1 + 1) := ((it2.ext e3.extBut D.TOi1.symm).ext e4.extBut D.i12).ext e5.extBut D.TOi1.symm
  have j2 : ItK k2 m5 i2 l2 (n2 + 1) := it4.ext e5.extBut D.TOi2.symm
  have zl : z < m5.objs.size := Heap.lt_size z5
  show wpAny _ _ (Builtin.SmallTypes.ownedTupleHandOut (.ref z) (.ref m5.objs.size) >>= _) _ _ _; apply wpAny_bind; unfold Builtin.SmallTypes.ownedTupleHandOut
  have z6 : IsZip (m5.push { cls := .type "tuple", data := .seq #[x, y] }) z TI TO .ellipsis := Heap.get?_push_of_some _ z5
  refine wpAny_bind (wpAny_setField_rec z6 (by simp) (fun m7 z7 e7 => ?_))
  have z7 : IsZip m7 z TI TO (rawInt m5.objs.size) := z7
  refine wpAny_setField_rec z7 (by simp) (fun m8 z8 e8 => ?_)
  have z8 : IsZip m8 z TI TO (rawInt m5.objs.size) := z8
  have up : ∀ c o, c ≠ z → m5.get? c = some o → m8.get? c = some o := fun c o c1 e => e8.extBut c _ c1 (e7.extBut c _ c1 (Heap.get?_push_of_some _ e))
  have t8 : IsPair m8 m5.objs.size x y := e8.extBut _ _ (Nat.ne_of_gt zl) (e7.extBut _ _ (Nat.ne_of_gt zl) (Heap.get?_push_size _ rfl))
  have s8 : m8.objs.size = m5.objs.size + 1 := by rw [e8.1, e7.1, Heap.size_push]
  rw [sz] at z8 t8 s8
  apply wpAny_pure; refine ⟨_, rfl, ?_⟩; show Q (.ref m5.objs.size) _; rw [sz]
  exact hQ m8 z8 (up TO _ D.TOz to5) (j1.at fun o e => up _ o D.i1z e) (j2.at fun o e => up _ o D.i2z e) t8 s8 (fun c o c1 c2 c3 c4 e => up c o c1 (kp c o c1 c2 c3 c4 e))
theorem zx_end {k1 k2 : Bool} {z TI TO i1 i2 l1 l2 : Addr} {n1 n2 : Nat} {xs ys : Array Value} {a b : Value} {Q : Fin → Shared → Prop} (hh : A.handled = none) (S : ZSt s.heap k1 k2 z TI TO i1 i2 l1 l2 n1 n2 xs ys a b) (hend : xs[n1]? = none ∨ ys[n2]? = none)
    (hE : ∀ h' e, (∀ c o, c ≠ z → c ≠ TO → c ≠ i1 → c ≠ i2 → s.heap.get? c = some o → h'.get? c = some o) → (∃ o, h'.get? e = some o ∧ o.cls = .type "StopIteration") → E (.ref e) { s with heap := h' }) :
    wpAny (model prog w) A (Builtin.«zip.__next__» ⟨[.ref z], []⟩) Q E s := by
  have D := S.ap
  show wpAny _ _ (field (.ref z) 2 >>= _) _ _ _; apply wpAny_bind; apply wpAny_field S.z rfl (x := .bool false) rfl
  show wpAny _ _ (field (.ref z) 3 >>= _) _ _ _; apply wpAny_bind; apply wpAny_field S.z rfl (x := .ref TI) rfl
  apply wpAny_bind; apply wpAny_seqItems S.ti rfl
  show wpAny _ _ (Builtin.SmallTypes.ownedTupleIsFree (.ref z) >>= _) _ _ _; apply wpAny_bind; unfold Builtin.SmallTypes.ownedTupleIsFree
  apply wpAny_bind; apply wpAny_field S.z rfl (x := .none) rfl; apply wpAny_pure; simp only [if_true]
  apply wpAny_bind; apply wpAny_rule; apply wpAny_bind; apply wpAny_field S.z rfl (x := .ref TO) rfl
  refine wpAny_bind (wpAny_setField_rec S.z (by simp) (fun m1 z1 e1 => ?_))
  have z1 : IsZip m1 z TI TO .ellipsis := z1
  apply wpAny_bind; simp only [List.zipIdx_cons, List.zipIdx_nil, List.forIn_cons, List.forIn_nil]
  apply wpAny_bind; apply wpAny_bind; apply wpAny_onRaise; show wpAny _ _ (Builtin.SmallTypes.nextOf (.ref i1) >>= _) _ _ _
  cases hx : xs[n1]? with
  | none =>
    refine wpAny_bind (next_end hh (S.i1.ext e1.extBut D.i1z) (S.l1.ext e1.extBut D.l1z) hx (fun m2 e e2 he => ?_))
    rcases he with ⟨oe, hoe, hce⟩
    have z2 : IsZip m2 z TI TO .ellipsis := e2 z _ D.i1z.symm z1
    have ne : e ≠ z := fun q => by subst q; rw [z2] at hoe; cases hoe; simp at hce
    exact wpAny_setField_rec z2 (by simp) (fun m3 _ e3 => hE m3 e (fun c o c1 _ c3 _ q => e3.extBut c _ c1 (e2 c _ c3 (e1.extBut c _ c1 q))) ⟨oe, e3.extBut e _ ne hoe, hce⟩)
  | some x =>
    have hy : ys[n2]? = none := hend.resolve_left (by rw [hx]; intro q; cases q)
    refine wpAny_bind (next_item (S.i1.ext e1.extBut D.i1z) (S.l1.ext e1.extBut D.l1z) hx (fun m2 it2 e2 => wpAny_pure ?_))
    have to2 : IsPair m2 TO a b := e2.extBut TO _ D.TOi1 (e1.extBut TO _ D.TOz S.to)
    apply wpAny_bind; apply wpAny_seqItems to2 rfl
    refine wpAny_bind (wpAny_updateSeq_pair to2 (fun m3 t3 e3 => ?_))
    apply wpAny_bind; apply wpAny_letGo; apply wpAny_pure
    apply wpAny_bind; apply wpAny_bind; apply wpAny_onRaise; show wpAny _ _ (Builtin.SmallTypes.nextOf (.ref i2) >>= _) _ _ _
    refine wpAny_bind (next_end hh (((S.i2.ext e1.extBut D.i2z).ext e2.extBut D.i12.symm).ext e3.extBut D.TOi2.symm) (((S.l2.ext e1.extBut D.l2z).ext e2.extBut D.l2i1).ext e3.extBut D.l2TO) hy (fun m4 e e4 he => ?_))
    rcases he with ⟨oe, hoe, hce⟩
    have z4 : IsZip m4 z TI TO .ellipsis := e4 z _ D.i2z.symm (e3.extBut z _ D.TOz.symm (e2.extBut z _ D.i1z.symm z1))
    have ne : e ≠ z := fun q => by subst q; rw [z4] at hoe; cases hoe; simp at hce
    exact wpAny_setField_rec z4 (by simp) (fun m5 _ e5 => hE m5 e (fun c o c1 c2 c3 c4 q => e5.extBut c _ c1 (e4 c _ c4 (e3.extBut c _ c2 (e2.extBut c _ c3 (e1.extBut c _ c1 q))))) ⟨oe, e5.extBut e _ ne hoe, hce⟩)
theorem zx_next {k1 k2 : Bool} {z TI TO i1 i2 l1 l2 : Addr} {n1 n2 : Nat} {xs ys : Array Value} {x y a b : Value} {Q : Option Value → Shared → Prop} (S : ZSt s.heap k1 k2 z TI TO i1 i2 l1 l2 n1 n2 xs ys a b) (hx : xs[n1]? = some x) (hy : ys[n2]? = some y)
    (hQ : ∀ h', IsZip h' z TI TO (rawInt s.heap.objs.size) → IsPair h' TO x y → ItK k1 h' i1 l1 (n1 + 1) → ItK k2 h' i2 l2 (n2 + 1) → IsPair h' s.heap.objs.size x y → h'.objs.size = s.heap.objs.size + 1 →
      (∀ c o, c ≠ z → c ≠ TO → c ≠ i1 → c ≠ i2 → s.heap.get? c = some o → h'.get? c = some o) → Q (some (.ref s.heap.objs.size)) { s with heap := h' }) :
    wpAny (model prog w) A (pyNext (.ref z)) Q E s := by
  have hT : s.TypeIs (.ref z) "zip" := ⟨_, S.z, rfl⟩
  unfold pyNext; apply wpAny_bind; apply wpAny_attempt
  exact wpAny_callSpecial?_slot (name := Str.ofString "__next__") hT F.slot_zip_next (wpAny_call_entry F.slot_zip_next hT F.entry_zip_next (zx_item S hx hy fun h' a1 a2 a3 a4 a5 a6 a7 => wpAny_pure (hQ h' a1 a2 a3 a4 a5 a6 a7)) (F.args_zip_next_1 _))
theorem zx_stop {k1 k2 : Bool} {z TI TO i1 i2 l1 l2 : Addr} {n1 n2 : Nat} {xs ys : Array Value} {a b : Value} {Q : Option Value → Shared → Prop} (hh : A.handled = none) (S : ZSt s.heap k1 k2 z TI TO i1 i2 l1 l2 n1 n2 xs ys a b) (hend : xs[n1]? = none ∨ ys[n2]? = none)
    (hQ : ∀ h', (∀ c o, c ≠ z → c ≠ TO → c ≠ i1 → c ≠ i2 → s.heap.get? c = some o → h'.get? c = some o) → Q none { s with heap := h' }) : wpAny (model prog w) A (pyNext (.ref z)) Q E s := by
  have hT : s.TypeIs (.ref z) "zip" := ⟨_, S.z, rfl⟩
  unfold pyNext; apply wpAny_bind; apply wpAny_attempt
  refine wpAny_callSpecial?_slot (name := Str.ofString "__next__") hT F.slot_zip_next (wpAny_call_entry F.slot_zip_next hT F.entry_zip_next (zx_end hh S hend (fun h' e hk he => ?_)) (F.args_zip_next_1 _))
  rcases he with ⟨o, ho, hc⟩
  exact wpAny_bind (wpAny_isInstance (T := "StopIteration") (b := true) ⟨o, ho, hc⟩ isSubtype_stop (wpAny_pure (hQ _ hk)))
end
abbrev itL (l : Addr) : Obj := { cls := .type "list_iterator", data := .fields #[.ref l, .int 0 0] }
abbrev itT (l : Addr) : Obj := { cls := .type "tuple_iterator", data := .fields #[.ref l, .int 0 0] }
def itO (k : Bool) (l : Addr) : Obj := match k with
  | true => itL l
  | false => itT l
abbrev H1 (k : Bool) (h : Heap) (l1 : Addr) : Heap := h.push (itO k l1)
abbrev H2 (k1 k2 : Bool) (h : Heap) (l1 l2 : Addr) : Heap := (H1 k1 h l1).push (itO k2 l2)
abbrev H3 (k1 k2 : Bool) (h : Heap) (l1 l2 : Addr) : Heap := (H2 k1 k2 h l1 l2).push { cls := .type "tuple", data := .seq #[.ref h.objs.size, .ref (H1 k1 h l1).objs.size] }
abbrev H4 (k1 k2 : Bool) (h : Heap) (l1 l2 : Addr) : Heap := (H3 k1 k2 h l1 l2).push { cls := .type "tuple", data := .seq #[.none, .none] }
abbrev H5 (k1 k2 : Bool) (h : Heap) (l1 l2 : Addr) : Heap := (H4 k1 k2 h l1 l2).push { cls := .type "zip", data := .fields #[.none, .bool false, .bool false, .ref (H2 k1 k2 h l1 l2).objs.size, .ref (H3 k1 k2 h l1 l2).objs.size] }
theorem zx_new (k1 k2 : Bool) (l1 l2 : Addr) (xs ys : Array Value) :
    Meets (Builtin.«zip.__new__» ⟨[.type "zip", .ref l1, .ref l2], []⟩) (fun _ R s => SqK k1 s.heap l1 xs ∧ SqK k2 s.heap l2 ys ∧ R (.ok (.ret (.ref (H4 k1 k2 s.heap l1 l2).objs.size))) { s with heap := H5 k1 k2 s.heap l1 l2 }) :=
  .of_wp fun prog w A R s h => by
    obtain ⟨hp, g, d, tk, os⟩ := s; obtain ⟨hl1, hl2, h⟩ := h; have hsub := sub_zip
    cases k1 <;> cases k2
    · have q1 : Heap.IsTuple (Shared.heap ⟨hp, g, d, tk, os⟩) l1 xs := hl1
      have q2 : Heap.IsTuple (Shared.heap ⟨hp.push (itT l1), g, d, tk, os⟩) l2 ys := Heap.IsTuple.push hl2 _
      wp_walk using wpAny_pyIter_tuple q1, wpAny_pyIter_tuple q2
      exact ⟨_, rfl, h⟩
    · have q1 : Heap.IsTuple (Shared.heap ⟨hp, g, d, tk, os⟩) l1 xs := hl1
      have q2 : Heap.IsList (Shared.heap ⟨hp.push (itT l1), g, d, tk, os⟩) l2 ys := Heap.IsList.push hl2 _
      wp_walk using wpAny_pyIter_tuple q1, wpAny_pyIter_list q2
      exact ⟨_, rfl, h⟩
    · have q1 : Heap.IsList (Shared.heap ⟨hp, g, d, tk, os⟩) l1 xs := hl1
      have q2 : Heap.IsTuple (Shared.heap ⟨hp.push (itL l1), g, d, tk, os⟩) l2 ys := Heap.IsTuple.push hl2 _
      wp_walk using wpAny_pyIter_list q1, wpAny_pyIter_tuple q2
      exact ⟨_, rfl, h⟩
    · have q1 : Heap.IsList (Shared.heap ⟨hp, g, d, tk, os⟩) l1 xs := hl1
      have q2 : Heap.IsList (Shared.heap ⟨hp.push (itL l1), g, d, tk, os⟩) l2 ys := Heap.IsList.push hl2 _
      wp_walk using wpAny_pyIter_list q1, wpAny_pyIter_list q2
      exact ⟨_, rfl, h⟩
theorem itK_new {k : Bool} {h : Heap} {i l : Addr} (e : h.get? i = some (itO k l)) : ItK k h i l 0 := by
  cases k
  · exact ⟨_, e, rfl, rfl⟩
  · exact ⟨_, e, rfl, rfl⟩
section
variable {prog : Program} {w : World} {A : Around} {E : Value → Shared → Prop} {s : Shared}
theorem zx_call {k1 k2 : Bool} {l1 l2 : Addr} {xs ys : Array Value} {Q : Value → Shared → Prop} (hl1 : SqK k1 s.heap l1 xs) (hl2 : SqK k2 s.heap l2 ys)
    (h : ∀ h', IsZip h' (s.heap.objs.size + 4) (s.heap.objs.size + 2) (s.heap.objs.size + 3) .none → IsPair h' (s.heap.objs.size + 2) (.ref s.heap.objs.size) (.ref (s.heap.objs.size + 1)) → IsPair h' (s.heap.objs.size + 3) .none .none → ItK k1 h' s.heap.objs.size l1 0 → ItK k2 h' (s.heap.objs.size + 1) l2 0 →
      (∀ c o, s.heap.get? c = some o → h'.get? c = some o) → Q (.ref (s.heap.objs.size + 4)) { s with heap := h' }) : wpAny (model prog w) A (call (.type "zip") [.ref l1, .ref l2]) Q E s := by
  refine callType_new F.called_zip (by decide) (F.typeCall_zip_2 _ _) (F.newCall_zip_2 _ _) (fun obj => F.args_object_init_3 obj _ _) F.entry_zip_new (zx_new k1 k2 l1 l2 xs ys) ⟨hl1, hl2, ?_⟩
  have z1 : (H1 k1 s.heap l1).objs.size = s.heap.objs.size + 1 := Heap.size_push ..
  have z2 : (H2 k1 k2 s.heap l1 l2).objs.size = s.heap.objs.size + 2 := by rw [Heap.size_push, z1]
  have z3 : (H3 k1 k2 s.heap l1 l2).objs.size = s.heap.objs.size + 3 := by rw [Heap.size_push, z2]
  have z4 : (H4 k1 k2 s.heap l1 l2).objs.size = s.heap.objs.size + 4 := by rw [Heap.size_push, z3]
  have up : ∀ {m : Heap} {o u : Obj} {c : Addr}, m.get? c = some u → (m.push o).get? c = some u := fun e => Heap.get?_push_of_some _ e
  have g5 : (H5 k1 k2 s.heap l1 l2).get? (H4 k1 k2 s.heap l1 l2).objs.size = some _ := Heap.get?_push_size _ rfl
  have g4 : (H5 k1 k2 s.heap l1 l2).get? (H3 k1 k2 s.heap l1 l2).objs.size = some _ := up (Heap.get?_push_size _ rfl)
  have g3 : (H5 k1 k2 s.heap l1 l2).get? (H2 k1 k2 s.heap l1 l2).objs.size = some _ := up (up (Heap.get?_push_size _ rfl))
  have g2 : (H5 k1 k2 s.heap l1 l2).get? (H1 k1 s.heap l1).objs.size = some (itO k2 l2) := up (up (up (Heap.get?_push_size _ (by cases k2 <;> rfl))))
  have g1 : (H5 k1 k2 s.heap l1 l2).get? s.heap.objs.size = some (itO k1 l1) := up (up (up (up (Heap.get?_push_size _ (by cases k1 <;> rfl)))))
  show _ ∧ _
  rw [z2, z3, z4] at g5; rw [z1, z2] at g3; rw [z3] at g4; rw [z1] at g2; rw [z4]
  exact ⟨⟨_, g5, rfl⟩, h _ g5 g3 g4 (itK_new g1) (itK_new g2) fun c o x => up (up (up (up (up x))))⟩
end
end ZX
/-! DL33: loops over zip. -/
namespace ZX
open PySem PySem.Spec PyProof.Rows L2 RZ
def sqH (k : Bool) (K : PySem.W.Frag) (H : Hp) (a : Addr) (xs : List V) : Prop := match k with
  | true => SqL K H a xs
  | false => SqT K H a xs
theorem sq_get {X : Cx} {pins : List (Addr × Obj)} {σ : L2.St} {H : Hp} {s : Shared} {k : Bool} {a : Addr} {xs : List V} (I : Inv X pins σ H s) (h : sqH k X.K H a xs) : ∃ its, Vals xs its ∧ SqK k s.heap a its.toArray := by
  cases k
  · obtain ⟨its, rv, p, _⟩ := I.tuple h
    exact ⟨its, rv, p⟩
  · obtain ⟨its, rv, p, _⟩ := I.list h
    exact ⟨its, rv, p.isList⟩
theorem sq_inj {X : Cx} {pins : List (Addr × Obj)} {σ : L2.St} {H : Hp} {s : Shared} {k : Bool} {a : Addr} {xs ys : List V} (I : Inv X pins σ H s) (h : sqH k X.K H a xs) (h' : sqH k X.K H a ys) : xs = ys := by
  cases k
  · exact I.tuple_inj h h'
  · exact I.list_inj h h'
def ItzK (k1 k2 : Bool) (K : PySem.W.Frag) (a b : Addr) : It :=
  ⟨fun i H => ∃ (xs ys : List V) (x y : V), sqH k1 K H a xs ∧ sqH k2 K H b ys ∧ xs[i]? = some x ∧ ys[i]? = some y,
    fun i H v H' => ∃ T x y, v = .ref T ∧ H T = none ∧ H' = upd H T (.tup [x, y]) ∧ (∀ xs, sqH k1 K H a xs → xs[i]? = some x) ∧ ∀ ys, sqH k2 K H b ys → ys[i]? = some y,
    fun i H => ∃ xs ys : List V, sqH k1 K H a xs ∧ sqH k2 K H b ys ∧ (xs.length ≤ i ∨ ys.length ≤ i)⟩
theorem mem5 {c z TI TO i1 i2 : Addr} (h : c ∈ [z, TI, TO, i1, i2]) : c = z ∨ c = TI ∨ c = TO ∨ c = i1 ∨ c = i2 := by simpa using h
theorem turn_zx {k1 k2 : Bool} {P : Program} {w : World} {K : PySem.W.Frag} {elts : List Expr} {kk : Nat} {tpos : Pos} {a b z TI TO i1 i2 : Addr} (D : ZipApart z TI TO i1 i2 a b) :
    Turn P w K (.Tuple elts kk tpos) (ItzK k1 k2 K a b) [z, TI, TO, i1, i2] z (fun i h => IsZip h z TI TO .none ∧ IsPair h TI (.ref i1) (.ref i2) ∧ (∃ x y, IsPair h TO x y) ∧ ItK k1 h i1 a i ∧ ItK k2 h i2 b i) where
  mem := by simp
  obj := fun i h st c hc => by
    obtain ⟨hz, hTI, ⟨x, y, hTO⟩, j1, j2⟩ := st
    rcases mem5 hc with rfl | rfl | rfl | rfl | rfl
    · exact ⟨_, hz, fun v q => nomatch q⟩
    · exact ⟨_, hTI, fun v q => nomatch q⟩
    · exact ⟨_, hTO, fun v q => nomatch q⟩
    · exact j1.ob
    · exact j2.ob
  keep := fun i h h' st k => by
    obtain ⟨hz, hTI, ⟨x, y, hTO⟩, j1, j2⟩ := st
    exact ⟨k z (by simp) _ hz, k TI (by simp) _ hTI, ⟨x, y, k TO (by simp) _ hTO⟩, j1.at fun o q => k i1 (by simp) o q, j2.at fun o q => k i2 (by simp) o q⟩
  item := by
    intro X hP hw hK hc i pins s σ H E I hf st hg
    subst hP hw hK
    obtain ⟨hz, hTI, ⟨x0, y0, hTO⟩, j1, j2⟩ := st
    obtain ⟨xs, ys, x, y, hqx, hqy, hx, hy⟩ := hg
    obtain ⟨its, rv, p⟩ := sq_get I hqx
    obtain ⟨its2, rv2, p2⟩ := sq_get I hqy
    obtain ⟨u, hu, ru⟩ := rv.get hx
    obtain ⟨u2, hu2, ru2⟩ := rv2.get hy
    have zl : z < s.heap.objs.size := Heap.lt_size hz
    refine zx_next ⟨D, hz, hTI, hTO, j1, j2, p, p2⟩ (x := u) (y := u2) (by simpa using hu) (by simpa using hu2) (fun m mz mTO m1 m2 mT msz mk => ?_)
    refine ⟨_, rfl, wpAny_letOwnedTupleGo_zip (s := { s with heap := m }) mz (fun n nz sb => ?_)⟩
    have nT : n.get? s.heap.objs.size = some { cls := .type "tuple", data := .seq #[u, u2] } := (sb.2 _ (Nat.ne_of_gt zl)).trans mT
    have new : ObjOk X.prog X.w (upd H s.heap.objs.size (.tup [x, y])) n s.heap.objs.size (.tup [x, y]) := ⟨by rw [sizeLine_eq]; show 2 ≤ 16777216; omega, [u, u2], .cons ru (.cons ru2 .nil), ⟨_, nT, rfl, _, rfl⟩⟩
    have ne : ∀ {c : Addr}, c ∉ [z, TI, TO, i1, i2] → c ≠ z ∧ c ≠ TO ∧ c ≠ i1 ∧ c ≠ i2 := fun hb => ⟨fun q => hb (by simp [q]), fun q => hb (by simp [q]), fun q => hb (by simp [q]), fun q => hb (by simp [q])⟩
    have I1 : Inv X pins σ (upd H s.heap.objs.size (.tup [x, y])) { s with heap := n } :=
      I.turnedNew (t' := s.toks) (ch := [z, TI, TO, i1, i2]) (fun c o hb q => (sb.2 c (ne hb).1).trans (mk c o (ne hb).1 (ne hb).2.1 (ne hb).2.2.1 (ne hb).2.2.2 q)) hf (Nat.le_refl _) new
    refine ⟨.ref s.heap.objs.size, _, I1, rfl, ⟨_, x, y, rfl, I.hok.fresh (Nat.le_refl _), rfl, fun l hl => by rw [sq_inj I hl hqx]; exact hx, fun l hl => by rw [sq_inj I hl hqy]; exact hy⟩, ⟨nz, (sb.2 _ D.TIz).trans (mk _ _ D.TIz D.TITO D.TIi1 D.TIi2 hTI), ⟨u, u2, (sb.2 _ D.TOz).trans mTO⟩, m1.at fun o q => (sb.2 _ D.i1z).trans q, m2.at fun o q => (sb.2 _ D.i2z).trans q⟩, fun c hcm => ?_⟩
    have lt : c < s.heap.objs.size := by
      rcases mem5 hcm with rfl | rfl | rfl | rfl | rfl
      · exact zl
      · exact Heap.lt_size hTI
      · exact Heap.lt_size hTO
      · obtain ⟨_, e, _⟩ := j1.ob; exact Heap.lt_size e
      · obtain ⟨_, e, _⟩ := j2.ob; exact Heap.lt_size e
    rw [upd_ne (Nat.ne_of_lt lt)]; exact (hf c hcm).1
  done := by
    intro X hP hw hK hc i pins s σ H E I hf st hg
    subst hP hw hK
    obtain ⟨hz, hTI, ⟨x0, y0, hTO⟩, j1, j2⟩ := st
    obtain ⟨xs, ys, hqx, hqy, hend⟩ := hg
    obtain ⟨its, rv, p⟩ := sq_get I hqx
    obtain ⟨its2, rv2, p2⟩ := sq_get I hqy
    have l1 := rv.length; have l2 := rv2.length
    have he : its.toArray[i]? = none ∨ its2.toArray[i]? = none := hend.elim (fun q => .inl (by simp; omega)) fun q => .inr (by simp; omega)
    have ne : ∀ {c : Addr}, c ∉ [z, TI, TO, i1, i2] → c ≠ z ∧ c ≠ TO ∧ c ≠ i1 ∧ c ≠ i2 := fun hb => ⟨fun q => hb (by simp [q]), fun q => hb (by simp [q]), fun q => hb (by simp [q]), fun q => hb (by simp [q])⟩
    exact zx_stop (I.ok.hd hc) ⟨D, hz, hTI, hTO, j1, j2, p, p2⟩ he (fun m mk => ⟨rfl, I.turnedL (t' := s.toks) (ch := [z, TI, TO, i1, i2]) (fun c o hb q => mk c o (ne hb).1 (ne hb).2.1 (ne hb).2.2.1 (ne hb).2.2.2 q) hf⟩)
  self := fun A i s Q E st h => wpAny_pyIter_zip st.1 h
def iZipK (K : PySem.W.Frag) (ta : TA) : TI := fun σ H R => ta σ H fun vs H1 => ∃ k1 k2 a b xs ys, vs = [.ref a, .ref b] ∧ sqH k1 K H1 a xs ∧ sqH k2 K H1 b ys ∧ R (ItzK k1 k2 K a b) H1
theorem pi_zipK {X : Cx} {e e2 : Expr} {ta : TA} {p pos tpos : Pos} {elts : List Expr} {kk : Nat} (hg : Gl X "zip") (hm : X.mg "zip" = none) (ha : PA X [e, e2] ta)
    (hs : starEach [e, e2] X.env = (false, eval e X.env) :: starEach [e2] X.env := by rfl) (hpl : (backTo pos (starEach [e2] X.env)).any (·.1) = false := by rfl) : PI X (.Tuple elts kk tpos) (.Call (.Name "zip" p) [e, e2] [] pos) (iZipK X.K ta) := by
  refine ⟨fun pins s σ H R I h => ?_⟩
  refine Call_ (ld_blt I hg hm PyProof.Rows.boot_zip (PyProof.Rows.callWith_type1 (thn (ha.run pos pins s σ H _ I h) (fun us s1 ⟨vs, H1, I1, r1, q1⟩ => ?_)) hs hpl))
  obtain ⟨k1, k2, a, b, xs, ys, rfl, hqx, hqy, q⟩ := q1
  obtain ⟨u1, u2, rfl, r, r'⟩ := vals2 r1
  cases r; cases r'
  obtain ⟨its, rv, p1⟩ := sq_get I1 hqx
  obtain ⟨its2, rv2, p2⟩ := sq_get I1 hqy
  have fr : ∀ c, c ∈ [s1.heap.objs.size + 4, s1.heap.objs.size + 2, s1.heap.objs.size + 3, s1.heap.objs.size, s1.heap.objs.size + 1] → FpOk X pins H1 c := fun c hcm => by
    have le : s1.heap.objs.size ≤ c := by
      rcases mem5 hcm with z | z | z | z | z <;> rw [z]
      · exact Nat.le_add_right _ _
      · exact Nat.le_add_right _ _
      · exact Nat.le_add_right _ _
      · exact Nat.le_refl _
      · exact Nat.le_add_right _ _
    exact I1.fpOk le (I1.hok.fresh le)
  refine zx_call p1 p2 (fun h' hz hTI hTO j1 j2 hk => wpAny_pyIter_zip hz ?_)
  have I2 : Inv X pins σ H1 { s1 with heap := h' } := I1.kept (t' := s1.toks) hk
  exact ⟨s1.heap.objs.size + 4, [s1.heap.objs.size + 4, s1.heap.objs.size + 2, s1.heap.objs.size + 3, s1.heap.objs.size, s1.heap.objs.size + 1], _, _, H1, rfl, I2, turn_zx (PySem.W.ktu_apart s1.heap.objs.size a b p1.lt p2.lt), ⟨hz, hTI, ⟨_, _, hTO⟩, j1, j2⟩, fr, q⟩
end ZX
namespace DL
open PySem PySem.Spec PyProof.Rows L2 ZX
def zipI (xs ys : List D) : List D := (xs.zip ys).map fun p => .tup [p.1, p.2]
def zipD (d e : D) : Option (List D) := match itemsD d, itemsD e with
  | some xs, some ys => some (zipI xs ys)
  | _, _ => none
def mZip (m1 m2 : Gm → R D) : Gm → R (List D) := fun Γ => (m1 Γ).bind fun d Γ1 => (m2 Γ1).bind fun e Γ2 => R.of (zipD d e) Γ2
section
variable {K : PySem.W.Frag} {mg : Str → Option Value} {Z : Addr → Prop} {H : Hp} {a b : Addr}
/-- a list or a tuple, frozen -/
def FK (k : Bool) (K : PySem.W.Frag) (Z : Addr → Prop) (H : Hp) (a : Addr) (vs : List V) : Prop := match k with
  | true => FL K Z H a vs
  | false => FT K Z H a vs
theorem FK.ag {k : Bool} {Z' : Addr → Prop} {H' : Hp} {vs : List V} (h : FK k K Z H a vs) (g : Ag Z Z' H H') : FK k K Z' H' a vs := by
  cases k
  · exact FT.ag (K := K) h g
  · exact FL.ag h g
theorem FK.sq {k : Bool} {vs : List V} (h : FK k K Z H a vs) : sqH k K H a vs := by
  cases k
  · exact FT.sq (K := K) h
  · exact FL.sq h
theorem row_fk {d : D} {v : V} {xs : List D} (r : Rp K mg Z H d v) (e : itemsD d = some xs) : ∃ k a vs, v = .ref a ∧ FK k K Z H a vs ∧ Rps K mg Z H xs vs := by
  cases d with
  | tup ds => cases e; cases r with | tup f r => exact ⟨false, _, _, rfl, f, r⟩
  | lst ds => cases e; cases r with | lst f r => exact ⟨true, _, _, rfl, f, r⟩
  | _ => cases e
theorem itz_ok {k1 k2 : Bool} {xs ys : List D} {vs ws : List V} (f : FK k1 K Z H a vs) (r : Rps K mg Z H xs vs) (f2 : FK k2 K Z H b ws) (r2 : Rps K mg Z H ys ws) : ItOk K mg Z H (ItzK k1 k2 K a b) (zipI xs ys) := fun i Z' H' g zd => by
  have s1 := (f.ag g).sq
  have s2 := (f2.ag g).sq
  have r' := r.ag g
  have r2' := r2.ag g
  have l1 := r'.length
  have l2 := r2'.length
  have lz : (zipI xs ys).length = min xs.length ys.length := by simp [zipI]
  refine ⟨fun hi => ?_, fun hi => ⟨vs, ws, s1, s2, by rw [lz] at hi; omega⟩⟩
  rw [lz] at hi
  have h1 : i < xs.length := by omega
  have h2 : i < ys.length := by omega
  obtain ⟨x, hx, rx⟩ := r'.get (List.getElem?_eq_getElem h1)
  obtain ⟨y, hy, ry⟩ := r2'.get (List.getElem?_eq_getElem h2)
  refine ⟨⟨vs, ws, x, y, s1, s2, hx, hy⟩, fun v H2 ⟨T, x', y', e1, n, e2, q1, q2⟩ => ?_⟩
  have ex := q1 vs s1
  have ey := q2 ws s2
  rw [hx] at ex; cases ex
  rw [hy] at ey; cases ey
  subst e1 e2
  have gl : Gr0 Z' (fun c => Z' c ∨ c = T) H' (upd H' T (.tup [x, y])) := Gr0.frz n zd
  refine ⟨_, .tup [xs[i], ys[i]], ?_, gl, .tup ⟨upd_same, .inr rfl⟩ (.cons (rx.ag (gl.ag0 zd)) (.cons (ry.ag (gl.ag0 zd)) .nil))⟩
  unfold zipI
  have ez : (xs.zip ys)[i]? = some (xs[i], ys[i]) := by
    rw [List.getElem?_zip_eq_some]
    exact ⟨List.getElem?_eq_getElem h1, List.getElem?_eq_getElem h2⟩
  rw [List.getElem?_map, ez]
  rfl
end
section
variable {X : Cx} {S : Sx} {C : Xd → Gm → Prop} {Δ Δ1 Δ2 : Fl} {a b : Expr} {m1 m2 : Gm → R D} {p pos tpos : Pos} {elts : List Expr} {kk : Nat}
theorem di_zip (hm : X.mg "zip" = none) (ha : DE X S C Δ a m1 Δ1 .im) (hb : DE X S C Δ1 b m2 Δ2 .im) (hg : Gl X "zip" := by rfl) (hs : starEach [a, b] X.env = (false, eval a X.env) :: starEach [b] X.env := by rfl) (hpl : (backTo pos (starEach [b] X.env)).any (·.1) = false := by rfl)
    (hs2 : starEach (b :: []) X.env = (false, eval b X.env) :: starEach [] X.env := by rfl) : DI X S C Δ (.Tuple elts kk tpos) (.Call (.Name "zip" p) [a, b] [] pos) (mZip m1 m2) Δ2 :=
  PI_weak (pi_zipK hg hm (pa_cons ha (pa_cons hb pa_nil hs2) hs) hs hpl) fun σ H Q ⟨Z, Γ, s, h⟩ => ⟨Z, Γ, s, h.bind.mono (fun d Γ1 h1 Z1 H1 v g1 r1 => ⟨Z1, Γ1, g1.s, h1.bind.mono (fun e Γ2 h2 Z2 H2 w g2 r2 => by
    obtain ⟨items, hi, q⟩ := h2.of
    unfold zipD at hi
    split at hi
    · rename_i xs ys ex ey
      cases hi
      have r1' : Rp X.K X.mg Z2 H2 d v := (show Rp X.K X.mg Z1 H1 d v from r1).ag (g2.ag g1.s)
      have r2' : Rp X.K X.mg Z2 H2 e w := r2
      obtain ⟨k1, a1, vs, rfl, f1, q1⟩ := row_fk r1' ex
      obtain ⟨k2, a2, ws, rfl, f2, q2⟩ := row_fk r2' ey
      exact ⟨k1, k2, a1, a2, vs, ws, rfl, f1.sq, f2.sq, q Z2 H2 _ (g1.trans g2) (itz_ok f1 q1 f2 q2)⟩
    · cases hi) fun _ _ c => c⟩) fun _ _ c => c⟩
end
end DL
namespace DL
open PySem PySem.Spec PyProof.Rows L2
theorem pu_lst0 : Pu (mLst []) := fun Γ d Γ' e => by
  unfold mLst at e
  cases e; rfl
end DL
namespace DL
open PySem PySem.Spec PyProof.Rows L2
/-- a slice of a list, a tuple, a text -/
def slA : D → Option Int → Option Int → Option D
  | .lst xs, lo, hi => some (.lst (cutL xs lo hi))
  | d, lo, hi => slD d lo hi
/-- an answer that is a new list, frozen -/
theorem resLf {K : PySem.W.Frag} {mg : Str → Option Value} {Z : Addr → Prop} {H : Hp} {us : List D} {vs : List V} {Q : VK} (zd : Zd Z H) (q : ∀ Z' H' v, Gr0 Z Z' H H' → ResB K mg H Z' H' false (.lst us) v → Q v H') (r : Rps K mg Z H us vs)
    {p : Addr} (n : H p = none) : Q (.ref p) (upd H p (.lst vs)) := by
  have g : Gr0 Z (fun x => Z x ∨ x = p) H (upd H p (.lst vs)) := Gr0.frz n zd
  exact q _ _ _ g (.lst (.inl ⟨.inl upd_same, .inr rfl⟩) (r.ag (g.ag0 zd)))
theorem sd_slA {X : Cx} : SlR X (rS X.K X.mg slA false) := SlR_imp (SlR.or sl_list (SlR.or sl_tupA C8.sl_txt)) fun x lo hi H Q ⟨Z, d, u, zd, p1, h, q⟩ => by
  have hz : sizeLine = 16777216 := sizeLine_eq
  unfold slA at h; split at h
  · cases h
    obtain ⟨a, vs, rfl, f, r⟩ := p1.lst
    exact .inl ⟨a, vs, rfl, f, fun p n => resLf zd q (cut_rps r) n⟩
  · unfold slD at h; split at h
    · cases h
      obtain ⟨a, vs, rfl, f, r⟩ := p1.tup
      refine .inr (.inl ⟨a, vs, rfl, f.sq, fun hw => ?_, fun hw p n => resT zd q (cut_rps r) n⟩)
      rw [cut_whole (by rw [r.length]; exact hw)] at q
      exact res0 zd q (.tup f r)
    · split at h
      · cases h; exact .inr (.inr ⟨_, p1.str, by omega, res0 zd q (.str _)⟩)
      · cases h
    · cases h
end DL
/-! DL34: objects of own classes: fields read and stored, made, methods, properties, staticmethods. -/
namespace DL
open PySem PySem.Spec PyProof.Rows L2

/-! ### fields -/
def fldD (dom : List Str) (f : Str) : D → Option D
  | .obj c fs => if dom.contains c = true then fs.lookup f else none
  | _ => none
def FldD (K : PySem.W.Frag) (mg : Str → Option Value) (dom : List Str) (f : Str) : Prop := ∀ c C, dom.contains c = true → mg c = some (.ref C) → Cls K C ∧ NoAttr K C f
theorem Pk.obj {K : PySem.W.Frag} {mg : Str → Option Value} {Z : Addr → Prop} {H : Hp} {c : Str} {ds : List (Str × D)} {v : V} (h : Pk K mg Z H (.obj c ds) v) : ∃ (a C dx : Addr) (fs : List (Str × V)), v = .ref a ∧ mg c = some (.ref C) ∧ H a = some (.ins C dx fs) ∧ Rpf K mg Z H ds fs := by
  cases h with
  | rp h => cases h with | obj m h z r => exact ⟨_, _, _, _, rfl, m, h, r⟩
  | ow h => cases h with | obj m h r => exact ⟨_, _, _, _, rfl, m, h, r⟩
section
variable {X : Cx} {S : Sx} {C : Xd → Gm → Prop} {Δ Δ1 : Fl} {a : Expr} {m : Gm → R D} {k : Kd} {dom : List Str} {f : Str} {pos : Pos}
theorem de_fld (hf : FldD X.K X.mg dom f) (ha : DE X S C Δ a m Δ1 k) (hb : attributeBase a f X.env (eval a X.env) = eval a X.env := by rfl) : DE X S C Δ (.Attribute a f pos) (mUn (fldD dom f) m) Δ1 .im :=
  (pe_fld ha hb).weak fun σ H Q ⟨Z, Γ, s, h⟩ => ⟨Z, Γ, s, h.bind.mono (fun d Γ1 h1 Z1 H1 v g1 r1 => by
    obtain ⟨u, hu, q⟩ := h1.of
    unfold fldD at hu; split at hu
    · rename_i c fs
      split at hu
      · rename_i hd
        obtain ⟨p, C0, dx, fv, rfl, hm, hH, r⟩ := (r1.pk g1.s).obj
        obtain ⟨c1, n1⟩ := hf _ _ hd hm
        obtain ⟨w, hw, rw⟩ := r.lookup hu
        exact ⟨p, C0, dx, fv, w, rfl, hH, c1, n1, hw, q Z1 H1 w g1 rw⟩
      · cases hu
    · cases hu) fun _ _ c => c⟩
end
def putFD (f : Str) (d : D) : List (Str × D) → List (Str × D)
  | [] => [(f, d)]
  | (g, x) :: r => if g = f then (g, d) :: r else (g, x) :: putFD f d r
theorem Rpf.put {K : PySem.W.Frag} {mg : Str → Option Value} {Z : Addr → Prop} {H : Hp} {f : Str} {d : D} {v : V} (rv : Rp K mg Z H d v) : ∀ {ds : List (Str × D)} {fs : List (Str × V)}, Rpf K mg Z H ds fs → Rpf K mg Z H (putFD f d ds) (putF f v fs)
  | _, _, .nil => .cons rv .nil
  | _, _, .cons (f := g) r t => by
    unfold putFD putF
    by_cases h : g = f
    · rw [if_pos h, if_pos h]; exact .cons rv t
    · rw [if_neg h, if_neg h]; exact .cons r (Rpf.put rv t)
/-- self.f = e: the object that slot s owns -/
def mStF (dom : List Str) (s : Nat) (f : Str) (m : Gm → R D) : Gm → SE := fun Γ => (m Γ).toS fun d Γ1 => match Γ1[s]? with
  | some (some (.obj c fs)) => if dom.contains c = true ∧ fs.length < 1000 then .nx (Γ1.set s (some (.obj c (putFD f d fs)))) else .no
  | _ => .no
section
variable {X : Cx} {B : Bx} {Δ Δ1 : Fl} {e : Expr} {m : Gm → R D} {dom : List Str} {f : Str} {pos : Pos}
theorem SR.owo {K : PySem.W.Frag} {mg : Str → Option Value} {S : Sx} {Z : Addr → Prop} {Γ : Gm} {σ : Sg} {H : Hp} {i : Nat} {c : Str} {ds : List (Str × D)} (s : SR K mg S Δ Z Γ σ H) (e : Γ[i]? = some (some (.obj c ds))) (o : Δ[i]? = some true) :
    ∃ (a C dx : Addr) (fs : List (Str × V)), σ[i]? = some (some (V.ref a)) ∧ mg c = some (.ref C) ∧ H a = some (.ins C dx fs) ∧ Rpf K mg Z H ds fs ∧ ¬ Z a := by
  obtain ⟨a, ha, w, nz, _⟩ := s.ow i _ e o
  cases w with
  | obj m h r => exact ⟨a, _, _, _, ha, m, h, r, nz⟩
theorem ds_stF (s0 : Nat) {aN : Str} {p1 p2 : Pos} (hf : FldD X.K X.mg dom f) (he : DE X B.S B.C Δ e m Δ1 .im) (ho : Δ1[s0]? = some true := by rfl) (hN : X.N[s0]? = some aN := by rfl) (hv : Vis X.env.scope aN := by first | exact Or.inl rfl | exact Or.inr (Or.inl rfl) | exact Or.inr (Or.inr rfl))
    (hd : (aN == ("__debug__" : Str)) = false := by decide) (hcd : (aN == ("__classdict__" : Str)) = false := by decide)
    (hs : swapsWith e (some (.Attribute (.Name aN p1) f p2)) pos.line X.env = pure false := by rfl) :
    DS X B Δ (.Assign [.Attribute (.Name aN p1) f p2] e pos) (mStF dom s0 f m) Δ1 :=
  (ps_fld (pe_var hN hv hd hcd) he hs).weak fun Dn σ H ⟨Z, Γ, s, h⟩ => ⟨Z, Γ, s, h.bind.mono (fun d Γ1 ⟨_, h1⟩ Z1 H1 v g1 r1 => by
    split at h1
    · rename_i c fs e0
      split at h1
      · rename_i hc
        obtain ⟨p, C0, dx, fv, ha, hm, hH, r, nz⟩ := g1.s.owo e0 ho
        obtain ⟨c1, n1⟩ := hf _ _ hc.1 hm
        have ag : Ag Z1 Z1 H1 (upd H1 p (.ins C0 dx (putF f v fv))) := ⟨fun _ z => z, fun x z => upd_ne fun e => nz (by rw [← e]; exact z)⟩
        exact ⟨.ref p, ha, p, C0, dx, fv, rfl, hH, c1, n1, by rw [← r.length]; exact hc.2, h1 Z1 σ _ (g1.s.mut ho e0 ha (.obj hm upd_same ((r.put r1).ag ag))) ((g1.ag s).trans ag)⟩
      · exact h1.elim
    · exact h1.elim) fun _ _ c => c⟩
end
end DL
/-! DL35: objects made, their methods, properties; staticmethods; isinstance of own classes. -/
namespace DL
open PySem PySem.Spec PyProof.Rows L2

/-! ### made -/
structure CalI (P : Program) (w : World) (K : PySem.W.Frag) (mg : Str → Option Value) (base : Heap) (k : Nat) (x : Str) (F : List D → FR) (n : Nat) (dds : List D) : Prop where
  ex : ∃ (C f : Addr) (fd : FuncData) (ps : List Str) (ds : List Value) (dvs : List V), Mk K C f ∧ mg x = some (.ref C) ∧ FnOk P w K mg base (L2.CX P w) k f fd ps (spD K mg F (n + 1) [0] false) ∧ Binds K fd ps ds ∧ Vals dvs ds ∧ (∀ Z H, Rps K mg Z H dds dvs)
def mMake (x : Str) (F : List D → FR) (dds : List D) (as : List Am) : Gm → R D := fun Γ => (evA as Γ).bind fun xs Γ1 => match fillA Γ1 as xs with
  | some ds => match F (.obj x [] :: (ds ++ dds)) with
    | .rt .non [o] => .ok o Γ1
    | .ex x _ => .ex x Γ1
    | _ => .no
  | none => .no
def tMakeSD (C : Addr) (sp : Sp) (dvs : List V) (E : L2.St → XK) (t : TA) : TE := fun σ H Q => t σ H fun vs H1 => ∀ x dx, H1 x = none → H1 dx = none → dx ≠ x →
  sp (.ref x :: (vs ++ dvs)) (upd (upd H1 dx (.own x)) x (.ins C dx [])) (fun v H2 => v = .non ∧ Q (.ref x) H2) (E σ)
section
variable {X : Cx} {CX : CXT} {k : Nat} {f C : Addr} {fd : FuncData} {ps : List Str} {sp : Sp} {dvs : List V} {ds : List Value} {E : L2.St → XK} {x : Str} {p pos : Pos} {e : Expr} {es : List Expr} {t : TA}
theorem run_makeSD {pins : List (Addr × Obj)} {σ : L2.St} {H : Hp} {s : Shared} {Q : VK} {us : List Value} {vs : List V} (M : Mk X.K C f) (F : FnOk X.prog X.w X.K X.mg X.base CX k f fd ps sp) (hr : Room (k + 1) X.A) (hb : Binds X.K fd ps ds) (hd : Vals dvs ds) (hx : PassesAt CX X σ (E σ)) (I : Inv X pins σ H s) (r : Vals vs us)
    (h : ∀ x dx, H x = none → H dx = none → dx ≠ x → sp (.ref x :: (vs ++ dvs)) (upd (upd H dx (.own x)) x (.ins C dx [])) (fun v H2 => v = .non ∧ Q (.ref x) H2) (E σ)) :
    wpAny (model X.prog X.w) X.A (call (.ref C) us) (EP X pins σ Q) X.xe s := by
  have hq := h (s.heap.objs.size + 1) s.heap.objs.size (I.hok.fresh (Nat.le_succ _)) (I.hok.fresh (Nat.le_refl _)) (Nat.ne_of_lt (Nat.lt_succ_self _))
  have I2 := Inv.made (C := C) I
  have r2 : Vals (V.ref (s.heap.objs.size + 1) :: (vs ++ dvs)) (Value.ref (s.heap.objs.size + 1) :: (us ++ ds)) := .cons rfl (r.append hd)
  have hl : (Value.ref (s.heap.objs.size + 1) :: us ++ ds).length = ps.length := by
    have e := r2.length
    rw [F.len _ _ _ _ hq] at e; exact e.symm
  have fr := F.run _ X.stack _ _ ⟨Value.ref (s.heap.objs.size + 1) :: us, []⟩ (Value.ref (s.heap.objs.size + 1) :: (us ++ ds)) _ _ (E σ) (hr.make C us []) (I2.env0.make C us []) (hb _ (Value.ref (s.heap.objs.size + 1) :: us) I2.kIn hl) r2 hq
  refine wpAny_call (make_map (f := f) I.kIn M.makes M.init (beq_iff_eq.mp M.fn) (codeAny_mono fr fun r s' hq' => ?_))
  cases r with
  | error e => exact hx pins _ _ e s' I2 hq'
  | ok fl =>
    cases fl with
    | ret u =>
      obtain ⟨v, H', I3, rv, ev, q3⟩ := I2.after hq'; subst ev
      exact ⟨rv, ⟨V.ref (s.heap.objs.size + 1), H', I3, rfl, q3⟩⟩
    | next => exact hq'.elim
    | brk => exact hq'.elim
    | cont => exact hq'.elim
theorem pe_makeSD (M : Mk X.K C f) (F : FnOk X.prog X.w X.K X.mg X.base CX k f fd ps sp) (hr : Room (k + 1) X.A) (hg : Gl X x) (hm : X.mg x = some (.ref C)) (hb : Binds X.K fd ps ds) (hd : Vals dvs ds) (hx : ∀ σ, PassesAt CX X σ (E σ))
    (ha : PA X (e :: es) t) (hdb : (x == ("__debug__" : Str)) = false := by decide) (he : starEach (e :: es) X.env = (false, eval e X.env) :: starEach es X.env := by rfl) (hpl : (backTo pos (starEach es X.env)).any (·.1) = false := by rfl) :
    PE X (.Call (.Name x p) (e :: es) [] pos) (tMakeSD C sp dvs E t) := by
  refine ⟨fun pins s σ H Q I h => wpAny_Call_Name_kw (ld_glob I hg hm ?_ hdb)⟩
  refine PySem.W.callWith_K (h₀ := X.base) I.ok.mod.kin M.kp (thn (ha.run pos pins s σ H _ I h) fun us s1 ⟨vs, H1, I1, r, q⟩ => ⟨I1.kIn, run_makeSD M F hr hb hd (hx σ) I1 r q⟩) he hpl
end
section
variable {K : PySem.W.Frag} {mg : Str → Option Value} {Z Z' : Addr → Prop} {H H' : Hp}
/-- what a __init__ makes of the new heap, seen from before -/
theorem AfterD.made {x dx C : Addr} {vs : List V} {os : List D} (nx : H x = none) (nd : H dx = none) (zd : Zd Z H) (af : AfterD K mg Z (upd (upd H dx (.own x)) x (.ins C dx [])) [0] (V.ref x :: vs) os Z' H') : Gr0 Z Z' H H' := by
  have mv : ∀ a, Mv [0] (V.ref x :: vs) a → a = x := fun a ⟨i, hi, e⟩ => by
    simp at hi; subst hi; simp at e; exact e.symm
  have kp : ∀ a o, H a = some o → (upd (upd H dx (.own x)) x (.ins C dx [])) a = some o := fun a o e => by
    rw [upd_ne (ne_of_none e nx), upd_ne (ne_of_none e nd)]; exact e
  refine ⟨af.g.zs, fun a o e _ => af.g.kp a o (kp a o e) fun m => ne_of_none e nx (mv a m), fun a z => ?_, fun a o e => af.g.th a o (kp a o e), af.g.zd⟩
  rcases af.g.nw a z with q | q | q
  · exact .inl q
  · exact .inr (.inr (by rw [mv a q]; exact nx))
  · by_cases h1 : a = x
    · exact .inr (.inr (by rw [h1]; exact nx))
    · by_cases h2 : a = dx
      · exact .inr (.inr (by rw [h2]; exact nd))
      · rw [upd_ne h1, upd_ne h2] at q; exact .inr (.inr q)
theorem made_args {σ : Sg} {Γ : Gm} {as : List Am} {xs : List (Option D)} {ds dds : List D} {vs dvs : List V} {x dx C : Addr} {c : Str} (zd : Zd Z H) (nx : H x = none) (nd : H dx = none) (hm : mg c = some (.ref C)) (hf : fillA Γ as xs = some ds) (ha : ArA K mg σ Z H as xs vs) (h0 : slotsA as = []) (hd : Rps K mg Z H dds dvs) :
    ArgsOk K mg Z (upd (upd H dx (.own x)) x (.ins C dx [])) [0] (.obj c [] :: (ds ++ dds)) (V.ref x :: (vs ++ dvs)) := by
  obtain ⟨l1, l2, q⟩ := fill_get hf ha
  have ag : Ag Z Z H (upd (upd H dx (.own x)) x (.ins C dx [])) := ⟨fun _ z => z, fun a z => by
    obtain ⟨o, e⟩ := zd.1 a z
    rw [upd_ne (ne_of_none e nx), upd_ne (ne_of_none e nd)]⟩
  have nz : ¬ Z x := fun z => by obtain ⟨o, e⟩ := zd.1 x z; rw [nx] at e; cases e
  refine ⟨by simp [l1, hd.length], fun i d e hi => ?_, fun i d e hi => ?_, fun i j a hij hi hj => ?_⟩
  · cases i with
    | zero => simp at hi
    | succ i =>
      rw [List.getElem?_cons_succ] at e ⊢
      by_cases hl : i < ds.length
      · rw [List.getElem?_append_left hl] at e
        rcases q i d e with ⟨m, v, _, hv, r⟩ | ⟨j, v, hj, _⟩
        · exact ⟨v, by rw [List.getElem?_append_left (by omega)]; exact hv, r.ag ag⟩
        · have := slot_mem.mpr ⟨i, hj⟩
          rw [h0] at this; cases this
      · rw [List.getElem?_append_right (by omega)] at e
        obtain ⟨v, hv, r⟩ := hd.get e
        exact ⟨v, by rw [List.getElem?_append_right (by omega), ← l1]; exact hv, r.ag ag⟩
  · simp at hi; subst hi
    simp at e; subst e
    exact ⟨x, rfl, .obj hm upd_same .nil, nz⟩
  · simp at hi hj; omega
end
section
variable {X : Cx} {B : Bx} {Δ Δ1 : Fl} {e : Expr} {es : List Expr} {as : List Am} {x : Str} {p pos : Pos} {k k' n : Nat} {F : List D → FR} {dds : List D}
theorem de_makeB (bd : Body X B k') (c : CalI X.prog X.w X.K X.mg X.base k x F n dds) (ha : DAr X B.S B.C Δ (e :: es) as Δ1) (hPx : (B.P.all fun i => B.Δx[i]? == some true) = true := by rfl) (hk : k + 1 ≤ k' := by decide) (h0 : slotsA as = [] := by rfl) (hn : as.length + dds.length = n := by rfl)
    (hs : sub B.Δx Δ1 = true := by rfl) (hg : Gl X x := by rfl) (hdb : (x == ("__debug__" : Str)) = false := by decide)
    (he : starEach (e :: es) X.env = (false, eval e X.env) :: starEach es X.env := by rfl) (hpl : (backTo pos (starEach es X.env)).any (·.1) = false := by rfl) : DE X B.S B.C Δ (.Call (.Name x p) (e :: es) [] pos) (mMake x F dds as) Δ1 .ow := by
  obtain ⟨C0, f, fd, ps, ds, dvs, M, hm, fo, hb, hd, hdr⟩ := c.ex
  obtain ⟨W, tw, hw⟩ := bd.tk
  have hpm := bd.ob.pm.own hPx
  refine (pe_makeSD (E := WE W) M fo (bd.rm.mono hk) hg hm hb hd (fun σ => passAt tw σ) ha hdb he hpl).weak fun σ H Q ⟨Z, Γ, s, h⟩ => ?_
  refine ⟨Z, Γ, s, h.bind.mono (fun xs Γ1 h1 Z1 H1 vs g1 r1 => ?_) fun _ _ c => c⟩
  cases ef : fillA Γ1 as xs with
  | none => rw [ef] at h1; exact h1.elim
  | some dl =>
    rw [ef] at h1
    intro p dx np nd _
    obtain ⟨l1, l2, _⟩ := fill_get ef r1
    have hdl := (hdr Z1 H1).length
    have zd1 : Zd Z1 H1 := g1.s.zd
    have zd2 : Zd Z1 (upd (upd H1 dx (.own p)) p (.ins C0 dx [])) := (zd1.upd (fun _ z => by cases z)).upd (fun _ z => by cases z)
    refine ⟨by rw [List.length_cons, List.length_append, ← l2, ← hdl, hn], Z1, .obj x [] :: (dl ++ dds), zd2, made_args zd1 np nd hm ef r1 h0 (hdr Z1 H1), ?_⟩
    dsimp only at h1
    cases eF : F (.obj x [] :: (dl ++ dds)) with
    | rt d os =>
      rw [eF] at h1
      intro Z2 H2 v af rt
      have g0 := af.made np nd zd1
      have g2 : Go X.K X.mg B.S σ Δ Z Γ H Δ1 Z2 Γ1 H2 := g1.trans (.gr0 g1.s g0)
      split at h1
      · rename_i d' os' o er
        cases er
        cases rt
        obtain ⟨u, hu, w, nz⟩ := af.o 0 0 p rfl rfl
        simp at hu; subst hu
        refine ⟨rfl, h1 Z2 H2 _ g2 ⟨p, rfl, w, nz, fun oa => ?_, ?_⟩⟩
        · exact g1.s.freshO np oa
        · cases q : H p with
          | none => rfl
          | some o' =>
            obtain ⟨o2, e'⟩ := g1.g.th p o' q
            rw [np] at e'; cases e'
      · rename_i er; cases er
      · exact h1.elim
    | ex x os =>
      rw [eF] at h1
      intro Z2 H2 cls dd af rx
      have g2 : Go X.K X.mg B.S σ Δ Z Γ H Δ1 Z2 Γ1 H2 := g1.trans (.gr0 g1.s (af.made np nd zd1))
      exact TkC.out hw g2.s hs hpm rx h1
    | no => rw [eF] at h1; exact h1.elim
end
end DL
/-! DL36: methods, properties, staticmethods; isinstance of own classes. -/
namespace DL
open PySem PySem.Spec PyProof.Rows L2
theorem posA_nil : ∀ {as : List Am} (k : Nat), slotsA as = [] → posA k as = []
  | [], _, _ => rfl
  | .e _ :: as, k, h => by unfold posA; exact posA_nil (as := as) (k + 1) (by simpa [slotsA] using h)
  | .p _ :: _, _, h => by simp [slotsA] at h
/-! ### methods -/
structure MethT (P : Program) (w : World) (K : PySem.W.Frag) (mg : Str → Option Value) (base : Heap) (k : Nat) (m : Str) (tbl : List (Str × (List D → FR))) (n : Nat) (ro : Bool) (dds : List D) : Prop where
  ex : ∀ c F C, tbl.lookup c = some F → mg c = some (.ref C) → ∃ (f : Addr) (fd : FuncData) (ps : List Str) (ds : List Value) (dvs : List V), Cls K C ∧ Meth K C m f ∧ FnOk P w K mg base (L2.CX P w) k f fd ps (spD K mg F n [] ro) ∧ Binds K fd ps ds ∧ Vals dvs ds ∧ (∀ Z H, Rps K mg Z H dds dvs)
def mMeth (m : Str) (tbl : List (Str × (List D → FR))) (dds : List D) (m0 : Gm → R D) (as : List Am) : Gm → R D := fun Γ => (m0 Γ).bind fun d0 Γ0 => match d0 with
  | .obj c fs => match tbl.lookup c with
    | some F => if (fs.lookup m).isNone = true then (evA as Γ0).bind fun xs Γ1 => match fillA Γ1 as xs with
        | some ds => match F (.obj c fs :: (ds ++ dds)) with
          | .rt d _ => .ok d Γ1
          | .ex x _ => .ex x Γ1
          | .no => .no
        | none => .no
      else .no
    | none => .no
  | _ => .no
def tMethD (X : Cx) (CX : CXT) (k : Nat) (m : Str) (E : L2.St → XK) (ta : TE) (t : TA) : TE := fun σ H Q => ta σ H fun x H1 => ∃ (a C dx f : Addr) (fs : List (Str × V)) (fd : FuncData) (ps : List Str) (sp : Sp) (ds : List Value) (dvs : List V),
  x = .ref a ∧ H1 a = some (.ins C dx fs) ∧ Cls X.K C ∧ Meth X.K C m f ∧ FnOk X.prog X.w X.K X.mg X.base CX k f fd ps sp ∧ Binds X.K fd ps ds ∧ Vals dvs ds ∧ fs.lookup m = none ∧ t σ H1 fun vs H2 => sp (x :: (vs ++ dvs)) H2 Q (E σ)
section
variable {X : Cx} {CX : CXT} {k : Nat} {E : L2.St → XK} {m : Str} {pos apos : Pos} {e o : Expr} {es : List Expr} {ta : TE} {t : TA}
theorem pe_methD {pl : Sem Bool} (he : PE X o ta) (hr : Room k X.A) (hx : ∀ σ, PassesAt CX X σ (E σ)) (ha : PA X (e :: es) t)
    (hst : starEach (e :: es) X.env = (false, eval e X.env) :: starEach es X.env := by rfl) (hpl : (backTo pos (starEach es X.env)).any (·.1) = false := by rfl)
    (ht : eval (.Call (.Attribute o m apos) (e :: es) [] pos) X.env = (do let ov ← eval o X.env; standAt apos.atName; let (f, first) ← holding [ov] (getMethod ov m pl); callWith pos f first (backTo pos (starEach (e :: es) X.env)) (backToKw pos (keywordEach [] X.env))) := by rfl) :
    PE X (.Call (.Attribute o m apos) (e :: es) [] pos) (tMethD X CX k m E ta t) := by
  refine ⟨fun pins s σ H Q I h => PySem.W.methodCall_KW (pl := pl) (thn (he.run pins s σ H _ I h) fun u s1 ⟨x, H1, I1, rx, a, C, dx, f, fs, fd, ps, sp, ds, dvs, ex, ea, c, hm, F, hb, hd, l, q⟩ => ?_) ht⟩
  subst ex
  obtain rfl : u = Value.ref a := rx
  refine getmeth_ok I1 ea c hm l (PySem.W.callWith_K (first := [.ref a]) (h₀ := X.base) I.ok.mod.kin hm.kp (thn (ha.run pos pins s1 σ H1 _ I1 q) fun us s2 ⟨vs, H2, I2, r, q2⟩ => ⟨I2.kIn, ?_⟩) hst hpl)
  exact run_fnSD (us := .ref a :: us) (vs := .ref a :: vs) F hr hb hd (hx σ) I2 (.cons rfl r) q2
theorem pe_methD0 {pl : Sem Bool} (he : PE X o ta) (hr : Room k X.A) (hx : ∀ σ, PassesAt CX X σ (E σ))
    (ht : eval (.Call (.Attribute o m apos) [] [] pos) X.env = (do let ov ← eval o X.env; standAt apos.atName; let (f, first) ← holding [ov] (getMethod ov m pl); callWith pos f first (backTo pos (starEach [] X.env)) (backToKw pos (keywordEach [] X.env))) := by rfl) :
    PE X (.Call (.Attribute o m apos) [] [] pos) (tMethD X CX k m E ta tNil) := by
  refine ⟨fun pins s σ H Q I h => PySem.W.methodCall_KW (pl := pl) (thn (he.run pins s σ H _ I h) fun u s1 ⟨x, H1, I1, rx, a, C, dx, f, fs, fd, ps, sp, ds, dvs, ex, ea, c, hm, F, hb, hd, l, q⟩ => ?_) ht⟩
  subst ex
  obtain rfl : u = Value.ref a := rx
  exact getmeth_ok I1 ea c hm l (PySem.W.callWith_K0 (first := [.ref a]) I1.kIn hm.kp (run_fnSD (us := [.ref a]) (vs := [.ref a]) F hr hb hd (hx σ) I1 (.cons rfl .nil) q))
end
section
variable {X : Cx} {B : Bx} {Δ Δ0 Δ1 : Fl} {o e : Expr} {es : List Expr} {as : List Am} {m0 : Gm → R D} {m : Str} {apos pos : Pos} {k k' n : Nat} {tbl : List (Str × (List D → FR))} {ro : Bool} {dds : List D}
theorem meth_weak {W : WX} {te : TE} {tar : TA} (bd : Body X B k') (c : MethT X.prog X.w X.K X.mg X.base k m tbl n ro dds) (hw : ∀ x Γ Z σ H cls dd, SR X.K X.mg B.S B.Δx Z Γ σ H → Xr X.K X.mg Z H x cls dd → B.C x Γ → W cls dd σ H) (hpm : ∀ p ∈ B.S.PM, own B.Δx p.1) (h0 : slotsA as = []) (hn : as.length + dds.length + 1 = n) (hs : sub B.Δx Δ1 = true)
    (hte : te = rdE X.K X.mg B.S B.C Δ m0 Δ0 .im) (hta : tar = rdAr X.K X.mg B.S B.C Δ0 as Δ1) :
    ∀ σ H Q, rdE X.K X.mg B.S B.C Δ (mMeth m tbl dds m0 as) Δ1 (kb ro) σ H Q → tMethD X (L2.CX X.prog X.w) k m (WE W) te tar σ H Q := by
  subst hte hta
  intro σ H Q ⟨Z, Γ, s, h⟩
  refine ⟨Z, Γ, s, h.bind.mono (fun d0 Γ0 h0' Z0 H0 v0 g0 r0 => ?_) fun _ _ c => c⟩
  split at h0'
  · rename_i c0 fs0
    cases eT : tbl.lookup c0 with
    | none => rw [eT] at h0'; exact h0'.elim
    | some F =>
      rw [eT] at h0'
      dsimp only at h0'
      split at h0'
      · rename_i hno
        obtain ⟨p, C0, dx, fv, rfl, hm, hH, r⟩ := Pk.obj (.rp r0)
        obtain ⟨f, fd, ps, ds, dvs, hc, hme, fo, hb, hd, hdr⟩ := c.ex _ _ _ eT hm
        refine ⟨p, C0, dx, f, fv, fd, ps, _, ds, dvs, rfl, hH, hc, hme, fo, hb, hd, r.lookup_none (by simpa using hno), Z0, Γ0, g0.s, h0'.bind.mono (fun xs Γ1 h1 Z1 H1 vs g1 r1 => ?_) fun _ _ c => c⟩
        have g01 : Go X.K X.mg B.S σ Δ Z Γ H Δ1 Z1 Γ1 H1 := g0.trans g1
        cases ef : fillA Γ1 as xs with
        | none => rw [ef] at h1; exact h1.elim
        | some dl =>
          rw [ef] at h1
          obtain ⟨l1, l2, _⟩ := fill_get ef r1
          have hdl := (hdr Z1 H1).length
          have r01 : Rp X.K X.mg Z1 H1 (.obj c0 fs0) (.ref p) := Rp.ag (g1.ag g0.s) r0
          have ef' : fillA Γ1 (.e m0 :: as) (some (.obj c0 fs0) :: xs) = some (.obj c0 fs0 :: dl) := by unfold fillA; rw [ef]
          have ra' : ArA X.K X.mg σ Z1 H1 (.e m0 :: as) (some (.obj c0 fs0) :: xs) (V.ref p :: vs) := .e r01 r1
          have sl : slotsA (.e m0 :: as) = [] := h0
          have nd : (slotsA (.e m0 :: as)).Nodup := by rw [sl]; exact List.nodup_nil
          have ho : ∀ i ∈ slotsA (.e m0 :: as), own Δ1 i := by rw [sl]; intro i hi; cases hi
          have ao := args_ok g1.s ef' ra' nd ho (hdr Z1 H1)
          rw [posA_nil 0 sl] at ao
          refine ⟨by rw [List.length_cons, List.length_append, ← l2, ← hdl, hn], Z1, .obj c0 fs0 :: (dl ++ dds), g1.s.zd, ao, ?_⟩
          dsimp only at h1
          cases eF : F (.obj c0 fs0 :: (dl ++ dds)) with
          | rt d os =>
            rw [eF] at h1
            intro Z2 H2 v af rt
            have af' : AfterD X.K X.mg Z1 H1 (posA 0 (.e m0 :: as)) (V.ref p :: vs ++ dvs) os Z2 H2 := by rw [posA_nil 0 sl]; exact af
            have g2 := g1.s.called ef' ra' nd ho (hdr Z1 H1) af'
            rw [sl] at g2
            have g2 : Go X.K X.mg B.S σ Δ1 Z1 Γ1 H1 Δ1 Z2 Γ1 H2 := by cases os <;> exact g2
            refine h1 Z2 H2 v (g01.trans g2) ?_
            cases ro with
            | false => exact rt
            | true =>
              obtain ⟨a, e1, w, nz, n0⟩ := rt
              refine ⟨a, e1, w, nz, fun o => g1.s.freshO n0 (g2.o _ o), ?_⟩
              cases q : H a with
              | none => rfl
              | some o =>
                obtain ⟨o', e'⟩ := g01.g.th a o q
                rw [n0] at e'; cases e'
          | ex x os =>
            rw [eF] at h1
            intro Z2 H2 cls dd af rx
            have af' : AfterD X.K X.mg Z1 H1 (posA 0 (.e m0 :: as)) (V.ref p :: vs ++ dvs) os Z2 H2 := by rw [posA_nil 0 sl]; exact af
            have g2 := g1.s.called ef' ra' nd ho (hdr Z1 H1) af'
            rw [sl] at g2
            have g2 : Go X.K X.mg B.S σ Δ1 Z1 Γ1 H1 Δ1 Z2 Γ1 H2 := by cases os <;> exact g2
            exact TkC.out hw g2.s hs hpm rx h1
          | no => rw [eF] at h1; exact h1.elim
      · exact h0'.elim
  · exact h0'.elim
theorem de_methB {pl : Sem Bool} (bd : Body X B k') (c : MethT X.prog X.w X.K X.mg X.base k m tbl n ro dds) (h : DE X B.S B.C Δ o m0 Δ0 .im) (ha : DAr X B.S B.C Δ0 (e :: es) as Δ1) (hPx : (B.P.all fun i => B.Δx[i]? == some true) = true := by rfl) (hk : k ≤ k' := by decide) (h0 : slotsA as = [] := by rfl) (hn : as.length + dds.length + 1 = n := by rfl) (hs : sub B.Δx Δ1 = true := by rfl)
    (hst : starEach (e :: es) X.env = (false, eval e X.env) :: starEach es X.env := by rfl) (hpl : (backTo pos (starEach es X.env)).any (·.1) = false := by rfl)
    (ht : eval (.Call (.Attribute o m apos) (e :: es) [] pos) X.env = (do let ov ← eval o X.env; standAt apos.atName; let (f, first) ← holding [ov] (getMethod ov m pl); callWith pos f first (backTo pos (starEach (e :: es) X.env)) (backToKw pos (keywordEach [] X.env))) := by rfl) :
    DE X B.S B.C Δ (.Call (.Attribute o m apos) (e :: es) [] pos) (mMeth m tbl dds m0 as) Δ1 (kb ro) := by
  obtain ⟨W, tw, hw⟩ := bd.tk
  exact (pe_methD (CX := L2.CX X.prog X.w) (k := k) (E := WE W) (pl := pl) h (bd.rm.mono hk) (fun σ => passAt tw σ) ha hst hpl ht).weak (meth_weak bd c hw (bd.ob.pm.own hPx) h0 hn hs rfl rfl)
theorem de_methB0 {pl : Sem Bool} (bd : Body X B k') (c : MethT X.prog X.w X.K X.mg X.base k m tbl n ro dds) (h : DE X B.S B.C Δ o m0 Δ1 .im) (hPx : (B.P.all fun i => B.Δx[i]? == some true) = true := by rfl) (hk : k ≤ k' := by decide) (hn : dds.length + 1 = n := by rfl) (hs : sub B.Δx Δ1 = true := by rfl)
    (ht : eval (.Call (.Attribute o m apos) [] [] pos) X.env = (do let ov ← eval o X.env; standAt apos.atName; let (f, first) ← holding [ov] (getMethod ov m pl); callWith pos f first (backTo pos (starEach [] X.env)) (backToKw pos (keywordEach [] X.env))) := by rfl) :
    DE X B.S B.C Δ (.Call (.Attribute o m apos) [] [] pos) (mMeth m tbl dds m0 []) Δ1 (kb ro) := by
  obtain ⟨W, tw, hw⟩ := bd.tk
  refine (pe_methD0 (CX := L2.CX X.prog X.w) (k := k) (E := WE W) (pl := pl) h (bd.rm.mono hk) (fun σ => passAt tw σ) ht).weak fun σ H Q hh => ?_
  have q := meth_weak (tar := rdAr X.K X.mg B.S B.C Δ1 [] Δ1) bd c hw (bd.ob.pm.own hPx) rfl (by simpa using hn) hs rfl rfl σ H Q hh
  obtain ⟨Z, Γ, s, hq⟩ := q
  refine ⟨Z, Γ, s, hq.mono (fun d Γ1 h1 Z1 H1 v g r => ?_) fun _ _ c => c⟩
  obtain ⟨a, C0, dx, f, fs, fd, ps, sp, ds, dvs, e1, e2, e3, e4, e5, e6, e7, e8, Z2, Γ2, s2, q2⟩ := h1 Z1 H1 v g r
  exact ⟨a, C0, dx, f, fs, fd, ps, sp, ds, dvs, e1, e2, e3, e4, e5, e6, e7, e8, q2 Z2 H1 [] (.refl s2) .nil⟩
end
/-! ### properties -/
structure PropT (P : Program) (w : World) (K : PySem.W.Frag) (mg : Str → Option Value) (base : Heap) (k : Nat) (f : Str) (tbl : List (Str × (List D → FR))) : Prop where
  ex : ∀ c F C, tbl.lookup c = some F → mg c = some (.ref C) → ∃ (p g : Addr) (fd : FuncData) (ps : List Str), Cls K C ∧ PropOf K C f p g ∧ FnOk P w K mg base (L2.CX P w) k g fd ps (spD K mg F 1 [] false) ∧ Binds K fd ps []
def mProp (tbl : List (Str × (List D → FR))) (m0 : Gm → R D) : Gm → R D := fun Γ => (m0 Γ).bind fun d0 Γ0 => match d0 with
  | .obj c fs => match tbl.lookup c with
    | some F => match F [.obj c fs] with
      | .rt d _ => .ok d Γ0
      | _ => .no
    | none => .no
  | _ => .no
def tPropD (X : Cx) (k : Nat) (f : Str) (ta : TE) : TE := fun σ H Q => ta σ H fun x H1 => ∃ (a C dx p g : Addr) (fs : List (Str × V)) (fd : FuncData) (ps : List Str) (sp : Sp), x = .ref a ∧ H1 a = some (.ins C dx fs) ∧ Cls X.K C ∧ PropOf X.K C f p g ∧ FnOk X.prog X.w X.K X.mg X.base (L2.CX X.prog X.w) k g fd ps sp ∧ Binds X.K fd ps [] ∧
  sp [.ref a] H1 Q (fun _ _ _ => False)
section
variable {X : Cx} {k : Nat} {f : Str} {e : Expr} {pos : Pos} {ta : TE}
theorem pe_propD (he : PE X e ta) (hr : Room (k + 1) X.A) (hab : attributeBase e f X.env (eval e X.env) = eval e X.env) : PE X (.Attribute e f pos) (tPropD X k f ta) := by
  refine ⟨fun pins s σ H Q I h => attr_of hab (thn (he.run pins s σ H _ I h) fun u s1 ⟨x, H1, I1, rx, a, C, dx, p, g, fs, fd, ps, sp, ex, ea, c, hp, F, hb, q⟩ => ?_)⟩
  subst ex
  obtain rfl : u = Value.ref a := rx
  exact getprop_ok (CX := L2.CX X.prog X.w) (dvs := []) (E := fun _ _ _ => False) I1 ea c hp F hr hb .nil (fun pins σ H s e s' _ hq => by obtain ⟨_, _, _, _, _, _, _, _, _, _, _, _, z⟩ := hq; exact z.elim) q
variable {B : Bx} {Δ Δ1 : Fl} {m0 : Gm → R D} {tbl : List (Str × (List D → FR))} {k' : Nat}
theorem de_propB (bd : Body X B k') (c : PropT X.prog X.w X.K X.mg X.base k f tbl) (h : DE X B.S B.C Δ e m0 Δ1 .im) (hk : k + 1 ≤ k' := by decide) (hab : attributeBase e f X.env (eval e X.env) = eval e X.env := by rfl) : DE X B.S B.C Δ (.Attribute e f pos) (mProp tbl m0) Δ1 .im :=
  (pe_propD (k := k) h (bd.rm.mono hk) hab).weak fun σ H Q ⟨Z, Γ, s, h⟩ => ⟨Z, Γ, s, h.bind.mono (fun d0 Γ0 h1 Z1 H1 v g1 r1 => by
    split at h1
    · rename_i c0 fs0
      cases eT : tbl.lookup c0 with
      | none => rw [eT] at h1; exact h1.elim
      | some F =>
        rw [eT] at h1
        dsimp only at h1
        obtain ⟨p, C0, dx, fv, rfl, hm, hH, r⟩ := Pk.obj (.rp r1)
        obtain ⟨pp, g, fd, ps, hc, hpr, fo, hb⟩ := c.ex _ _ _ eT hm
        refine ⟨p, C0, dx, pp, g, fv, fd, ps, _, rfl, hH, hc, hpr, fo, hb, rfl, Z1, [.obj c0 fs0], g1.s.zd, ⟨rfl, fun i d e _ => ?_, fun i d _ hi => by simp at hi, fun i j a _ hi => by simp at hi⟩, ?_⟩
        · cases i with
          | zero => simp at e; subst e; exact ⟨_, rfl, r1⟩
          | succ i => simp at e
        · cases eF : F [.obj c0 fs0] with
          | rt d os =>
            rw [eF] at h1
            intro Z2 H2 v af rt
            have g0 : Gr0 Z1 Z2 H1 H2 := af.g.wide fun a ⟨i, hi, _⟩ => by simp at hi
            exact h1 Z2 H2 v (g1.trans (.gr0 g1.s g0)) rt
          | ex x os => rw [eF] at h1; exact h1.elim
          | no => rw [eF] at h1; exact h1.elim
    · exact h1.elim) fun _ _ c => c⟩
end
/-! ### staticmethods -/
structure CalS (P : Program) (w : World) (K : PySem.W.Frag) (mg : Str → Option Value) (base : Heap) (k : Nat) (x m : Str) (F : List D → FR) (n : Nat) (ro : Bool) (dds : List D) : Prop where
  ex : ∃ (C f q : Addr) (rest : List Value) (fd : FuncData) (ps : List Str) (ds : List Value) (dvs : List V), mg x = some (.ref C) ∧ PySem.W.specialIn K (.ref C) "__getattribute__" = some (some (.builtin "type.__getattribute__")) ∧ PySem.W.readsIn K C (.type "type") = true ∧
    PySem.W.findCls K (.ref C) (.type "type") m = some (.get (.builtin "staticmethod.__get__") (.ref q) .none (.ref C)) ∧ PySem.W.recIn K q "staticmethod" = some (.ref f :: rest) ∧ PySem.W.keepIn K (.ref f) = true ∧
    FnOk P w K mg base (L2.CX P w) k f fd ps (spD K mg F n [] ro) ∧ Binds K fd ps ds ∧ Vals dvs ds ∧ (∀ Z H, Rps K mg Z H dds dvs)
section
variable {X : Cx} {CX : CXT} {k : Nat} {E : L2.St → XK} {x m : Str} {p1 p2 pos : Pos} {e : Expr} {es : List Expr} {t : TA} {C f q : Addr} {rest : List Value} {fd : FuncData} {ps : List Str} {sp : Sp} {ds : List Value} {dvs : List V}
theorem pe_statSD {pl : Sem Bool} (hm : X.mg x = some (.ref C)) (h1 : PySem.W.specialIn X.K (.ref C) "__getattribute__" = some (some (.builtin "type.__getattribute__"))) (h2 : PySem.W.readsIn X.K C (.type "type") = true)
    (h3 : PySem.W.findCls X.K (.ref C) (.type "type") m = some (.get (.builtin "staticmethod.__get__") (.ref q) .none (.ref C))) (h4 : PySem.W.recIn X.K q "staticmethod" = some (.ref f :: rest)) (h5 : PySem.W.keepIn X.K (.ref f) = true)
    (F : FnOk X.prog X.w X.K X.mg X.base CX k f fd ps sp) (hb : Binds X.K fd ps ds) (hd : Vals dvs ds) (hr : Room k X.A) (hx : ∀ σ, PassesAt CX X σ (E σ)) (ha : PA X (e :: es) t) (hg : Gl X x) (hdb : (x == ("__debug__" : Str)) = false)
    (hst : starEach (e :: es) X.env = (false, eval e X.env) :: starEach es X.env) (hpl : (backTo pos (starEach es X.env)).any (·.1) = false)
    (ht : eval (.Call (.Attribute (.Name x p1) m p2) (e :: es) [] pos) X.env = (do let ov ← eval (.Name x p1) X.env; standAt p2.atName; let (f, first) ← holding [ov] (getMethod ov m pl); callWith pos f first (backTo pos (starEach (e :: es) X.env)) (backToKw pos (keywordEach [] X.env)))) :
    PE X (.Call (.Attribute (.Name x p1) m p2) (e :: es) [] pos) (tCallSD sp dvs E t) := by
  refine ⟨fun pins s σ H Q I h => PySem.W.methodCall_KW (pl := pl) (ld_glob I hg hm (PySem.W.method_cls I.kIn h1 ?_) hdb) ht⟩
  refine PySem.W.cls_bind I.kIn h2 h3 (wpAny_call (PySem.W.sm_get (s := { s with toks := s.toks + 1 }) I.kIn h4 (PySem.W.handed_on rfl ?_)))
  have I' := I.tok (s.toks + 1)
  exact PySem.W.callWith_K (h₀ := X.base) I'.ok.mod.kin h5 (thn (ha.run pos pins _ σ H _ I' h) fun us s1 ⟨vs, H1, I1, r, q⟩ => ⟨I1.kIn, run_fnSD F hr hb hd (hx σ) I1 r q⟩) hst hpl
end
end DL
/-! DL37: staticmethods called; isinstance of own classes; the head's facts for classes. -/
namespace DL
open PySem PySem.Spec PyProof.Rows L2
section
variable {X : Cx} {B : Bx} {Δ Δ1 : Fl} {e : Expr} {es : List Expr} {as : List Am} {x m : Str} {p1 p2 pos : Pos} {k k' n : Nat} {F : List D → FR} {ro : Bool} {dds : List D}
theorem de_statB {pl : Sem Bool} (bd : Body X B k') (c : CalS X.prog X.w X.K X.mg X.base k x m F n ro dds) (ha : DAr X B.S B.C Δ (e :: es) as Δ1) (hPx : (B.P.all fun i => B.Δx[i]? == some true) = true := by rfl) (hk : k ≤ k' := by decide) (h0 : slotsA as = [] := by rfl) (hn : as.length + dds.length = n := by rfl) (hs : sub B.Δx Δ1 = true := by rfl) (hg : Gl X x := by rfl) (hdb : (x == ("__debug__" : Str)) = false := by decide)
    (he : starEach (e :: es) X.env = (false, eval e X.env) :: starEach es X.env := by rfl) (hpl : (backTo pos (starEach es X.env)).any (·.1) = false := by rfl)
    (ht : eval (.Call (.Attribute (.Name x p1) m p2) (e :: es) [] pos) X.env = (do let ov ← eval (.Name x p1) X.env; standAt p2.atName; let (f, first) ← holding [ov] (getMethod ov m pl); callWith pos f first (backTo pos (starEach (e :: es) X.env)) (backToKw pos (keywordEach [] X.env))) := by rfl) :
    DE X B.S B.C Δ (.Call (.Attribute (.Name x p1) m p2) (e :: es) [] pos) (mCall F dds as) Δ1 (kb ro) := by
  obtain ⟨C0, f, q, rest, fd, ps, ds, dvs, hm, h1, h2, h3, h4, h5, fo, hb, hd, hdr⟩ := c.ex
  obtain ⟨W, tw, hw⟩ := bd.tk
  have hpm := bd.ob.pm.own hPx
  have nd : (slotsA as).Nodup := by rw [h0]; exact List.nodup_nil
  have ho : ∀ i ∈ slotsA as, own Δ1 i := by rw [h0]; intro i hi; cases hi
  refine (pe_statSD (E := WE W) (pl := pl) hm h1 h2 h3 h4 h5 fo hb hd (bd.rm.mono hk) (fun σ => passAt tw σ) ha hg hdb he hpl ht).weak fun σ H Q ⟨Z, Γ, s, h⟩ => ?_
  refine ⟨Z, Γ, s, h.bind.mono (fun xs Γ1 h1 Z1 H1 vs g1 r1 => ?_) fun _ _ c => c⟩
  cases ef : fillA Γ1 as xs with
  | none => rw [ef] at h1; exact h1.elim
  | some dl =>
    rw [ef] at h1
    obtain ⟨l1, l2, _⟩ := fill_get ef r1
    have hdl := (hdr Z1 H1).length
    have ao := args_ok g1.s ef r1 nd ho (hdr Z1 H1)
    rw [posA_nil 0 h0] at ao
    refine ⟨by rw [List.length_append, ← l2, ← hdl]; exact hn, Z1, dl ++ dds, g1.s.zd, ao, ?_⟩
    dsimp only at h1
    have cl : ∀ {Z2 H2 os}, AfterD X.K X.mg Z1 H1 [] (vs ++ dvs) os Z2 H2 → Go X.K X.mg B.S σ Δ1 Z1 Γ1 H1 Δ1 Z2 Γ1 H2 := fun {Z2 H2 os} af => by
      have g2 := g1.s.called (os := os) ef r1 nd ho (hdr Z1 H1) (by rw [posA_nil 0 h0]; exact af)
      rw [h0] at g2
      cases os <;> exact g2
    rw [h0] at h1
    have so : ∀ os, setOuts [] os Γ1 = Γ1 := fun os => by cases os <;> rfl
    cases eF : F (dl ++ dds) with
    | rt d os =>
      rw [eF] at h1
      dsimp only at h1
      rw [so] at h1
      intro Z2 H2 v af rt
      refine h1 Z2 H2 v (g1.trans (cl af)) ?_
      cases ro with
      | false => exact rt
      | true =>
        obtain ⟨a, e1, w, nz, n0⟩ := rt
        refine ⟨a, e1, w, nz, fun o => g1.s.freshO n0 ((cl af).o _ o), ?_⟩
        cases q : H a with
        | none => rfl
        | some o =>
          obtain ⟨o', e'⟩ := g1.g.th a o q
          rw [n0] at e'; cases e'
    | ex x os =>
      rw [eF] at h1
      dsimp only at h1
      rw [so] at h1
      intro Z2 H2 cls dd af rx
      exact TkC.out hw (cl af).s hs hpm rx h1
    | no => rw [eF] at h1; exact h1.elim
end
/-! ### isinstance of an own class -/
structure ClsC (K : PySem.W.Frag) (C : Addr) : Prop where
  cl : Cls K C
  ha : PySem.W.findIn K (.ref C) "__class__" = some (some (.builtin "object.__class__"))
  hn : PySem.W.specialIn K (.builtin "object.__class__") "__get__" = some (some (.builtin "getset_descriptor.__get__"))
  ht : PySem.W.takesIn K (.builtin "object.__class__") = some true
  hm : PySem.W.mroIn K C (.type "object") = some true
def isoD (dom : List Str) (x : Str) : D → Option D
  | .obj c _ => if dom.contains c = true then some (.bl (decide (c = x))) else none
  | d => match tgD d with
    | some _ => some (.bl false)
    | none => none
/-- what the answers lean on -/
structure IsoK (K : PySem.W.Frag) (mg : Str → Option Value) (dom : List Str) (x : Str) (C : Addr) : Prop where
  at_ : mg x = some (.ref C)
  own : ∀ c D, dom.contains c = true → mg c = some (.ref D) → ClsC K D ∧ PySem.W.kitOne K (.ref D) (.ref C) = some (decide (c = x))
  ty : ∀ t : Tg, PySem.W.kitOne K (.type t.nm) (.ref C) = some false
section
variable {X : Cx} {S : Sx} {C : Xd → Gm → Prop} {Δ Δ1 : Fl} {a : Expr} {m : Gm → R D} {k : Kd} {p p2 pos : Pos} {x : Str} {dom : List Str}
theorem de_iso (hI : ∃ C0, IsoK X.K X.mg dom x C0) (hm : X.mg "isinstance" = none) (ha : DE X S C Δ a m Δ1 k) (hg : Gl X "isinstance" := by rfl) (hg2 : Gl X x := by rfl) (hdb : (x == ("__debug__" : Str)) = false := by decide)
    (he : starEach [a, Expr.Name x p2] X.env = (false, eval a X.env) :: starEach [Expr.Name x p2] X.env := by rfl) (he2 : starEach [Expr.Name x p2] X.env = (false, eval (Expr.Name x p2) X.env) :: starEach [] X.env := by rfl) (hpl : (backTo pos (starEach [Expr.Name x p2] X.env)).any (·.1) = false := by rfl) :
    DE X S C Δ (.Call (.Name "isinstance" p) [a, .Name x p2] [] pos) (mUn (isoD dom x) m) Δ1 .im := by
  obtain ⟨C0, I⟩ := hI
  refine (pe_callB call_isi hg hm PyProof.Rows.Boot.«isinstance» (pa_cons ha (pa_cons (pe_glob (v := .ref C0) hg2 I.at_ rfl hdb) pa_nil he2) he) (by decide) (by decide) he hpl).weak fun σ H Q ⟨Z, Γ, s, h⟩ => ⟨Z, Γ, s, h.bind.mono (fun d Γ1 h1 Z1 H1 v g1 r1 => ?_) fun _ _ c => c⟩
  obtain ⟨u, hu, q⟩ := h1.of
  have tg : ∀ t, tgD d = some t → u = .bl false → _ := fun t e eu => by
    subst eu
    exact (⟨v, .ref C0, .type t.nm, .ref C0, false, rfl, .own C0, (r1.pk g1.s).tyx e, I.ty t, q Z1 H1 _ g1 (.bl _)⟩ : rIsi X.K [v, .ref C0] H1 Q)
  unfold isoD at hu
  split at hu
  · rename_i c fs
    split at hu
    · rename_i hc
      cases hu
      obtain ⟨pp, C1, dx, fv, rfl, hm1, hH, r⟩ := (r1.pk g1.s).obj
      obtain ⟨cc, ki⟩ := I.own _ _ hc hm1
      exact ⟨.ref pp, .ref C0, .ref C1, .ref C0, _, rfl, .own C0, .base (.ins hH cc.cl cc.ha cc.hn cc.ht cc.hm), ki, q Z1 H1 _ g1 (.bl _)⟩
    · cases hu
  · split at hu
    · rename_i t e
      cases hu
      exact tg t e rfl
    · cases hu
end
/-! ### the head's facts -/
def hookP (n : Nat) (fa : List He.Fa) (fn : List He5.DefA) (ex : PySem.W.Frag → Bool) : PySem.W.Hook where
  α := AlM
  obs := fun s => (He5.obsA fa fn (He.frG s.heap.get? (asM s.heap.get? n)), ex (He.frG s.heap.get? (asM s.heap.get? n)))
  val := fun _ => (He5.valA fn, true)
  says := fun _ h => ∃ K : PySem.W.Frag, K.In h ∧ He5.SaysA fa fn K ∧ ex K = true
  of := fun _ _ e => ⟨_, He.frG_in, congrArg (fun z : AlM => z.1) e, congrArg (fun z : AlM => z.2) e⟩
  keeps := fun _ _ _ ⟨K, hK, c⟩ k => ⟨K, PySem.W.Frag.In.keeps hK k, c⟩
def obsP (n : Nat) (fa : List He.Fa) (fn : List He5.DefA) (ex : PySem.W.Frag → Bool) (g : Addr → Option Obj) : AlM := (He5.obsA fa fn (He.frG g (asM g n)), ex (He.frG g (asM g n)))
theorem obsP_eq {n : Nat} {fa : List He.Fa} {fn : List He5.DefA} {ex : PySem.W.Frag → Bool} {g : Addr → Option Obj} {s : Shared} (h : ∀ a, g a = s.heap.get? a) : obsP n fa fn ex g = (hookP n fa fn ex).obs s := by
  have e : g = s.heap.get? := funext h
  rw [e] <;> rfl
/-- where defs stand -/
def adG (x : Str) (K : PySem.W.Frag) : Addr := He.ga K x
def adM (x m : Str) (K : PySem.W.Frag) : Addr := He.ma K (He.ga K x) m
def adW (x : Str) (T : String) (m : Str) (K : PySem.W.Frag) : Addr := He5.wf K (He.ga K x) T m
def clsB (K : PySem.W.Frag) (x : Str) : Bool := (He.Fa.glo x).ok K && ((He.Fa.cls x).ok K && (He.eqO (PySem.W.findIn K (.ref (He.ga K x)) "__class__") (some (some (.builtin "object.__class__"))) && (decide (PySem.W.specialIn K (.builtin "object.__class__") "__get__" = some (some (.builtin "getset_descriptor.__get__"))) &&
  (decide (PySem.W.takesIn K (.builtin "object.__class__") = some true) && decide (PySem.W.mroIn K (He.ga K x) (.type "object") = some true)))))
section
variable {K : PySem.W.Frag} {h : Heap} {mg : Str → Option Value}
theorem clsB_ok (X : K.In h) (G : h.Ns mainGlobals mg) {x : Str} (c : clsB K x = true) : mg x = some (.ref (He.ga K x)) ∧ ClsC K (He.ga K x) := by
  obtain ⟨c1, c⟩ := He.ba c
  obtain ⟨c2, c⟩ := He.ba c
  obtain ⟨c3, c⟩ := He.ba c
  obtain ⟨c4, c⟩ := He.ba c
  obtain ⟨c5, c6⟩ := He.ba c
  exact ⟨He.glo_ok X G c1, He.cls_ok c2, He.eqO_ok c3, of_decide_eq_true c4, of_decide_eq_true c5, of_decide_eq_true c6⟩
/-- fields that no class has as a name of its own -/
def fldB (K : PySem.W.Frag) (dom : List Str) (f : Str) : Bool := dom.all fun x => clsB K x && (He.Fa.noat x f).ok K
theorem fldD_of (X : K.In h) (G : h.Ns mainGlobals mg) {dom : List Str} {f : Str} (c : fldB K dom f = true) : FldD K mg dom f := fun x C hx hm => by
  obtain ⟨c1, c2⟩ := He.ba (List.all_eq_true.mp c x (mem_of_contains hx))
  obtain ⟨q1, q2⟩ := clsB_ok X G c1
  rw [q1] at hm; cases hm
  exact ⟨q2.cl, He.noat_ok c2⟩
def tgs : List Tg := [.non, .bl, .int, .str, .tup, .lst, .dct]
def isoB (K : PySem.W.Frag) (dom : List Str) (x : Str) : Bool := (He.Fa.glo x).ok K && ((dom.all fun c => clsB K c && decide (PySem.W.kitOne K (.ref (He.ga K c)) (.ref (He.ga K x)) = some (decide (c = x)))) && tgs.all fun t => decide (PySem.W.kitOne K (.type t.nm) (.ref (He.ga K x)) = some false))
theorem isoK_of (X : K.In h) (G : h.Ns mainGlobals mg) {dom : List Str} {x : Str} (c : isoB K dom x = true) : ∃ C, IsoK K mg dom x C := by
  obtain ⟨c1, c⟩ := He.ba c
  obtain ⟨c2, c3⟩ := He.ba c
  refine ⟨_, He.glo_ok X G c1, fun y D hy hm => ?_, fun t => ?_⟩
  · obtain ⟨d1, d2⟩ := He.ba (List.all_eq_true.mp c2 y (mem_of_contains hy))
    obtain ⟨q1, q2⟩ := clsB_ok X G d1
    rw [q1] at hm; cases hm
    exact ⟨q2, of_decide_eq_true d2⟩
  · exact of_decide_eq_true (List.all_eq_true.mp c3 t (by cases t <;> simp [tgs]))
/-- made -/
def mkB (K : PySem.W.Frag) (x : Str) : Bool := (He.Fa.glo x).ok K && (He.Fa.mkr x).ok K
theorem calI_of {P : Program} {w : World} {base : Heap} {x : Str} {f : Addr} {fd : FuncData} {ps : List Str} {k n : Nat} {F : List D → FR} {dds : List D} {ds : List Value} {dvs : List V} (X : K.In h) (G : h.Ns mainGlobals mg) (c : mkB K x = true) (ef : f = adM x "__init__" K)
    (fo : FnOk P w K mg base (L2.CX P w) k f fd ps (spD K mg F (n + 1) [0] false)) (hb : Binds K fd ps ds) (hd : Vals dvs ds) (hr : ∀ Z H, Rps K mg Z H dds dvs) : CalI P w K mg base k x F n dds := by
  subst ef
  obtain ⟨c1, c2⟩ := He.ba c
  exact ⟨_, _, fd, ps, ds, dvs, He.mkr_ok c2, He.glo_ok X G c1, fo, hb, hd, hr⟩
/-- a class's method -/
def methB (K : PySem.W.Frag) (x m : Str) : Bool := clsB K x && (He.Fa.meth x m).ok K
/-- a property, a staticmethod -/
def propB (K : PySem.W.Frag) (x m : Str) : Bool := clsB K x && (He.eqO (PySem.W.findIn K (.ref (He.ga K x)) m) (some (some (.ref (adM x m K)))) && (decide (PySem.W.specialIn K (.ref (adM x m K)) "__get__" = some (some (.builtin "property.__get__"))) && (decide (PySem.W.takesIn K (.ref (adM x m K)) = some true) &&
  (match PySem.W.recIn K (adM x m K) "property" with
    | some (.ref _ :: _) => true
    | _ => false))))
theorem propB_ok (X : K.In h) (G : h.Ns mainGlobals mg) {x m : Str} (c : propB K x m = true) : mg x = some (.ref (He.ga K x)) ∧ Cls K (He.ga K x) ∧ PropOf K (He.ga K x) m (adM x m K) (adW x "property" m K) := by
  obtain ⟨c1, c⟩ := He.ba c
  obtain ⟨c2, c⟩ := He.ba c
  obtain ⟨c3, c⟩ := He.ba c
  obtain ⟨c4, c5⟩ := He.ba c
  obtain ⟨q1, q2⟩ := clsB_ok X G c1
  refine ⟨q1, q2.cl, He.eqO_ok c2, of_decide_eq_true c3, of_decide_eq_true c4, ?_⟩
  split at c5
  · rename_i g r e
    exact ⟨r, by show PySem.W.recIn K (adM x m K) "property" = some (.ref (He5.wf K (He.ga K x) "property" m) :: r); unfold He5.wf; rw [show He.ma K (He.ga K x) m = adM x m K from rfl, e]⟩
  · cases c5
def statB (K : PySem.W.Frag) (x m : Str) : Bool := (He.Fa.glo x).ok K && (decide (PySem.W.specialIn K (.ref (He.ga K x)) "__getattribute__" = some (some (.builtin "type.__getattribute__"))) && (PySem.W.readsIn K (He.ga K x) (.type "type") && (He5.wrapB K (He.ga K x) "staticmethod" "staticmethod.__get__" m && PySem.W.keepIn K (.ref (adW x "staticmethod" m K)))))
theorem calS_of {P : Program} {w : World} {base : Heap} {x m : Str} {f : Addr} {fd : FuncData} {ps : List Str} {k n : Nat} {F : List D → FR} {ro : Bool} {dds : List D} {ds : List Value} {dvs : List V} (X : K.In h) (G : h.Ns mainGlobals mg) (c : statB K x m = true) (ef : f = adW x "staticmethod" m K)
    (fo : FnOk P w K mg base (L2.CX P w) k f fd ps (spD K mg F n [] ro)) (hb : Binds K fd ps ds) (hd : Vals dvs ds) (hr : ∀ Z H, Rps K mg Z H dds dvs) : CalS P w K mg base k x m F n ro dds := by
  subst ef
  obtain ⟨c1, c⟩ := He.ba c
  obtain ⟨c2, c⟩ := He.ba c
  obtain ⟨c3, c⟩ := He.ba c
  obtain ⟨c4, c5⟩ := He.ba c
  obtain ⟨h1, rest, h2⟩ := He5.wrapB_ok c4
  exact ⟨_, _, _, rest, fd, ps, ds, dvs, He.glo_ok X G c1, of_decide_eq_true c2, c3, h1, h2, c5, fo, hb, hd, hr⟩
/-- a method by the tables of its classes -/
theorem methT_nil {P : Program} {w : World} {base : Heap} {k n : Nat} {m : Str} {ro : Bool} {dds : List D} : MethT P w K mg base k m [] n ro dds := ⟨fun _ _ _ e => nomatch e⟩
theorem methT_cons {P : Program} {w : World} {base : Heap} {k k1 n : Nat} {x m : Str} {F : List D → FR} {tbl : List (Str × (List D → FR))} {f : Addr} {fd : FuncData} {ps : List Str} {ro : Bool} {dds : List D} {ds : List Value} {dvs : List V} (X : K.In h) (G : h.Ns mainGlobals mg) (c : methB K x m = true) (ef : f = adM x m K)
    (fo : FnOk P w K mg base (L2.CX P w) k1 f fd ps (spD K mg F n [] ro)) (hk : k1 ≤ k) (hb : Binds K fd ps ds) (hd : Vals dvs ds) (hr : ∀ Z H, Rps K mg Z H dds dvs) (T : MethT P w K mg base k m tbl n ro dds) : MethT P w K mg base k m ((x, F) :: tbl) n ro dds := ⟨fun y F' C e hm => by
  subst ef
  obtain ⟨c1, c2⟩ := He.ba c
  obtain ⟨q1, q2⟩ := clsB_ok X G c1
  rw [List.lookup_cons] at e
  split at e
  · rename_i hy
    cases e
    have : y = x := by simpa using hy
    subst this
    rw [q1] at hm; cases hm
    exact ⟨_, fd, ps, ds, dvs, q2.cl, He.meth_ok c2, fo.mono hk, hb, hd, hr⟩
  · exact T.ex y F' C e hm⟩
theorem propT_nil {P : Program} {w : World} {base : Heap} {k : Nat} {m : Str} : PropT P w K mg base k m [] := ⟨fun _ _ _ e => nomatch e⟩
theorem propT_cons {P : Program} {w : World} {base : Heap} {k k1 : Nat} {x m : Str} {F : List D → FR} {tbl : List (Str × (List D → FR))} {f : Addr} {fd : FuncData} {ps : List Str} (X : K.In h) (G : h.Ns mainGlobals mg) (c : propB K x m = true) (ef : f = adW x "property" m K)
    (fo : FnOk P w K mg base (L2.CX P w) k1 f fd ps (spD K mg F 1 [] false)) (hk : k1 ≤ k) (hb : Binds K fd ps []) (T : PropT P w K mg base k m tbl) : PropT P w K mg base k m ((x, F) :: tbl) := ⟨fun y F' C e hm => by
  subst ef
  obtain ⟨q1, q2, q3⟩ := propB_ok X G c
  rw [List.lookup_cons] at e
  split at e
  · rename_i hy
    cases e
    have : y = x := by simpa using hy
    subst this
    rw [q1] at hm; cases hm
    exact ⟨_, _, fd, ps, q2, q3, fo.mono hk, hb⟩
  · exact T.ex y F' C e hm⟩
end
end DL
/-! DL38: what leaves a slot alone; two rules at once. -/
namespace DL
open PySem PySem.Spec PyProof.Rows L2
/-- it leaves slot i as it is -/
def Kp {α : Type} (i : Nat) (m : Gm → R α) : Prop := ∀ Γ d Γ', m Γ = .ok d Γ' → Γ'[i]? = Γ[i]?
section
variable {i : Nat} {m m1 m2 m3 : Gm → R D}
theorem ksl {k : Kd} (h : ∀ i, k = .sl i → Kp i m) : KeepK k m := h
theorem kps (h : Kp i m) : KeepK (.sl i) m := fun j e => by cases e; exact h
theorem kos {m : Gm → R (Option Int)} (h : Kp i m) : KeepO (.sl i) m := fun j e => by cases e; exact h
theorem kp_bindG {α β : Type} {r : R α} {f : α → Gm → R β} {Γ' : Gm} {b : β} (e : r.bind f = .ok b Γ') : ∃ a Γ1, r = .ok a Γ1 ∧ f a Γ1 = .ok b Γ' := by
  cases r with
  | ok a Γ1 => exact ⟨a, Γ1, rfl, e⟩
  | ex x Γ1 => cases e
  | no => cases e
theorem kp_var (j : Nat) : Kp i (mVar j) := fun Γ d Γ' e => by rw [pu_var j Γ d Γ' e]
theorem kp_c (d : D) : Kp i (mC d) := fun Γ e Γ' h => by cases h; rfl
theorem of_ok {α : Type} {o : Option α} {Γ Γ' : Gm} {a : α} (e : R.of o Γ = .ok a Γ') : Γ' = Γ := by
  cases o with
  | some b => cases e; rfl
  | none => cases e
theorem kp_bin {f : D → D → Option D} (h1 : Kp i m1) (h2 : Kp i m2) : Kp i (mBin f m1 m2) := fun Γ d Γ' e => by
  obtain ⟨a, Γ1, e1, e⟩ := kp_bindG e
  obtain ⟨b, Γ2, e2, e⟩ := kp_bindG e
  rw [of_ok e, h2 _ _ _ e2, h1 _ _ _ e1]
theorem kp_un {f : D → Option D} (h1 : Kp i m1) : Kp i (mUn f m1) := fun Γ d Γ' e => by
  obtain ⟨a, Γ1, e1, e⟩ := kp_bindG e
  rw [of_ok e, h1 _ _ _ e1]
theorem kp_no : Kp i mNoP := fun Γ d Γ' e => by cases e; rfl
theorem kp_p (h1 : Kp i m1) : Kp i (mP m1) := fun Γ d Γ' e => by
  obtain ⟨a, Γ1, e1, e⟩ := kp_bindG e
  rw [of_ok e, h1 _ _ _ e1]
theorem kp_sl {f : D → Option Int → Option Int → Option D} {ml mu : Gm → R (Option Int)} (h : Kp i m) (h1 : Kp i ml) (h2 : Kp i mu) : Kp i (mSl f m ml mu) := fun Γ d Γ' e => by
  obtain ⟨a, Γ1, e1, e⟩ := kp_bindG e
  obtain ⟨b, Γ2, e2, e⟩ := kp_bindG e
  obtain ⟨c, Γ3, e3, e⟩ := kp_bindG e
  rw [of_ok e, h2 _ _ _ e3, h1 _ _ _ e2, h _ _ _ e1]
def KpA (i : Nat) : List Am → Prop
  | [] => True
  | .e m :: as => Kp i m ∧ KpA i as
  | .p j :: as => j ≠ i ∧ KpA i as
theorem kpa_ev : ∀ {as : List Am} {Γ Γ' : Gm} {xs : List (Option D)}, KpA i as → evA as Γ = .ok xs Γ' → Γ'[i]? = Γ[i]?
  | [], Γ, Γ', xs, _, e => by cases e; rfl
  | .e m :: as, Γ, Γ', xs, h, e => by
    obtain ⟨a, Γ1, e1, e⟩ := kp_bindG e
    obtain ⟨b, Γ2, e2, e⟩ := kp_bindG e
    cases e
    rw [kpa_ev h.2 e2, h.1 _ _ _ e1]
  | .p j :: as, Γ, Γ', xs, h, e => by
    unfold evA at e
    split at e
    · obtain ⟨b, Γ2, e2, e⟩ := kp_bindG e
      cases e
      exact kpa_ev h.2 e2
    · cases e
theorem kpa_sl : ∀ {as : List Am}, KpA i as → i ∉ slotsA as
  | [], _ => by simp [slotsA]
  | .e m :: as, h => by unfold slotsA; exact kpa_sl h.2
  | .p j :: as, h => by
    unfold slotsA
    intro z
    rcases List.mem_cons.mp z with z | z
    · exact h.1 z.symm
    · exact kpa_sl h.2 z
theorem kp_call {F : List D → FR} {dds : List D} {as : List Am} (h : KpA i as) : Kp i (mCall F dds as) := fun Γ d Γ' e => by
  obtain ⟨a, Γ1, e1, e⟩ := kp_bindG e
  have q := kpa_ev h e1
  split at e
  · split at e
    · cases e
      rw [setOuts_ne _ _ _ (kpa_sl h), q]
    · cases e
    · cases e
  · cases e
theorem kp_meth {q : Str} {tbl : List (Str × (List D → FR))} {dds : List D} {as : List Am} (h0 : Kp i m) (h : KpA i as) : Kp i (mMeth q tbl dds m as) := fun Γ d Γ' e => by
  obtain ⟨a, Γ1, e1, e⟩ := kp_bindG e
  have q1 := h0 _ _ _ e1
  split at e
  · split at e
    · split at e
      · obtain ⟨b, Γ2, e2, e⟩ := kp_bindG e
        have q2 := kpa_ev h e2
        split at e
        · split at e
          · cases e; rw [q2, q1]
          · cases e
          · cases e
        · cases e
      · cases e
    · cases e
  · cases e
def KpE (i : Nat) : List (Gm → R D) → Prop
  | [] => True
  | m :: ms => Kp i m ∧ KpE i ms
theorem kpe_ev : ∀ {ms : List (Gm → R D)} {Γ Γ' : Gm} {ds : List D}, KpE i ms → evE ms Γ = .ok ds Γ' → Γ'[i]? = Γ[i]?
  | [], Γ, Γ', ds, _, e => by cases e; rfl
  | m :: ms, Γ, Γ', ds, h, e => by
    obtain ⟨a, Γ1, e1, e⟩ := kp_bindG e
    obtain ⟨b, Γ2, e2, e⟩ := kp_bindG e
    cases e
    rw [kpe_ev h.2 e2, h.1 _ _ _ e1]
theorem kp_tup {ms : List (Gm → R D)} (h : KpE i ms) : Kp i (mTup ms) := fun Γ d Γ' e => by
  obtain ⟨a, Γ1, e1, e⟩ := kp_bindG e
  cases e
  exact kpe_ev h e1
theorem kp_lst {ms : List (Gm → R D)} (h : KpE i ms) : Kp i (mLst ms) := fun Γ d Γ' e => by
  obtain ⟨a, Γ1, e1, e⟩ := kp_bindG e
  cases e
  exact kpe_ev h e1
theorem kp_tru (h1 : Kp i m1) : Kp i (mTru m1) := fun Γ d Γ' e => by
  obtain ⟨a, Γ1, e1, e⟩ := kp_bindG e
  rw [of_ok e, h1 _ _ _ e1]
theorem kp_ite {t : Gm → R Bool} (h : Kp i t) (h1 : Kp i m1) (h2 : Kp i m2) : Kp i (mIte t m1 m2) := fun Γ d Γ' e => by
  obtain ⟨a, Γ1, e1, e⟩ := kp_bindG e
  split at e
  · rw [h1 _ _ _ e, h _ _ _ e1]
  · rw [h2 _ _ _ e, h _ _ _ e1]
end
/-! ### two rules for one expression: which one is told by what the parts are -/
section
variable {X : Cx} {S : Sx} {C : Xd → Gm → Prop} {Δ Δ1 Δ2 : Fl} {e : Expr} {es : List Stmt} {st : Stmt} {m ma mb : Gm → R D} {k : Kd}
theorem de_or2 (h1 : DE X S C Δ e ma Δ1 k) (h2 : DE X S C Δ e mb Δ1 k) (hm : ∀ Γ, m Γ = ma Γ ∨ m Γ = mb Γ) : DE X S C Δ e m Δ1 k := by
  refine ⟨fun pins s σ H Q I ⟨Z, Γ, r, h⟩ => ?_⟩
  rcases hm Γ with q | q
  · rw [q] at h; exact h1.run pins s σ H Q I ⟨Z, Γ, r, h⟩
  · rw [q] at h; exact h2.run pins s σ H Q I ⟨Z, Γ, r, h⟩
theorem dt_or2 {m ma mb : Gm → R Bool} (h1 : DT X S C Δ e ma Δ1) (h2 : DT X S C Δ e mb Δ1) (hm : ∀ Γ, m Γ = ma Γ ∨ m Γ = mb Γ) : DT X S C Δ e m Δ1 := by
  refine ⟨fun pins s σ H Q I ⟨Z, Γ, r, h⟩ => ?_⟩
  rcases hm Γ with q | q
  · rw [q] at h; exact h1.run pins s σ H Q I ⟨Z, Γ, r, h⟩
  · rw [q] at h; exact h2.run pins s σ H Q I ⟨Z, Γ, r, h⟩
theorem ds_or2 {B : Bx} {m ma mb : Gm → SE} (h1 : DS X B Δ st ma Δ1) (h2 : DS X B Δ st mb Δ1) (hm : ∀ Γ, m Γ = ma Γ ∨ m Γ = mb Γ) : DS X B Δ st m Δ1 := by
  refine ⟨fun pins s σ H Dn I ⟨Z, Γ, r, h⟩ => ?_⟩
  rcases hm Γ with q | q
  · rw [q] at h; exact h1.run pins s σ H Dn I ⟨Z, Γ, r, h⟩
  · rw [q] at h; exact h2.run pins s σ H Dn I ⟨Z, Γ, r, h⟩
/-- a value's kind decides: f where p holds of the left one, else g -/
def pick2 (p : D → Bool) (f g : D → D → Option D) (d e : D) : Option D := if p d = true then f d e else g d e
theorem pick2_m {p : D → Bool} {f g : D → D → Option D} {m1 m2 : Gm → R D} (Γ : Gm) : mBin (pick2 p f g) m1 m2 Γ = mBin f m1 m2 Γ ∨ mBin (pick2 p f g) m1 m2 Γ = mBin g m1 m2 Γ := by
  unfold mBin
  cases m1 Γ with
  | ok d Γ1 =>
    simp only [R.bind]
    cases h : p d with
    | true => exact .inl (by unfold pick2; simp [h])
    | false => exact .inr (by unfold pick2; simp [h])
  | ex x Γ1 => exact .inl rfl
  | no => exact .inl rfl
def pick1 (p : D → Bool) (f g : D → Option D) (d : D) : Option D := if p d = true then f d else g d
theorem pick1_m {p : D → Bool} {f g : D → Option D} {m1 : Gm → R D} (Γ : Gm) : mUn (pick1 p f g) m1 Γ = mUn f m1 Γ ∨ mUn (pick1 p f g) m1 Γ = mUn g m1 Γ := by
  unfold mUn
  cases m1 Γ with
  | ok d Γ1 =>
    simp only [R.bind]
    cases h : p d with
    | true => exact .inl (by unfold pick1; simp [h])
    | false => exact .inr (by unfold pick1; simp [h])
  | ex x Γ1 => exact .inl rfl
  | no => exact .inl rfl
end
end DL
/-! DL39: comprehensions of two clauses; a def that calls itself. -/
namespace DL
open PySem PySem.Spec PyProof.Rows L2
/-- what a comprehension's state is, seen from its start: the list at Dd, its items' data -/
structure LcS (K : PySem.W.Frag) (mg : Str → Option Value) (S : Sx) (O : Addr → Prop) (Z1 : Addr → Prop) (H1 : Hp) (Δ : Fl) (Dd : Addr) (Z : Addr → Prop) (Γ : Gm) (σ : Sg) (H : Hp) (ds : List D) : Prop where
  s : SR K mg S Δ Z Γ σ H
  r : Rel K O Z1 H1 Δ Z Γ σ H
  l : ∃ acc, H Dd = some (.lst acc) ∧ ¬ Z Dd ∧ Rps K mg Z H ds acc
section
variable {K : PySem.W.Frag} {mg : Str → Option Value} {S : Sx} {O : Addr → Prop} {Z1 Z Z2 : Addr → Prop} {H1 H H2 : Hp} {Δ : Fl} {Dd : Addr} {Γ Γ2 : Gm} {σ σ2 : Sg} {ds : List D}
/-- a step of an expression -/
theorem LcS.go (h : LcS K mg S O Z1 H1 Δ Dd Z Γ σ H ds) (nO : ¬ O Dd) (g : Go K mg S σ Δ Z Γ H Δ Z2 Γ2 H2) : LcS K mg S O Z1 H1 Δ Dd Z2 Γ2 σ H2 ds := by
  obtain ⟨acc, hD, nz, r⟩ := h.l
  have nD : ¬ OA Δ Γ σ Dd := fun z => nO (h.r.o _ z)
  refine ⟨g.s, ⟨h.r.g.trans' (g.g.wide fun x z => h.r.o x z), fun x z => h.r.o x (g.o x z)⟩, acc, g.g.kp Dd _ hD nD, fun z => ?_, r.ag (g.ag h.s)⟩
  rcases g.g.nw Dd z with q | q | q
  · exact nz q
  · exact nD q
  · rw [hD] at q; cases q
/-- nothing that stood was changed -/
theorem LcS.gr0 (h : LcS K mg S O Z1 H1 Δ Dd Z Γ σ H ds) (nO : ¬ O Dd) (g : Gr0 Z Z2 H H2) : LcS K mg S O Z1 H1 Δ Dd Z2 Γ σ H2 ds := h.go nO (Go.gr0 h.s g)
/-- other slots -/
theorem LcS.slots (h : LcS K mg S O Z1 H1 Δ Dd Z Γ σ H ds) (s : SR K mg S Δ Z Γ2 σ2 H) (o : ∀ i, own Δ i → σ2[i]? = σ[i]? ∧ Γ2[i]? = Γ[i]?) : LcS K mg S O Z1 H1 Δ Dd Z Γ2 σ2 H ds :=
  ⟨s, ⟨h.r.g, fun x ⟨i, d, oi, e, q⟩ => h.r.o x ⟨i, d, oi, by rw [← (o i oi).2]; exact e, by rw [← (o i oi).1]; exact q⟩⟩, h.l⟩
theorem LcS.wiped {vs : List Nat} (hf : S.Fx = []) (hv : ∀ i ∈ vs, ¬ own Δ i) (h : LcS K mg S O Z1 H1 Δ Dd Z Γ σ H ds) : LcS K mg S O Z1 H1 Δ Dd Z (wipeG Γ vs) (wipe σ vs) H ds :=
  h.slots (h.s.wiped hf hv) fun i o => by
    have hi : i ∉ vs := fun z => hv i z o
    exact ⟨wipe_ne hi, wipeG_ne hi⟩
/-- one more item -/
theorem LcS.push (h : LcS K mg S O Z1 H1 Δ Dd Z Γ σ H ds) (nO : ¬ O Dd) (n0 : S.H0 Dd = none) (n1 : H1 Dd = none) {yd : D} {v : V} (rv : Rp K mg Z H yd v) (hl : ds.length < 16777216) : ∃ acc, H Dd = some (.lst acc) ∧ acc.length < sizeLine ∧ LcS K mg S O Z1 H1 Δ Dd Z Γ σ (upd H Dd (.lst (acc ++ [v]))) (ds ++ [yd]) := by
  obtain ⟨acc, hD, nz, r⟩ := h.l
  have noD : ¬ OA Δ Γ σ Dd := fun z => nO (h.r.o _ z)
  have sf := h.s.frame (o := .lst (acc ++ [v])) hD nz noD n0
  have ag4 : Ag Z Z H (upd H Dd (.lst (acc ++ [v]))) := agU nz
  refine ⟨acc, hD, by rw [← r.length, sizeLine_eq]; exact hl, sf, ⟨⟨h.r.g.zs, fun a o e no => ?_, h.r.g.nw, fun a o e => ?_, sf.zd⟩, h.r.o⟩, acc ++ [v], upd_same, nz, (r.append (.cons rv .nil)).ag ag4⟩
  · have : a ≠ Dd := fun z => by rw [z, n1] at e; cases e
    rw [upd_ne this]; exact h.r.g.kp a o e no
  · have : a ≠ Dd := fun z => by rw [z, n1] at e; cases e
    rw [upd_ne this]; exact h.r.g.th a o e
/-- the inner walk: from a state whose slots vs are wiped to the one behind its last turn -/
theorem lc_inner {vs ts : List Nat} {g : D → Gm → Option Gm} {mt : Gm → R Bool} {me : Gm → R D} {items : List D} {J : It} {dsF : List D} {ΓF : Gm} {ZJ : Addr → Prop} {HJ : Hp} (hf : S.Fx = []) (hv : ∀ i ∈ vs, ¬ own Δ i) (hts : ∀ i, i ∉ vs → i ∉ ts) (nO : ¬ O Dd) (n0 : S.H0 Dd = none) (n1 : H1 Dd = none)
    (it : ItOk K mg ZJ HJ J items) (h0 : LcS K mg S O Z1 H1 Δ Dd Z Γ (wipe σ vs) H ds) (a0 : Ag ZJ Z HJ H) (l0 : lcD vs g mt me items ds Γ = some (dsF, ΓF)) (Fin : Hp → Prop)
    (hF : ∀ Z' H', LcS K mg S O Z1 H1 Δ Dd Z' ΓF (wipe σ vs) H' dsF → Ag ZJ Z' HJ H' → Fin H') :
    ∃ W : Nat → Nat → Hp → Prop, (∃ m, W 0 m H) ∧ ∀ j k H, W j k H → (J.stop j H ∧ Fin H) ∨ (J.go j H ∧ ∃ Nx : Hp → Prop, (∀ H', Nx H' → ∃ k', k' < k ∧ W (j + 1) k' H') ∧ ∀ x H', J.yld j H x H' → rdG K mg S Δ g Δ ts x (wipe σ vs) H' fun σ3 H5 => wipe σ3 vs = wipe σ vs ∧ rdT K mg S C0 Δ mt Δ σ3 H5 fun b H6 =>
        if b = true then rdE K mg S C0 Δ me Δ .im σ3 H6 fun y H7 => ∃ acc, H7 Dd = some (.lst acc) ∧ acc.length < sizeLine ∧ Nx (upd H7 Dd (.lst (acc ++ [y]))) else Nx H6) := by
  refine ⟨fun j k H' => k = items.length - j ∧ ∃ Z' Γ' ds, LcS K mg S O Z1 H1 Δ Dd Z' Γ' (wipe σ vs) H' ds ∧ Ag ZJ Z' HJ H' ∧ lcD vs g mt me (items.drop j) ds Γ' = some (dsF, ΓF), ⟨_, rfl, Z, Γ, ds, h0, a0, by rw [List.drop_zero]; exact l0⟩, ?_⟩
  rintro i m H' ⟨rfl, Z', Γ', ds, h, ag, hl⟩
  obtain ⟨o1, o2⟩ := it i Z' H' ag h.s.zd
  by_cases hlt : i < items.length
  · obtain ⟨go, yl⟩ := o1 hlt
    refine .inr ⟨go, fun H2 => ∃ Z' Γ' ds, LcS K mg S O Z1 H1 Δ Dd Z' Γ' (wipe σ vs) H2 ds ∧ Ag ZJ Z' HJ H2 ∧ lcD vs g mt me (items.drop (i + 1)) ds Γ' = some (dsF, ΓF), fun H2 hn => ⟨items.length - (i + 1), by omega, rfl, hn⟩, fun x H2 y => ?_⟩
    obtain ⟨Z2, d, hd, g0, r⟩ := yl x H2 y
    have hde : items.drop i = d :: items.drop (i + 1) := by
      rw [List.getElem?_eq_getElem hlt] at hd
      cases hd
      exact List.drop_eq_getElem_cons hlt
    rw [hde] at hl
    unfold lcD at hl
    cases eg : g d Γ' with
    | none => rw [eg] at hl; cases hl
    | some Γ2 =>
    rw [eg] at hl
    dsimp only at hl
    have h2 := h.gr0 nO g0
    have ag2 : Ag ZJ Z2 HJ H2 := ag.trans (g0.ag0 h.s.zd)
    refine ⟨Z2, Γ', d, Γ2, h2.s, r, eg, fun σ2 s3 agr hlen => ?_⟩
    have agr' : ∀ i, i ∉ vs → σ2[i]? = (wipe σ vs)[i]? ∧ Γ2[i]? = Γ'[i]? := fun i hi => agr i (hts i hi)
    have ew : wipe σ2 vs = wipe σ vs := wipe_eq (by rw [hlen, wipe_length]) fun i hi => (agr' i hi).1
    have h3 : LcS K mg S O Z1 H1 Δ Dd Z2 Γ2 σ2 H2 ds := h2.slots s3 fun i o => agr' i fun z => hv i z o
    refine ⟨ew, Z2, Γ2, s3, ?_⟩
    have fin : ∀ {Z3 H3 Γ3 ds3}, LcS K mg S O Z1 H1 Δ Dd Z3 Γ3 σ2 H3 ds3 → LcS K mg S O Z1 H1 Δ Dd Z3 (wipeG Γ3 vs) (wipe σ vs) H3 ds3 := fun {Z3 H3 Γ3 ds3} h => by rw [← ew]; exact h.wiped hf hv
    cases em : mt Γ2 with
    | no => rw [em] at hl; cases hl
    | ex _ _ => rw [em] at hl; cases hl
    | ok b Γ3 =>
    rw [em] at hl
    refine fun Z3 H3 g3 => ?_
    have h4 := h3.go nO g3
    have ag3 : Ag ZJ Z3 HJ H3 := ag2.trans (g3.ag s3)
    cases b with
    | false =>
      dsimp only; rw [if_neg Bool.false_ne_true]
      exact ⟨Z3, _, ds, fin h4, ag3, hl⟩
    | true =>
      dsimp only; rw [if_pos rfl]
      refine ⟨Z3, Γ3, g3.s, ?_⟩
      dsimp only at hl
      cases ee : me Γ3 with
      | no => rw [ee] at hl; cases hl
      | ex _ _ => rw [ee] at hl; cases hl
      | ok yd Γ4 =>
      rw [ee] at hl
      dsimp only at hl
      split at hl
      · rename_i hlen'
        refine fun Z4 H4 v g4 rv => ?_
        have h5 := h4.go nO g4
        have rv : Rp K mg Z4 H4 yd v := rv
        obtain ⟨acc, q1, q2, q3⟩ := h5.push nO n0 n1 rv hlen'
        obtain ⟨acc', q1', nz, _⟩ := h5.l
        exact ⟨acc, q1, q2, Z4, _, ds ++ [yd], fin q3, (ag3.trans (g4.ag g3.s)).trans (agU nz), hl⟩
      · cases hl
  · refine .inl ⟨o2 (by omega), ?_⟩
    rw [List.drop_of_length_le (by omega)] at hl
    unfold lcD at hl
    cases hl
    exact hF Z' H' h ag
end
/-! ### two clauses -/
def lcD2 (vs : List Nat) (g : D → Gm → Option Gm) (mt : Gm → R Bool) (vs1 : List Nat) (mi1 : Gm → R (List D)) (g1 : D → Gm → Option Gm) (mt1 : Gm → R Bool) (me : Gm → R D) : List D → List D → Gm → Option (List D × Gm)
  | [], acc, Γ => some (acc, Γ)
  | x :: xs, acc, Γ => match g x Γ with
    | none => none
    | some Γ1 => match mt Γ1 with
      | .ok true Γ2 => match mi1 Γ2 with
        | .ok its Γ3 => match lcD vs1 g1 mt1 me its acc (wipeG Γ3 vs1) with
          | some (acc', Γ4) => lcD2 vs g mt vs1 mi1 g1 mt1 me xs acc' (wipeG Γ4 vs)
          | none => none
        | _ => none
      | .ok false Γ2 => lcD2 vs g mt vs1 mi1 g1 mt1 me xs acc (wipeG Γ2 vs)
      | _ => none
def mLc2 (vs : List Nat) (mi : Gm → R (List D)) (g : D → Gm → Option Gm) (mt : Gm → R Bool) (vs1 : List Nat) (mi1 : Gm → R (List D)) (g1 : D → Gm → Option Gm) (mt1 : Gm → R Bool) (me : Gm → R D) : Gm → R D := fun Γ => (mi Γ).bind fun items Γ1 => match lcD2 vs g mt vs1 mi1 g1 mt1 me items [] (wipeG Γ1 vs) with
  | some (ds, Γe) => .ok (.lst ds) (restG vs Γ1 Γe)
  | none => .no
section
variable {S : Sx} {C : Xd → Gm → Prop} {Δ Δ1 Δ2 : Fl}
theorem lcF2 {vs ts vs1 ts1 : List Nat} {K : PySem.W.Frag} {mg : Str → Option Value} {mi mi1 : Gm → R (List D)} {g g1 : D → Gm → Option Gm} {mt mt1 : Gm → R Bool} {me : Gm → R D}
    (hf : S.Fx = []) (hv : (vs.all fun i => !(Δ1[i]? == some true)) = true) (hts : (ts.all fun i => vs.contains i) = true) (hvv : (vs1.all fun i => vs.contains i) = true) (hts1 : (ts1.all fun i => vs1.contains i) = true) : ∀ σ H Q, rdE K mg S C Δ (mLc2 vs mi g mt vs1 mi1 g1 mt1 me) Δ1 .ow σ H Q → tLc2 (rdI K mg S C Δ mi Δ1) (rdG K mg S Δ1 g Δ1 ts) (rdT K mg S C0 Δ1 mt Δ1) (rdI K mg S C0 Δ1 mi1 Δ1) (rdG K mg S Δ1 g1 Δ1 ts1) (rdT K mg S C0 Δ1 mt1 Δ1) (rdE K mg S C0 Δ1 me Δ1 .im) vs vs1 σ H Q := fun σ H Q ⟨Z, Γ, s, h⟩ => by
  have hv' : ∀ i ∈ vs, ¬ own Δ1 i := fun i hi o => by
    have := List.all_eq_true.mp hv i hi
    unfold own at o
    rw [o] at this
    simp at this
  have hvv' : ∀ i ∈ vs1, i ∈ vs := fun i hi => by simpa using List.all_eq_true.mp hvv i hi
  have hv1 : ∀ i ∈ vs1, ¬ own Δ1 i := fun i hi => hv' i (hvv' i hi)
  have hts' : ∀ i, i ∉ vs → i ∉ ts := fun i hi m => hi (by simpa using List.all_eq_true.mp hts i m)
  have hts1' : ∀ i, i ∉ vs1 → i ∉ ts1 := fun i hi m => hi (by simpa using List.all_eq_true.mp hts1 i m)
  refine ⟨Z, Γ, s, h.bind.mono (fun items Γ1 h1 Z1 H1 J q1 it Dd hD => ?_) fun _ _ c => c⟩
  have s1 := q1.s
  have n0 : S.H0 Dd = none := s1.fresh hD
  have nO : ¬ OA Δ1 Γ1 σ Dd := s1.freshO hD
  have zO : ∀ x, Z1 x → ¬ OA Δ1 Γ1 σ x := s1.zO
  have nZ1 : ¬ Z1 Dd := s1.freshZ hD
  cases el : lcD2 vs g mt vs1 mi1 g1 mt1 me items [] (wipeG Γ1 vs) with
  | none => rw [el] at h1; exact h1.elim
  | some r =>
  obtain ⟨dsF, ΓF⟩ := r
  rw [el] at h1
  dsimp only at h1
  have gl : Gr0 Z1 Z1 H1 (upd H1 Dd (.lst [])) := Gr0.lay hD s1.zd
  have h0 : LcS K mg S (OA Δ1 Γ1 σ) Z1 H1 Δ1 Dd Z1 Γ1 σ (upd H1 Dd (.lst [])) [] := ⟨s1.gr0 gl, ⟨gl.wide fun _ z => z.elim, fun _ z => z⟩, [], upd_same, nZ1, .nil⟩
  refine ⟨fun i m H' => m = items.length - i ∧ ∃ Z' Γ' ds, LcS K mg S (OA Δ1 Γ1 σ) Z1 H1 Δ1 Dd Z' Γ' (wipe σ vs) H' ds ∧ lcD2 vs g mt vs1 mi1 g1 mt1 me (items.drop i) ds Γ' = some (dsF, ΓF), ⟨_, rfl, Z1, wipeG Γ1 vs, [], h0.wiped hf hv', by rw [List.drop_zero]; exact el⟩, ?_⟩
  rintro i m H' ⟨rfl, Z', Γ', ds, hh, hl⟩
  have ag : Ag Z1 Z' H1 H' := hh.r.g.ag zO s1.zd
  obtain ⟨o1, o2⟩ := it i Z' H' ag hh.s.zd
  by_cases hlt : i < items.length
  · obtain ⟨go, yl⟩ := o1 hlt
    refine .inr ⟨go, fun H2 => ∃ Z' Γ' ds, LcS K mg S (OA Δ1 Γ1 σ) Z1 H1 Δ1 Dd Z' Γ' (wipe σ vs) H2 ds ∧ lcD2 vs g mt vs1 mi1 g1 mt1 me (items.drop (i + 1)) ds Γ' = some (dsF, ΓF), fun H2 hn => ⟨items.length - (i + 1), by omega, rfl, hn⟩, fun x H2 y => ?_⟩
    obtain ⟨Z2, d, hd, g0, r⟩ := yl x H2 y
    have hde : items.drop i = d :: items.drop (i + 1) := by
      rw [List.getElem?_eq_getElem hlt] at hd
      cases hd
      exact List.drop_eq_getElem_cons hlt
    rw [hde] at hl
    unfold lcD2 at hl
    cases eg : g d Γ' with
    | none => rw [eg] at hl; cases hl
    | some Γ2 =>
    rw [eg] at hl
    dsimp only at hl
    have h2 := hh.gr0 nO g0
    refine ⟨Z2, Γ', d, Γ2, h2.s, r, eg, fun σ2 s3 agr hlen => ?_⟩
    have agr' : ∀ i, i ∉ vs → σ2[i]? = (wipe σ vs)[i]? ∧ Γ2[i]? = Γ'[i]? := fun i hi => agr i (hts' i hi)
    have ew : wipe σ2 vs = wipe σ vs := wipe_eq (by rw [hlen, wipe_length]) fun i hi => (agr' i hi).1
    have h3 : LcS K mg S (OA Δ1 Γ1 σ) Z1 H1 Δ1 Dd Z2 Γ2 σ2 H2 ds := h2.slots s3 fun i o => agr' i fun z => hv' i z o
    have fin : ∀ {Z3 H3 Γ3 ds3}, LcS K mg S (OA Δ1 Γ1 σ) Z1 H1 Δ1 Dd Z3 Γ3 σ2 H3 ds3 → LcS K mg S (OA Δ1 Γ1 σ) Z1 H1 Δ1 Dd Z3 (wipeG Γ3 vs) (wipe σ vs) H3 ds3 := fun {Z3 H3 Γ3 ds3} h => by rw [← ew]; exact h.wiped hf hv'
    refine ⟨ew, Z2, Γ2, s3, ?_⟩
    cases em : mt Γ2 with
    | no => rw [em] at hl; cases hl
    | ex _ _ => rw [em] at hl; cases hl
    | ok b Γ3 =>
    rw [em] at hl
    refine fun Z3 H3 g3 => ?_
    have h4 := h3.go nO g3
    cases b with
    | false =>
      dsimp only; rw [if_neg Bool.false_ne_true]
      exact ⟨Z3, _, ds, fin h4, hl⟩
    | true =>
      dsimp only; rw [if_pos rfl]
      refine ⟨Z3, Γ3, g3.s, ?_⟩
      dsimp only at hl
      cases ei : mi1 Γ3 with
      | no => rw [ei] at hl; cases hl
      | ex _ _ => rw [ei] at hl; cases hl
      | ok its Γ4 =>
      rw [ei] at hl
      dsimp only at hl
      cases e1 : lcD vs1 g1 mt1 me its ds (wipeG Γ4 vs1) with
      | none => rw [e1] at hl; cases hl
      | some r1 =>
      obtain ⟨acc', Γ5⟩ := r1
      rw [e1] at hl
      dsimp only at hl
      refine fun Z4 H4 J1 g4 it1 => ?_
      have h5 := h4.go nO g4
      refine lc_inner hf hv1 hts1' nO n0 hD it1 (h5.wiped hf hv1) ⟨fun _ z => z, fun _ _ => rfl⟩ e1 _ fun Z' H' hq _ => ?_
      refine ⟨Z', wipeG Γ5 vs, acc', ?_, hl⟩
      have hw := hq.wiped hf hv'
      have e2 : wipe (wipe σ2 vs1) vs = wipe σ vs := wipe_eq (by rw [wipe_length, hlen, wipe_length]) fun i hi => by
        rw [wipe_ne fun z => hi (hvv' i z)]; exact (agr' i hi).1
      rw [e2] at hw
      exact hw
  · refine .inl ⟨o2 (by omega), ?_⟩
    rw [List.drop_of_length_le (by omega)] at hl
    unfold lcD2 at hl
    cases hl
    have sF : SR K mg S Δ1 Z' (restG vs Γ1 ΓF) σ H' := by
      refine hh.s.re hf (by rw [restG_len]) (by rw [wipe_length]) (fun j o => ⟨restG_ne fun z => hv' j z o, by rw [wipe_ne fun z => hv' j z o]⟩) fun j e o hj => ?_
      rcases restG_get hj with ⟨_, q⟩ | ⟨hn, q⟩
      · obtain ⟨v, hq, r⟩ := s1.im j e q o
        exact ⟨v, hq, r.ag ag⟩
      · obtain ⟨v, hq, r⟩ := hh.s.im j e q o
        rw [wipe_ne hn] at hq
        exact ⟨v, hq, r⟩
    have oF : ∀ x, OA Δ1 (restG vs Γ1 ΓF) σ x → OA Δ1 Γ1 σ x := fun x ⟨i, d, o, e, q⟩ => by
      have hi : i ∉ vs := fun z => hv' i z o
      rw [restG_ne hi] at e
      exact hh.r.o x ⟨i, d, o, e, by rw [wipe_ne hi]; exact q⟩
    have gF : Go K mg S σ Δ1 Z1 Γ1 H1 Δ1 Z' (restG vs Γ1 ΓF) H' := ⟨sF, hh.r.g, oF⟩
    obtain ⟨acc, hacc, nzD, racc⟩ := hh.l
    refine h1 Z' H' (.ref Dd) (q1.trans gF) ⟨Dd, rfl, .lst hacc racc, nzD, fun z => nO (oF _ z), ?_⟩
    cases q : H Dd with
    | none => rfl
    | some o =>
      obtain ⟨o', e'⟩ := q1.g.th Dd o q
      rw [hD] at e'; cases e'
end
section
variable {X : Cx} {B : Bx} {Δ Δ1 : Fl} {k : Nat} {elt tg iter tg1 iter1 : Expr} {ifs ifs1 : List Expr} {scope : Scope} {pos spos : Pos} {ts ts1 : List Nat} {mi mi1 : Gm → R (List D)} {g g1 : D → Gm → Option Gm} {mt mt1 : Gm → R Bool} {me : Gm → R D}
theorem de_lc2 (ob : Okb B) (own : List (Str × Nat)) (vs1 : List Nat) (hi : DI X B.S B.C Δ tg iter mi Δ1) (hN : X.N.Nodup) (ok : BlkOk X.N X.env.scope scope own)
    (hg : ∀ (s : Shared) (H : Hp) (C : Addr) (cl : List (Str × Addr)) (fp : List Addr), DG (X.blk s H scope (compEnvC scope cl C X.env) fp) B.S Δ1 tg g Δ1 ts)
    (ht : ∀ (s : Shared) (H : Hp) (C : Addr) (cl : List (Str × Addr)) (fp : List Addr), DTs (X.blk s H scope (compEnvC scope cl C X.env) fp) B.S C0 Δ1 ifs mt Δ1)
    (hi1 : ∀ (s : Shared) (H : Hp) (C : Addr) (cl : List (Str × Addr)) (fp : List Addr), DI (X.blk s H scope (compEnvC scope cl C X.env) fp) B.S C0 Δ1 tg1 iter1 mi1 Δ1)
    (hg1 : ∀ (s : Shared) (H : Hp) (C : Addr) (cl : List (Str × Addr)) (fp : List Addr), DG (X.blk s H scope (compEnvC scope cl C X.env) fp) B.S Δ1 tg1 g1 Δ1 ts1)
    (ht1 : ∀ (s : Shared) (H : Hp) (C : Addr) (cl : List (Str × Addr)) (fp : List Addr), DTs (X.blk s H scope (compEnvC scope cl C X.env) fp) B.S C0 Δ1 ifs1 mt1 Δ1)
    (he : ∀ (s : Shared) (H : Hp) (C : Addr) (cl : List (Str × Addr)) (fp : List Addr), DE (X.blk s H scope (compEnvC scope cl C X.env) fp) B.S C0 Δ1 elt me Δ1 .im)
    (hv : ((own.map (·.2)).all fun i => !(Δ1[i]? == some true)) = true := by rfl) (hts : (ts.all fun i => (own.map (·.2)).contains i) = true := by rfl) (hvv : (vs1.all fun i => (own.map (·.2)).contains i) = true := by rfl) (hts1 : (ts1.all fun i => vs1.contains i) = true := by rfl) (hc : X.calm = true := by rfl)
    (hs : ∀ x, foldedSetIterable iter X.env x = pure x := by intro _; rfl) (hs1 : ∀ env x, foldedSetIterable iter1 env x = pure x := by intro _ _; rfl) (hF : B.F = [] := by rfl) :
    DE X B.S B.C Δ (.ListComp elt [⟨tg, iter, ifs, 0⟩, ⟨tg1, iter1, ifs1, 0⟩] scope pos) (mLc2 (own.map (·.2)) mi g mt vs1 mi1 g1 mt1 me) Δ1 .ow :=
  (pe_lc2 hc hN hi ok (fun i hi => by simpa using List.all_eq_true.mp hvv i hi) hg ht hi1 hg1 ht1 he hs hs1).weak (lcF2 (ob.f0 hF) hv hts hvv hts1)
/-- name = [..] on one line -/
theorem ds_setLc2 (ob : Okb B) (i : Nat) {y : Str} {py : Pos} (bo : Bool) (own : List (Str × Nat)) (vs1 : List Nat) (hi : DI X B.S B.C Δ tg iter mi Δ1) (hN : X.N.Nodup) (ok : BlkOk X.N X.env.scope scope own)
    (hg : ∀ (s : Shared) (H : Hp) (C : Addr) (cl : List (Str × Addr)) (fp : List Addr), DG (X.blk s H scope (compEnvC scope cl C X.env) fp) B.S Δ1 tg g Δ1 ts)
    (ht : ∀ (s : Shared) (H : Hp) (C : Addr) (cl : List (Str × Addr)) (fp : List Addr), DTs (X.blk s H scope (compEnvC scope cl C X.env) fp) B.S C0 Δ1 ifs mt Δ1)
    (hi1 : ∀ (s : Shared) (H : Hp) (C : Addr) (cl : List (Str × Addr)) (fp : List Addr), DI (X.blk s H scope (compEnvC scope cl C X.env) fp) B.S C0 Δ1 tg1 iter1 mi1 Δ1)
    (hg1 : ∀ (s : Shared) (H : Hp) (C : Addr) (cl : List (Str × Addr)) (fp : List Addr), DG (X.blk s H scope (compEnvC scope cl C X.env) fp) B.S Δ1 tg1 g1 Δ1 ts1)
    (ht1 : ∀ (s : Shared) (H : Hp) (C : Addr) (cl : List (Str × Addr)) (fp : List Addr), DTs (X.blk s H scope (compEnvC scope cl C X.env) fp) B.S C0 Δ1 ifs1 mt1 Δ1)
    (he : ∀ (s : Shared) (H : Hp) (C : Addr) (cl : List (Str × Addr)) (fp : List Addr), DE (X.blk s H scope (compEnvC scope cl C X.env) fp) B.S C0 Δ1 elt me Δ1 .im)
    (hsw : swapsWith (.ListComp elt [⟨tg, iter, ifs, 0⟩, ⟨tg1, iter1, ifs1, 0⟩] scope pos) (some (.Name y py)) spos.line X.env = pure true := by rfl) (hp : B.nf i = false := by rfl) (hy : X.N[i]? = some y := by rfl) (hyl : X.env.scope.names.lookup y = some .local := by rfl)
    (hv : ((own.map (·.2)).all fun i => !(Δ1[i]? == some true)) = true := by rfl) (hts : (ts.all fun i => (own.map (·.2)).contains i) = true := by rfl) (hvv : (vs1.all fun i => (own.map (·.2)).contains i) = true := by rfl) (hts1 : (ts1.all fun i => vs1.contains i) = true := by rfl) (hc : X.calm = true := by rfl)
    (hs : ∀ x, foldedSetIterable iter X.env x = pure x := by intro _; rfl) (hs1 : ∀ env x, foldedSetIterable iter1 env x = pure x := by intro _ _; rfl) (hF : B.F = [] := by rfl) :
    DS X B Δ (.Assign [.Name y py] (.ListComp elt [⟨tg, iter, ifs, 0⟩, ⟨tg1, iter1, ifs1, 0⟩] scope pos) spos) (mSet i (mLc2 (own.map (·.2)) mi g mt vs1 mi1 g1 mt1 me)) (Δ1.set i bo) :=
  (ps_setLc2 hc hN hy hyl hsw hi ok (fun i hi => by simpa using List.all_eq_true.mp hvv i hi) hg ht hi1 hg1 ht1 he hs hs1).weak fun Dn σ H ⟨Z, Γ, s, h⟩ => by
    refine lcF2 (C := B.C) (mi := mi) (g := g) (mt := mt) (mi1 := mi1) (g1 := g1) (mt1 := mt1) (me := me) (ob.f0 hF) hv hts hvv hts1 σ H _ ?_
    have key : rdE X.K X.mg B.S B.C Δ (mLc2 (own.map (·.2)) mi g mt vs1 mi1 g1 mt1 me) Δ1 (kb bo) σ H (fun x H1 => gName i x σ H1 Dn.nx) := ⟨Z, Γ, s, h.bind.mono (fun d Γ1 ⟨_, h1⟩ Z1 H1 v g1 r1 => by
      refine h1 Z1 _ H1 ?_ (g1.ag s)
      cases bo with
      | false => exact g1.s.setIm r1 (ob.no hp)
      | true =>
        obtain ⟨a, rfl, w, nz, no, n0⟩ := r1
        exact g1.s.setOw w nz no (s.fresh n0) (ob.no hp)) fun _ _ c => c⟩
    cases bo with
    | true => exact key
    | false => exact imF σ H _ key
end
/-! ### a def that calls itself: as deep as a number says -/
def recF (n : Nat) (P : List Nat) (ro : Bool) (m : (List D → FR) → Gm → SE) : Nat → List D → FR
  | 0 => fun _ => .no
  | k + 1 => mFn n P ro (m (recF n P ro m k))
theorem fn_no {P : Program} {w : World} {K : PySem.W.Frag} {mg : Str → Option Value} {base : Heap} {CX : CXT} {k : Nat} {f : Addr} {fd : FuncData} {ps : List Str} {n : Nat} {Pm : List Nat} {ro : Bool} : FnOk P w K mg base CX k f fd ps (spD K mg (fun _ => .no) n Pm ro) :=
  ⟨fun vs H Q E ⟨_, _, _, _, _, z⟩ => z.elim, fun A outer s H args us vs Q E _ _ _ _ ⟨_, _, _, _, _, z⟩ => z.elim⟩
theorem rec_ok {P : Program} {w : World} {K : PySem.W.Frag} {mg : Str → Option Value} {base : Heap} {CX : CXT} {b np n : Nat} {f : Addr} {fd : FuncData} {ps : List Str} {Pm : List Nat} {ro : Bool} {m : (List D → FR) → Gm → SE}
    (h : ∀ j, FnOk P w K mg base CX (b + j) f fd ps (spD K mg (recF n Pm ro m j) np Pm ro) → FnOk P w K mg base CX (b + j + 1) f fd ps (spD K mg (mFn n Pm ro (m (recF n Pm ro m j))) np Pm ro)) :
    ∀ j, FnOk P w K mg base CX (b + j) f fd ps (spD K mg (recF n Pm ro m j) np Pm ro)
  | 0 => fn_no
  | j + 1 => h j (rec_ok h j)
end DL
/-! DL40: dicts. -/
namespace DL
open PySem PySem.Spec PyProof.Rows L2
def keysT : D → Option (List Key)
  | .tup ds => keysD ds
  | _ => none
def dlk : List (D × D) → Key → Option D
  | [], _ => none
  | (k, d) :: r, q => if keyD k = some q then some d else dlk r q
def dlt : List (D × D) → List Key → Option D
  | [], _ => none
  | (k, d) :: r, q => if keysT k = some q then some d else dlt r q
def dgetQ : D → D → Option (Option D)
  | .dct kvs, k => (keyD k).map (dlk kvs)
  | .dtt kvs, k => (keysT k).map (dlt kvs)
  | _, _ => none
def putK1 (kvs : List (D × D)) (k : D) (q : Key) (d : D) : List (D × D) := if kvs.any (fun p => decide (keyD p.1 = some q)) = true then kvs.map fun p => if keyD p.1 = some q then (p.1, d) else p else kvs ++ [(k, d)]
def putT1 (kvs : List (D × D)) (k : D) (q : List Key) (d : D) : List (D × D) := if kvs.any (fun p => decide (keysT p.1 = some q)) = true then kvs.map fun p => if keysT p.1 = some q then (p.1, d) else p else kvs ++ [(k, d)]
def dputD : D → D → D → Option D
  | .dct kvs, k, d => match keyD k with
    | some q => if kvs.length < 16777216 then some (.dct (putK1 kvs k q d)) else none
    | none => none
  | .dtt kvs, k, d => match keysT k with
    | some q => if kvs.length < 16777216 then some (.dtt (putT1 kvs k q d)) else none
    | none => none
  | _, _, _ => none
def isDct : D → Bool
  | .dct _ => true
  | .dtt _ => true
  | _ => false
section
variable {K : PySem.W.Frag} {mg : Str → Option Value} {Z : Addr → Prop} {H : Hp}
/-- there, or not -/
inductive RpO (K : PySem.W.Frag) (mg : Str → Option Value) (Z : Addr → Prop) (H : Hp) : Option D → Option V → Prop
  | none : RpO K mg Z H none none
  | some {d : D} {v : V} : Rp K mg Z H d v → RpO K mg Z H (some d) (some v)
theorem RpO.isSome {o : Option D} {u : Option V} (h : RpO K mg Z H o u) : o.isSome = u.isSome := by cases h <;> rfl
theorem Rpk.val : ∀ {ds : List (D × D)} {kvs : List (Key × V)}, Rpk K mg Z H ds kvs → ∀ q, RpO K mg Z H (dlk ds q) (valV kvs q)
  | _, _, .nil, q => .none
  | _, _, .cons (k := k) (q := p) e r t, q => by
    unfold dlk
    rw [e]
    by_cases h : p = q
    · rw [if_pos (by rw [h]), valV_pos h]; exact .some r
    · rw [if_neg (by simpa using h), valV_neg h]; exact Rpk.val t q
theorem Rpt.val : ∀ {ds : List (D × D)} {kvs : List (List Key × V)}, Rpt K mg Z H ds kvs → ∀ q, RpO K mg Z H (dlt ds q) (valV kvs q)
  | _, _, .nil, q => .none
  | _, _, .cons (k := k) (q := p) e r t, q => by
    have e' : keysT (.tup k) = some p := e
    unfold dlt
    rw [e']
    by_cases h : p = q
    · rw [if_pos (by rw [h]), valV_pos h]; exact .some r
    · rw [if_neg (by simpa using h), valV_neg h]; exact Rpt.val t q
theorem Rpk.length : ∀ {ds : List (D × D)} {kvs : List (Key × V)}, Rpk K mg Z H ds kvs → ds.length = kvs.length
  | _, _, .nil => rfl
  | _, _, .cons _ _ t => by simp [Rpk.length t]
theorem Rpt.length : ∀ {ds : List (D × D)} {kvs : List (List Key × V)}, Rpt K mg Z H ds kvs → ds.length = kvs.length
  | _, _, .nil => rfl
  | _, _, .cons _ _ t => by simp [Rpt.length t]
theorem Rpk.any (q : Key) : ∀ {ds : List (D × D)} {kvs : List (Key × V)}, Rpk K mg Z H ds kvs → (ds.any fun p => decide (keyD p.1 = some q)) = kvs.any fun kv => decide (kv.1 = q)
  | _, _, .nil => rfl
  | _, _, .cons e _ t => by rw [List.any_cons, List.any_cons, Rpk.any q t, e]; simp
theorem Rpt.any (q : List Key) : ∀ {ds : List (D × D)} {kvs : List (List Key × V)}, Rpt K mg Z H ds kvs → (ds.any fun p => decide (keysT p.1 = some q)) = kvs.any fun kv => decide (kv.1 = q)
  | _, _, .nil => rfl
  | _, _, .cons (k := k) (q := p) e _ t => by
    have e' : keysT (.tup k) = some p := e
    rw [List.any_cons, List.any_cons, Rpt.any q t, e']; simp
theorem Rpk.repl {d : D} {v : V} (q : Key) (r : Rp K mg Z H d v) : ∀ {ds : List (D × D)} {kvs : List (Key × V)}, Rpk K mg Z H ds kvs → Rpk K mg Z H (ds.map fun p => if keyD p.1 = some q then (p.1, d) else p) (kvs.map fun kv => if kv.1 = q then (kv.1, v) else kv)
  | _, _, .nil => .nil
  | _, _, .cons (k := k) (q := p) e x t => by
    rw [List.map_cons, List.map_cons]
    by_cases h : p = q
    · rw [if_pos (by show keyD k = some q; rw [e, h]), if_pos h]; exact .cons e r (Rpk.repl q r t)
    · rw [if_neg (by show ¬ keyD k = some q; rw [e]; simpa using h), if_neg h]; exact .cons e x (Rpk.repl q r t)
theorem Rpt.repl {d : D} {v : V} (q : List Key) (r : Rp K mg Z H d v) : ∀ {ds : List (D × D)} {kvs : List (List Key × V)}, Rpt K mg Z H ds kvs → Rpt K mg Z H (ds.map fun p => if keysT p.1 = some q then (p.1, d) else p) (kvs.map fun kv => if kv.1 = q then (kv.1, v) else kv)
  | _, _, .nil => .nil
  | _, _, .cons (k := k) (q := p) e x t => by
    have e' : keysT (.tup k) = some p := e
    rw [List.map_cons, List.map_cons]
    by_cases h : p = q
    · rw [if_pos (by show keysT (.tup k) = some q; rw [e', h]), if_pos h]; exact .cons e r (Rpt.repl q r t)
    · rw [if_neg (by show ¬ keysT (.tup k) = some q; rw [e']; simpa using h), if_neg h]; exact .cons e x (Rpt.repl q r t)
theorem Rpk.snoc {k d : D} {q : Key} {v : V} (e : keyD k = some q) (r : Rp K mg Z H d v) : ∀ {ds : List (D × D)} {kvs : List (Key × V)}, Rpk K mg Z H ds kvs → Rpk K mg Z H (ds ++ [(k, d)]) (kvs ++ [(q, v)])
  | _, _, .nil => .cons e r .nil
  | _, _, .cons e2 x t => .cons e2 x (Rpk.snoc e r t)
theorem Rpt.snoc {k : List D} {d : D} {q : List Key} {v : V} (e : keysD k = some q) (r : Rp K mg Z H d v) : ∀ {ds : List (D × D)} {kvs : List (List Key × V)}, Rpt K mg Z H ds kvs → Rpt K mg Z H (ds ++ [(.tup k, d)]) (kvs ++ [(q, v)])
  | _, _, .nil => .cons e r .nil
  | _, _, .cons e2 x t => .cons e2 x (Rpt.snoc e r t)
theorem Rpk.put {k d : D} {q : Key} {v : V} {ds : List (D × D)} {kvs : List (Key × V)} (e : keyD k = some q) (r : Rp K mg Z H d v) (h : Rpk K mg Z H ds kvs) : Rpk K mg Z H (putK1 ds k q d) (putK kvs q v) := by
  unfold putK1 putK
  rw [h.any q]
  split
  · exact h.repl q r
  · exact h.snoc e r
theorem Rpt.put {k : List D} {d : D} {q : List Key} {v : V} {ds : List (D × D)} {kvs : List (List Key × V)} (e : keysD k = some q) (r : Rp K mg Z H d v) (h : Rpt K mg Z H ds kvs) : Rpt K mg Z H (putT1 ds (.tup k) q d) (putK kvs q v) := by
  unfold putT1 putK
  rw [h.any q]
  split
  · exact h.repl q r
  · exact h.snoc e r
/-! keys as values -/
theorem key_v {k : D} {q : Key} {y : V} (e : keyD k = some q) (p : Pk K mg Z H k y) : y = kV q := by
  cases k with
  | int i => cases e; exact p.int
  | str s => cases e; exact p.str
  | _ => cases e
theorem keys_v : ∀ {ds : List D} {qs : List Key} {vs : List V}, keysD ds = some qs → Rps K mg Z H ds vs → vs = qs.map kV
  | [], qs, _, e, .nil => by cases e; rfl
  | d :: ds, qs, _, e, .cons r t => by
    unfold keysD at e
    split at e
    · rename_i k ks e1 e2
      cases e
      rw [key_v e1 (.rp r), keys_v e2 t]; rfl
    · cases e
theorem keys_rp : ∀ {ds : List D} {qs : List Key}, keysD ds = some qs → Rps K mg Z H ds (qs.map kV)
  | [], qs, e => by cases e; exact .nil
  | d :: ds, qs, e => by
    unfold keysD at e
    split at e
    · rename_i k ks e1 e2
      cases e
      refine .cons ?_ (keys_rp e2)
      cases d with
      | int i => cases e1; exact .int i
      | str s => cases e1; exact .str s
      | _ => cases e1
    · cases e
theorem key_rp {k : D} {q : Key} (e : keyD k = some q) : Rp K mg Z H k (kV q) := by
  cases k with
  | int i => cases e; exact .int i
  | str s => cases e; exact .str s
  | _ => cases e
theorem keysT_v {k : D} {q : List Key} {y : V} (e : keysT k = some q) (p : Pk K mg Z H k y) : ∃ b ds, k = .tup ds ∧ keysD ds = some q ∧ y = .ref b ∧ H b = some (.tup (q.map kV)) := by
  cases k with
  | tup ds =>
    obtain ⟨b, vs, rfl, f, r⟩ := p.tup
    have := keys_v e r
    subst this
    exact ⟨b, ds, rfl, e, rfl, f.1⟩
  | _ => cases e
theorem Pk.dct {ds : List (D × D)} {v : V} (h : Pk K mg Z H (.dct ds) v) : ∃ (a : Addr) (kvs : List (Key × V)), v = .ref a ∧ H a = some (.dK kvs) ∧ Rpk K mg Z H ds kvs := by
  cases h with
  | rp h => cases h with | dctK h z r => exact ⟨_, _, rfl, h, r⟩
  | ow h => cases h with | dctK h r => exact ⟨_, _, rfl, h, r⟩
theorem Pk.dtt {ds : List (D × D)} {v : V} (h : Pk K mg Z H (.dtt ds) v) : ∃ (a : Addr) (kvs : List (List Key × V)), v = .ref a ∧ H a = some (.dT kvs) ∧ Rpt K mg Z H ds kvs := by
  cases h with
  | rp h => cases h with | dctT h z r => exact ⟨_, _, rfl, h, r⟩
  | ow h => cases h with | dctT h r => exact ⟨_, _, rfl, h, r⟩
/-- what a dict says of a key -/
theorem dget_ok {d k : D} {o : Option D} {x y : V} (p1 : Pk K mg Z H d x) (p2 : Pk K mg Z H k y) (e : dgetQ d k = some o) : ∃ a u, x = .ref a ∧ DGet H a y u ∧ RpO K mg Z H o u ∧ IsD H a := by
  cases d with
  | dct kvs =>
    unfold dgetQ at e
    obtain ⟨q, eq, e2⟩ := Option.map_eq_some_iff.mp e
    subst e2; clear e
    obtain ⟨a, vs, rfl, hH, r⟩ := p1.dct
    rw [key_v eq p2]
    exact ⟨a, _, rfl, DGet.k hH, r.val q, by first | exact .inl ⟨_, .inl hH⟩ | exact .inl ⟨_, hH⟩⟩
  | dtt kvs =>
    unfold dgetQ at e
    obtain ⟨q, eq, e2⟩ := Option.map_eq_some_iff.mp e
    subst e2; clear e
    obtain ⟨a, vs, rfl, hH, r⟩ := p1.dtt
    obtain ⟨b, ds, rfl, ek, rfl, hb⟩ := keysT_v eq p2
    exact ⟨a, _, rfl, DGet.t hH hb, r.val q, by first | exact .inr ⟨_, .inl hH⟩ | exact .inr ⟨_, hH⟩⟩
  | _ => cases e
end
end DL
/-! DL41: dicts read and stored. -/
namespace DL
open PySem PySem.Spec PyProof.Rows L2
def dixD (d k : D) : Option D := (dgetQ d k).bind id
def dinD (k d : D) : Option D := (dgetQ d k).map fun o => .bl o.isSome
def dnotinD (k d : D) : Option D := (dgetQ d k).map fun o => .bl !o.isSome
def dget1D (d k : D) : Option D := (dgetQ d k).map fun o => o.getD .non
def dget2D (d k x : D) : Option D := (dgetQ d k).map fun o => o.getD x
def mGet2 (m1 m2 m3 : Gm → R D) : Gm → R D := fun Γ => (m1 Γ).bind fun d Γ1 => (m2 Γ1).bind fun k Γ2 => (m3 Γ2).bind fun x Γ3 => R.of (dget2D d k x) Γ3
theorem RpO.getD {K : PySem.W.Frag} {mg : Str → Option Value} {Z : Addr → Prop} {H : Hp} {o : Option D} {u : Option V} {d : D} {v : V} (h : RpO K mg Z H o u) (r : Rp K mg Z H d v) : Rp K mg Z H (o.getD d) (u.getD v) := by cases h with
  | none => exact r
  | some h => exact h
theorem seq2B {K : PySem.W.Frag} {mg : Str → Option Value} {S : Sx} {σ : Sg} {Δ Δ1 Δ2 : Fl} {Z : Addr → Prop} {Γ : Gm} {H : Hp} {k1 k2 : Kd} {C : Xd → Gm → Prop} {m1 m2 : Gm → R D} {g : D → D → Gm → R Bool} {P : Bool → Gm → Prop} {T : V → V → Hp → Prop} (s : SR K mg S Δ Z Γ σ H)
    (h : Post ((m1 Γ).bind fun d Γ1 => (m2 Γ1).bind fun e Γ2 => g d e Γ2) P C) (hk : KeepK k1 m2)
    (fin : ∀ d e Γ2 Z2 H2 x y, Go K mg S σ Δ Z Γ H Δ2 Z2 Γ2 H2 → Kr K mg H Δ2 Z2 Γ2 σ H2 k1 d x → Kr K mg H Δ2 Z2 Γ2 σ H2 k2 e y → Post (g d e Γ2) P C → T x y H2) :
    rdE K mg S C Δ m1 Δ1 k1 σ H fun x H1 => rdE K mg S C Δ1 m2 Δ2 k2 σ H1 fun y H2 => T x y H2 :=
  ⟨Z, Γ, s, h.bind'.mono (fun d Γ1 ⟨_, h1⟩ Z1 H1 x g1 r1 => ⟨Z1, Γ1, g1.s, h1.bind'.mono (fun e Γ2 ⟨e2, h2⟩ Z2 H2 y g2 r2 =>
    fin d e Γ2 Z2 H2 x y (g1.trans g2) (r1.lift g1.s g2 fun i e => hk i e _ _ _ e2) (r2.start g1.g.th) h2) fun _ _ c => c⟩) fun _ _ c => c⟩
theorem blf_din : Blf dinD := fun d e u h => by
  obtain ⟨o, _, rfl⟩ := Option.map_eq_some_iff.mp h; exact ⟨_, rfl⟩
theorem blf_dnotin : Blf dnotinD := fun d e u h => by
  obtain ⟨o, _, rfl⟩ := Option.map_eq_some_iff.mp h; exact ⟨_, rfl⟩
section
variable {X : Cx} {S : Sx} {C : Xd → Gm → Prop} {Δ Δ1 Δ2 Δ3 : Fl} {a b c : Expr} {m1 m2 m3 : Gm → R D} {k1 k2 k3 : Kd} {pos apos : Pos}
theorem de_dix (hu : X.A.units + 64 < cLine) (ha : DE X S C Δ a m1 Δ1 k1) (hb : DE X S C Δ1 b m2 Δ2 k2) (hk : KeepK k1 m2) (hs : NoSl b := by exact fun _ _ => rfl) : DE X S C Δ (.Subscript a b pos) (mBin dixD m1 m2) Δ2 .im :=
  (pe_dget (by omega) ha hb hs).weak fun σ H Q ⟨Z, Γ, s, h⟩ => seq2 s h hk fun d e Γ2 Z2 H2 x y g p1 p2 h2 => by
    obtain ⟨u, hu', q⟩ := h2.of
    unfold dixD at hu'
    obtain ⟨o, ho, e2⟩ := Option.bind_eq_some_iff.mp hu'
    have e2 : o = some u := e2
    subst e2
    obtain ⟨a, w, rfl, dg, r, _⟩ := dget_ok (p1.pk g.s) (p2.pk g.s) ho
    cases r with
    | some r => exact ⟨a, _, rfl, dg, q Z2 H2 _ g r⟩
theorem de_din (hu : X.A.units + 64 < cLine) (ha : DE X S C Δ a m1 Δ1 k1) (hb : DE X S C Δ1 b m2 Δ2 k2) (hk : KeepK k1 m2) (hm : behindInMarks .In b = false := by rfl) : DE X S C Δ (.Compare a [.In] [b] pos) (mBin dinD m1 m2) Δ2 .im :=
  (pe_cmp (pc_din (by omega) ha hb) hm).weak fun σ H Q ⟨Z, Γ, s, h⟩ => seq2 s h hk fun d e Γ2 Z2 H2 y x g p1 p2 h2 => by
    obtain ⟨u, hu', q⟩ := h2.of
    obtain ⟨o, ho, rfl⟩ := Option.map_eq_some_iff.mp hu'
    obtain ⟨a, w, rfl, dg, r, _⟩ := dget_ok (p2.pk g.s) (p1.pk g.s) ho
    exact ⟨a, w, rfl, dg, by rw [← r.isSome]; exact q Z2 H2 _ g (.bl _)⟩
theorem de_dnotin (hu : X.A.units + 64 < cLine) (ha : DE X S C Δ a m1 Δ1 k1) (hb : DE X S C Δ1 b m2 Δ2 k2) (hk : KeepK k1 m2) (hm : behindInMarks .NotIn b = false := by rfl) : DE X S C Δ (.Compare a [.NotIn] [b] pos) (mBin dnotinD m1 m2) Δ2 .im :=
  (pe_cmp (pc_dnotin (by omega) ha hb) hm).weak fun σ H Q ⟨Z, Γ, s, h⟩ => seq2 s h hk fun d e Γ2 Z2 H2 y x g p1 p2 h2 => by
    obtain ⟨u, hu', q⟩ := h2.of
    obtain ⟨o, ho, rfl⟩ := Option.map_eq_some_iff.mp hu'
    obtain ⟨a, w, rfl, dg, r, _⟩ := dget_ok (p2.pk g.s) (p1.pk g.s) ho
    exact ⟨a, w, rfl, dg, by rw [← r.isSome]; exact q Z2 H2 _ g (.bl _)⟩
theorem dt_din (hu : X.A.units + 64 < cLine) (ha : DE X S C Δ a m1 Δ1 k1) (hb : DE X S C Δ1 b m2 Δ2 k2) (hk : KeepK k1 m2) (hm : behindInMarks .In b = false := by rfl) : DT X S C Δ (.Compare a [.In] [b] pos) (mTru (mBin dinD m1 m2)) Δ2 :=
  PT.weak (pt_cmp (pc_din (by omega) ha hb) hm) fun σ H Q ⟨Z, Γ, s, h⟩ => seq2B (g := fun d e Γ => (R.of (dinD d e) Γ).bind fun d Γ1 => R.of (tru d) Γ1) s (by
    have : mTru (mBin dinD m1 m2) Γ = (m1 Γ).bind fun d Γ1 => (m2 Γ1).bind fun e Γ2 => (R.of (dinD d e) Γ2).bind fun d Γ1 => R.of (tru d) Γ1 := by
      unfold mTru mBin
      cases m1 Γ with
      | ok d Γ1 => simp only [R.bind]; cases m2 Γ1 <;> rfl
      | ex x Γ1 => rfl
      | no => rfl
    rw [this] at h; exact h) hk fun d e Γ2 Z2 H2 y x g p1 p2 h2 => by
    have h2 := h2.bind
    obtain ⟨u, hu', h2⟩ := h2.of
    obtain ⟨o, ho, rfl⟩ := Option.map_eq_some_iff.mp hu'
    obtain ⟨u2, e2, q⟩ := h2.of
    cases e2
    obtain ⟨a, w, rfl, dg, r, _⟩ := dget_ok (p2.pk g.s) (p1.pk g.s) ho
    exact ⟨a, w, rfl, dg, _, rfl, by rw [← r.isSome]; exact q Z2 H2 g⟩
theorem dt_dnotin (hu : X.A.units + 64 < cLine) (ha : DE X S C Δ a m1 Δ1 k1) (hb : DE X S C Δ1 b m2 Δ2 k2) (hk : KeepK k1 m2) (hm : behindInMarks .NotIn b = false := by rfl) : DT X S C Δ (.Compare a [.NotIn] [b] pos) (mTru (mBin dnotinD m1 m2)) Δ2 :=
  PT.weak (pt_cmp (pc_dnotin (by omega) ha hb) hm) fun σ H Q ⟨Z, Γ, s, h⟩ => seq2B (g := fun d e Γ => (R.of (dnotinD d e) Γ).bind fun d Γ1 => R.of (tru d) Γ1) s (by
    have : mTru (mBin dnotinD m1 m2) Γ = (m1 Γ).bind fun d Γ1 => (m2 Γ1).bind fun e Γ2 => (R.of (dnotinD d e) Γ2).bind fun d Γ1 => R.of (tru d) Γ1 := by
      unfold mTru mBin
      cases m1 Γ with
      | ok d Γ1 => simp only [R.bind]; cases m2 Γ1 <;> rfl
      | ex x Γ1 => rfl
      | no => rfl
    rw [this] at h; exact h) hk fun d e Γ2 Z2 H2 y x g p1 p2 h2 => by
    have h2 := h2.bind
    obtain ⟨u, hu', h2⟩ := h2.of
    obtain ⟨o, ho, rfl⟩ := Option.map_eq_some_iff.mp hu'
    obtain ⟨u2, e2, q⟩ := h2.of
    cases e2
    obtain ⟨a, w, rfl, dg, r, _⟩ := dget_ok (p2.pk g.s) (p1.pk g.s) ho
    exact ⟨a, w, rfl, dg, _, rfl, by rw [← r.isSome]; exact q Z2 H2 g⟩
theorem isd_ok {K : PySem.W.Frag} {mg : Str → Option Value} {Z : Addr → Prop} {H : Hp} {d : D} {x : V} (p : Pk K mg Z H d x) (h : isDct d = true) : ∃ a, x = .ref a ∧ IsD H a := by
  cases d with
  | dct kvs => obtain ⟨a, vs, rfl, hH, _⟩ := p.dct; exact ⟨a, rfl, .inl ⟨vs, .inl hH⟩⟩
  | dtt kvs => obtain ⟨a, vs, rfl, hH, _⟩ := p.dtt; exact ⟨a, rfl, .inr ⟨vs, .inl hH⟩⟩
  | _ => cases h
theorem dgq_dct {d k : D} {o : Option D} (h : dgetQ d k = some o) : isDct d = true := by
  cases d <;> first | rfl | cases h
theorem Post.ok1 {α β : Type} {r : R α} {f : α → Gm → R β} {P : β → Gm → Prop} (p : α → Prop) (h : Post (r.bind f) P (fun _ _ => False)) (hp : ∀ a Γ b Γ', r = .ok a Γ → f a Γ = .ok b Γ' → p a) : ∀ a Γ, r = .ok a Γ → p a := fun a Γ e => by
  subst e
  cases q : f a Γ with
  | ok b Γ' => exact hp a Γ b Γ' rfl q
  | ex x Γ' => have h : Post (f a Γ) P _ := h; rw [q] at h; exact h.elim
  | no => have h : Post (f a Γ) P _ := h; rw [q] at h; exact h.elim
/-- d.get(k); the receiver is looked at first: it has to be a dict -/
def mGet1 (m1 m2 : Gm → R D) : Gm → R D := fun Γ => (m1 Γ).bind fun d Γ1 => if isDct d = true then (m2 Γ1).bind fun k Γ2 => R.of (dget1D d k) Γ2 else .no
def mGet2' (m1 m2 m3 : Gm → R D) : Gm → R D := fun Γ => (m1 Γ).bind fun d Γ1 => if isDct d = true then (m2 Γ1).bind fun k Γ2 => (m3 Γ2).bind fun x Γ3 => R.of (dget2D d k x) Γ3 else .no
theorem de_dget1 (hu : X.A.units + 64 < cLine) (ha : DE X S C Δ a m1 Δ1 k1) (hb : DE X S C Δ1 b m2 Δ2 k2) (hk : KeepK k1 m2) (h1 : attributeBase a "get" X.env (eval a X.env) = eval a X.env := by rfl)
    (h2 : ((backTo pos (starEach [b] X.env)).all (fun x => !x.1) && (backToKw pos (keywordEach [] X.env)).all (fun x => x.1.isSome) && decide (([b] : List Expr).length + ([] : List Keyword).length + (if ([] : List Keyword).isEmpty then 0 else 1) < 30)) = true := by rfl)
    (h3 : (apos.endLine == pos.line) = true := by rfl) (h4 : backTo pos (starEach [b] X.env) = [(false, eval b X.env)] := by rfl) : DE X S C Δ (.Call (.Attribute a "get" apos) [b] [] pos) (mGet1 m1 m2) Δ2 .im :=
  (pe_dget1 (by omega) ha hb ⟨h1, h2, h3, h4⟩).weak fun σ H Q ⟨Z, Γ, s, h⟩ => ⟨Z, Γ, s, h.bind'.mono (fun d Γ1 ⟨_, q1⟩ Z1 H1 x g1 r1 => by
    split at q1
    · rename_i hd
      obtain ⟨a, rfl, hi⟩ := isd_ok (r1.pk g1.s) hd
      refine ⟨a, rfl, hi, Z1, Γ1, g1.s, q1.bind'.mono (fun e Γ2 ⟨e2, q2⟩ Z2 H2 y g2 r2 => ?_) fun _ _ c => c⟩
      have r1' := r1.lift g1.s g2 fun i ei => hk i ei _ _ _ e2
      obtain ⟨u, hu', q⟩ := q2.of
      obtain ⟨o, ho, rfl⟩ := Option.map_eq_some_iff.mp hu'
      obtain ⟨a', w, ea, dg, r, _⟩ := dget_ok (r1'.pk g2.s) (r2.pk g2.s) ho
      cases ea
      exact ⟨w, dg, q Z2 H2 _ (g1.trans g2) (r.getD .non)⟩
    · exact q1.elim) fun _ _ c => c⟩
theorem de_dget2 (hu : X.A.units + 64 < cLine) (ha : DE X S C Δ a m1 Δ1 k1) (hb : DE X S C Δ1 b m2 Δ2 .im) (hc : DE X S C Δ2 c m3 Δ3 .im) (hk : KeepK k1 m2) (hk3 : KeepK k1 m3) (h1 : attributeBase a "get" X.env (eval a X.env) = eval a X.env := by rfl)
    (h2 : ((backTo pos (starEach [b, c] X.env)).all (fun x => !x.1) && (backToKw pos (keywordEach [] X.env)).all (fun x => x.1.isSome) && decide (([b, c] : List Expr).length + ([] : List Keyword).length + (if ([] : List Keyword).isEmpty then 0 else 1) < 30)) = true := by rfl)
    (h3 : (apos.endLine == pos.line) = true := by rfl) (h4 : backTo pos (starEach [b, c] X.env) = [(false, eval b X.env), (false, eval c X.env)] := by rfl) : DE X S C Δ (.Call (.Attribute a "get" apos) [b, c] [] pos) (mGet2' m1 m2 m3) Δ3 .im :=
  (pe_dget2 (by omega) ha hb hc ⟨h1, h2, h3, h4⟩).weak fun σ H Q ⟨Z, Γ, s, h⟩ => ⟨Z, Γ, s, h.bind'.mono (fun d Γ1 ⟨_, q1⟩ Z1 H1 x g1 r1 => by
    split at q1
    · rename_i hd
      obtain ⟨a, rfl, hi⟩ := isd_ok (r1.pk g1.s) hd
      refine ⟨a, rfl, hi, Z1, Γ1, g1.s, q1.bind'.mono (fun e Γ2 ⟨e2, q2⟩ Z2 H2 y g2 r2 => ⟨Z2, Γ2, g2.s, q2.bind'.mono (fun z Γ3 ⟨e3, q3⟩ Z3 H3 w g3 r3 => ?_) fun _ _ c => c⟩) fun _ _ c => c⟩
      have r1' := (r1.lift g1.s g2 fun i ei => hk i ei _ _ _ e2).lift g2.s g3 fun i ei => hk3 i ei _ _ _ e3
      have r2' : Rp X.K X.mg Z3 H3 e y := Rp.ag (g3.ag g2.s) r2
      obtain ⟨u, hu', q⟩ := q3.of
      obtain ⟨o, ho, rfl⟩ := Option.map_eq_some_iff.mp hu'
      obtain ⟨a', w', ea, dg, r, _⟩ := dget_ok (r1'.pk g3.s) (.rp r2') ho
      cases ea
      exact ⟨w', dg, q Z3 H3 _ ((g1.trans g2).trans g3) (r.getD r3)⟩
    · exact q1.elim) fun _ _ c => c⟩
end
/-! ### both kinds -/
def ixX : D → D → Option D := pick2 isDct dixD ixD
def pickR (p : D → Bool) (f g : D → D → Option D) (d e : D) : Option D := if p e = true then f d e else g d e
theorem pickR_m {p : D → Bool} {f g : D → D → Option D} {m1 m2 : Gm → R D} (Γ : Gm) : mBin (pickR p f g) m1 m2 Γ = mBin f m1 m2 Γ ∨ mBin (pickR p f g) m1 m2 Γ = mBin g m1 m2 Γ := by
  unfold mBin
  cases m1 Γ with
  | ok d Γ1 =>
    simp only [R.bind]
    cases m2 Γ1 with
    | ok e Γ2 =>
      simp only
      cases h : p e with
      | true => exact .inl (by unfold pickR; simp [h])
      | false => exact .inr (by unfold pickR; simp [h])
    | ex x Γ1 => exact .inl rfl
    | no => exact .inl rfl
  | ex x Γ1 => exact .inl rfl
  | no => exact .inl rfl
def inX : D → D → Option D := pickR isDct dinD inA
def notinX : D → D → Option D := pickR isDct dnotinD notinA
theorem tru_m {f g h : D → D → Option D} {m1 m2 : Gm → R D} {Γ : Gm} (q : mBin f m1 m2 Γ = mBin g m1 m2 Γ ∨ mBin f m1 m2 Γ = mBin h m1 m2 Γ) : mTru (mBin f m1 m2) Γ = mTru (mBin g m1 m2) Γ ∨ mTru (mBin f m1 m2) Γ = mTru (mBin h m1 m2) Γ := by
  unfold mTru
  rcases q with q | q
  · exact .inl (by rw [q])
  · exact .inr (by rw [q])
/-- d[k] = v -/
def dstS (s : Nat) (d q : D) (Γ : Gm) : SE := match Γ[s]? with
  | some (some dd) => match dputD dd q d with
    | some dd' => .nx (Γ.set s (some dd'))
    | none => .no
  | _ => .no
def mDSt (s : Nat) (m mi : Gm → R D) : Gm → SE := fun Γ => (m Γ).toS fun d Γ1 => match Γ1[s]? with
  | some (some _) => (mi Γ1).toS fun q Γ2 => dstS s d q Γ2
  | _ => .no
def isDctO : Option (Option D) → Bool
  | some (some d) => isDct d
  | _ => false
def mStX (s : Nat) (m mi : Gm → R D) : Gm → SE := fun Γ => match m Γ with
  | .ok _ Γ1 => if isDctO Γ1[s]? = true then mDSt s m mi Γ else mSt s m mi Γ
  | _ => mSt s m mi Γ
theorem mStX_m {s : Nat} {m mi : Gm → R D} (Γ : Gm) : mStX s m mi Γ = mDSt s m mi Γ ∨ mStX s m mi Γ = mSt s m mi Γ := by
  unfold mStX
  cases m Γ with
  | ok d Γ1 =>
    dsimp only
    split
    · exact .inl rfl
    · exact .inr rfl
  | ex x Γ1 => exact .inr rfl
  | no => exact .inr rfl
section
variable {X : Cx} {B : Bx} {Δ Δ1 Δ2 : Fl} {e : Expr} {m mi : Gm → R D} {k : Kd} {pos : Pos}
theorem ds_dst (hu : X.A.units + 64 < cLine) (s0 : Nat) {aN : Str} {p1 p2 : Pos} {ei : Expr} (he : DE X B.S B.C Δ e m Δ1 .im) (hi : DE X B.S B.C Δ1 ei mi Δ2 k) (ho : Δ2[s0]? = some true := by rfl) (hN : X.N[s0]? = some aN := by rfl) (hv : Vis X.env.scope aN := by first | exact Or.inl rfl | exact Or.inr (Or.inl rfl) | exact Or.inr (Or.inr rfl))
    (hd : (aN == ("__debug__" : Str)) = false := by decide) (hcd : (aN == ("__classdict__" : Str)) = false := by decide)
    (hs : swapsWith e (some (.Subscript (.Name aN p1) ei p2)) pos.line X.env = pure false := by rfl) :
    DS X B Δ (.Assign [.Subscript (.Name aN p1) ei p2] e pos) (mDSt s0 m mi) Δ2 :=
  (ps_dput (by omega) (pe_var hN hv hd hcd) hi he hs).weak fun Dn σ H ⟨Z, Γ, s, h⟩ => ⟨Z, Γ, s, h.bind.mono (fun d Γ1 ⟨_, h1⟩ Z1 H1 v g1 r1 => by
    split at h1
    · rename_i d0 e0
      obtain ⟨v0, hv0⟩ := g1.s.bound e0
      refine ⟨v0, hv0, Z1, Γ1, g1.s, h1.bind.mono (fun q Γ2 ⟨eq2, h2⟩ Z2 H2 w g2 r2 => ?_) fun _ _ c => c⟩
      unfold dstS at h2
      split at h2
      · rename_i dd e2
        obtain ⟨b, hb, wo, nz, _⟩ := g2.s.ow s0 _ e2 ho
        rw [hv0] at hb; cases hb
        have r1' : Rp X.K X.mg Z2 H2 d v := Rp.ag (g2.ag g1.s) r1
        cases dd with
        | dct kvs =>
          unfold dputD at h2
          dsimp only at h2
          cases ek : keyD q with
          | none => rw [ek] at h2; exact h2.elim
          | some qq =>
            rw [ek] at h2
            dsimp only at h2
            split at h2
            · rename_i dd' ed
              split at ed
              · rename_i hl
                cases ed
                cases wo with
                | dctK hH rk =>
                  rw [key_v ek (r2.pk g2.s)]
                  exact ⟨b, _, rfl, DPut.k hH (by rw [← rk.length, sizeLine_eq]; exact hl), h2 Z2 σ _ (g2.s.mut ho e2 hv0 (.dctK upd_same ((rk.put ek r1').ag (agU nz)))) (((g1.ag s).trans (g2.ag g1.s)).trans (agU nz))⟩
              · cases ed
            · exact h2.elim
        | dtt kvs =>
          unfold dputD at h2
          dsimp only at h2
          cases ek : keysT q with
          | none => rw [ek] at h2; exact h2.elim
          | some qq =>
            rw [ek] at h2
            dsimp only at h2
            split at h2
            · rename_i dd' ed
              split at ed
              · rename_i hl
                cases ed
                cases wo with
                | dctT hH rk =>
                  obtain ⟨kb, ds, rfl, ek2, rfl, hkb⟩ := keysT_v ek (r2.pk g2.s)
                  exact ⟨b, _, rfl, DPut.t hH hkb (by rw [← rk.length, sizeLine_eq]; exact hl), h2 Z2 σ _ (g2.s.mut ho e2 hv0 (.dctT upd_same ((rk.put ek2 r1').ag (agU nz)))) (((g1.ag s).trans (g2.ag g1.s)).trans (agU nz))⟩
              · cases ed
            · exact h2.elim
        | _ => exact h2.elim
      · exact h2.elim
    · exact h1.elim) fun _ _ c => c⟩
theorem de_dctT {S : Sx} {C : Xd → Gm → Prop} : DE X S C Δ (.Dict [] [] pos) (mC (.dtt [])) Δ .ow := pe_dnewT.weak fun σ H Q ⟨Z, Γ, s, h⟩ p np => by
  have gl : Gr0 Z Z H (upd H p (.dT [])) := Gr0.lay np s.zd
  exact h Z _ (.ref p) (Go.gr0 s gl) ⟨p, rfl, .dctT upd_same .nil, s.freshZ np, s.freshO np, np⟩
end
end DL
/-! DL42: list(d.keys()) of a dict whose keys are tuples; list(range(..)); len(d). -/
namespace DL
open PySem PySem.Spec PyProof.Rows L2
def tListKeysT (te : TE) : TE := fun σ H Q => te σ H fun x H1 => ∃ (d : Addr) (kvs : List (List Key × V)), x = .ref d ∧ Rd H1 d (.dT kvs) ∧ ∀ p bs, H1 p = none → IsKeys H1 kvs bs → Q (.ref p) (upd H1 p (.lst (bs.map V.ref)))
section
variable {X : Cx} {e : Expr} {te : TE} {p apos cpos pos : Pos}
theorem pe_listKeysT (hc : X.calm = true) (he : PE X e te) (hg : Gl X "list") (hm : X.mg "list" = none) (hv : bootBuiltins "list" = some (.type "list")) (hbase : attributeBase e "keys" X.env (eval e X.env) = eval e X.env := by rfl) (hline : (apos.endLine == cpos.line) = true := by rfl)
    (hs : starEach [.Call (.Attribute e "keys" apos) [] [] cpos] X.env = (false, eval (.Call (.Attribute e "keys" apos) [] [] cpos) X.env) :: starEach [] X.env := by rfl) :
    PE X (.Call (.Name "list" p) [.Call (.Attribute e "keys" apos) [] [] cpos] [] pos) (tListKeysT te) := by
  refine ⟨fun pins s σ H Q I hq => wpAny_Call_Name_kw (ld_blt I hg hm hv ?_)⟩
  refine PyProof.Rows.callWith_type1 ?_ hs rfl
  rw [hs]
  show wpAny _ _ (spliced ((false, eval (.Call (.Attribute e "keys" apos) [] [] cpos) X.env) :: backTo pos (starEach [] X.env))) _ _ s
  refine Calls.spliced_cons (wpAny_Call_method (T := "dict") (id := "dict.keys") hbase rfl hline PySem.F.plainAttrs_dict PySem.F.slot_dict_keys PySem.F.type_dict_keys (thn (he.run pins s σ H _ I hq) fun u s1 ⟨x, H1, I1, rx, d, kvs, ex, hd, q⟩ => ?_))
  subst ex
  obtain rfl : u = Value.ref d := rx
  obtain ⟨z, hs0, ks, pr, o, es, ep, ho, hx, hdt, hent, hn⟩ := (show ObjOk X.prog X.w H1 s1.heap d (.dT kvs) from hd.ok I1.hok)
  have l1 : es.size = ks.length := size_of_entries hent
  have l2 : kvs.length = ks.length := Paired.length pr
  have hraw : s1.heap.DictRaw d es ep := ⟨o, ho, hx, hdt⟩
  have I2 : Inv X pins σ H1 { s1 with heap := s1.heap.push { cls := .type "dict_keys", data := .fields #[.ref d] } } := I1.kept (t' := s1.toks) fun b ob q => Heap.get?_push_of_some _ q
  refine ⟨hraw.typeIs, fun b q => by cases q; exact ⟨o, ho, hx.2.1⟩, ?_⟩
  show wpAny _ _ (callWith cpos (.builtin "dict.keys") [.ref d] [] []) _ X.xe s1
  refine method_meetsIn PySem.F.slot_dict_keys PySem.F.entry_dict_keys rfl (PySem.evalArgs_none ⟨rfl, hraw.typeIs, PySem.F.args_dict_keys_1 _, _, meets_dict_keys_raw d hs0, ⟨es, ep, hraw⟩, ?_⟩)
  refine Calls.spliced_nil ?_
  refine PySem.W.kdl_call (PySem.KdlSrc.rawKeys (r := s1.heap.objs.size) (d := d) (es := es) (ep := ep)) (I1.ok.hd hc) ⟨⟨_, Heap.get?_push_size _ rfl, rfl, rfl⟩, hraw.at fun ob eb => Heap.get?_push_of_some _ eb⟩ (by omega) fun h' tk acc' c' kp e it => ?_
  have ea : acc'.toList = ks.map fun x => Value.ref x.2.1 := by
    have hl : acc'.toList.length = ks.length := by rw [Array.length_toList, it.1]; exact l1
    apply List.ext_getElem?
    intro j
    rw [List.getElem?_map]
    cases hj : acc'.toList[j]? with
    | none =>
      have h1 := List.getElem?_eq_none_iff.mp hj
      rw [List.getElem?_eq_none (by omega)] <;> rfl
    | some v =>
      obtain ⟨hi, hv'⟩ := it.2 j v (by rw [← Array.getElem?_toList]; exact hj)
      have qe := entry_at hent j
      rw [Array.getElem?_eq_getElem hi] at qe
      cases hb : ks[j]? with
      | none => rw [hb] at qe; exact nomatch (show some es[j] = none from qe)
      | some b =>
        rw [hb] at qe
        have e2 : es[j] = entryOfKey (tupleKind (mixKind X.prog X.w)) b := Option.some.inj qe
        rw [hv', e2] <;> rfl
  have eb : acc'.toList = (ks.map fun x => x.2.1).map Value.ref := by rw [ea, List.map_map] <;> rfl
  have rv : Vals ((ks.map fun x => x.2.1).map V.ref) acc'.toList := by rw [eb]; exact L2.vals_refs _
  have hz : ((ks.map fun x => x.2.1).map V.ref).length ≤ sizeLine := by rw [List.length_map, List.length_map]; omega
  refine ⟨.ref (s1.heap.push { cls := .type "dict_keys", data := .fields #[.ref d] }).objs.size, _, I2.laid (t' := tk) (o := .lst ((ks.map fun x => x.2.1).map V.ref)) kp (Nat.le_refl _) ?_, rfl, q _ _ (I2.hok.fresh (Nat.le_refl _)) (isKeys_of pr)⟩
  exact ⟨hz, acc'.toList, c', rv, by rw [Array.toArray_toList]; exact e⟩
end
/-! ### as data -/
def keysL : List (D × D) → List D := fun kvs => kvs.map (·.1)
def lkeysD : D → Option D
  | .dtt kvs => some (.lst (keysL kvs))
  | _ => none
section
variable {K : PySem.W.Frag} {mg : Str → Option Value} {Z : Addr → Prop} {H : Hp}
theorem rpt_keys (zd : Zd Z H) : ∀ {ds : List (D × D)} {kvs : List (List Key × V)} {bs : List Addr}, Rpt K mg Z H ds kvs → IsKeys H kvs bs → Rps K mg Z H (keysL ds) (bs.map V.ref)
  | _, _, [], .nil, _ => .nil
  | _, _, _ :: _, .nil, h => by cases h
  | _, _, [], .cons _ _ _, h => by cases h
  | _, _, b :: bs, .cons e r t, h => by
    cases h with
    | cons hb ht => exact .cons (.tup ⟨hb, zd.2 b _ hb⟩ (keys_rp e)) (rpt_keys zd t ht)
variable {X : Cx} {S : Sx} {C : Xd → Gm → Prop} {Δ Δ1 : Fl} {a : Expr} {m : Gm → R D} {k : Kd} {p apos cpos pos : Pos}
theorem de_lkeys (hm : X.mg "list" = none) (ha : DE X S C Δ a m Δ1 k) (hc : X.calm = true := by rfl) (hg : Gl X "list" := by rfl) (hbase : attributeBase a "keys" X.env (eval a X.env) = eval a X.env := by rfl) (hline : (apos.endLine == cpos.line) = true := by rfl)
    (hs : starEach [.Call (.Attribute a "keys" apos) [] [] cpos] X.env = (false, eval (.Call (.Attribute a "keys" apos) [] [] cpos) X.env) :: starEach [] X.env := by rfl) :
    DE X S C Δ (.Call (.Name "list" p) [.Call (.Attribute a "keys" apos) [] [] cpos] [] pos) (mUn lkeysD m) Δ1 .ow :=
  (pe_listKeysT hc ha hg hm PyProof.Rows.Boot.«list» hbase hline hs).weak fun σ H Q ⟨Z, Γ, s, h⟩ => ⟨Z, Γ, s, h.bind.mono (fun d Γ1 h1 Z1 H1 v g1 r1 => by
    obtain ⟨u, hu, q⟩ := h1.of
    unfold lkeysD at hu; split at hu
    · cases hu
      obtain ⟨b, kvs, rfl, hH, r⟩ := (r1.pk g1.s).dtt
      refine ⟨b, kvs, rfl, .inl hH, fun pp bs np hk => ?_⟩
      exact resL g1.s.zd (fun Z' H' v g0 rr => q Z' H' v (g1.trans (.gr0 g1.s g0)) (ResB.kr (b := true) g1.s g0 g1.g.th rr)) (rpt_keys g1.s.zd r hk) np
    · cases hu) fun _ _ c => c⟩
/-! list(range(..)) -/
def lrgD (a b : Int) : Option D := if 0 ≤ a ∧ a ≤ 16777216 ∧ 0 ≤ b ∧ b ≤ 16777216 then some (.lst (rangeD a (b - a).toNat)) else none
def lrg1D : D → Option D
  | .int n => lrgD 0 n
  | _ => none
def lrg2D : D → D → Option D
  | .int a, .int b => lrgD a b
  | _, _ => none
theorem rgV_rps (lo hi : Int) : Rps K mg Z H (rangeD lo (hi - lo).toNat) (L2.rgV lo hi) := by
  unfold rangeD L2.rgV
  have : ∀ l : List Nat, Rps K mg Z H (l.map fun k : Nat => D.int (lo + (k : Nat))) (l.map fun i : Nat => V.int (lo + (i : Nat))) := by
    intro l
    induction l with
    | nil => exact .nil
    | cons x l ih => exact .cons (.int _) ih
  exact this _
theorem de_lrg1 {p2 p3 : Pos} (hm : X.mg "list" = none) (hm2 : X.mg "range" = none) (ha : DE X S C Δ a m Δ1 k) (hc : X.calm = true := by rfl) (hg : Gl X "list" := by rfl) (hg2 : Gl X "range" := by rfl)
    (hs : starEach [.Call (.Name "range" p2) [a] [] p3] X.env = (false, eval (.Call (.Name "range" p2) [a] [] p3) X.env) :: starEach [] X.env := by rfl) (hs2 : starEach [a] X.env = (false, eval a X.env) :: starEach [] X.env := by rfl) :
    DE X S C Δ (.Call (.Name "list" p) [.Call (.Name "range" p2) [a] [] p3] [] pos) (mUn lrg1D m) Δ1 .ow :=
  (pe_listRg hc hg hm (prg_1 hg2 hm2 ha hs2) hs).weak fun σ H Q ⟨Z, Γ, s, h⟩ => ⟨Z, Γ, s, h.bind.mono (fun d Γ1 h1 Z1 H1 v g1 r1 => by
    obtain ⟨u, hu, q⟩ := h1.of
    unfold lrg1D at hu; split at hu
    · rename_i n
      unfold lrgD at hu; split at hu
      · rename_i hc
        cases hu
        refine ⟨n, (r1.pk g1.s).int, RgOk.of_le (by omega) (by omega) (by omega) (by omega), fun pp np => ?_⟩
        exact resL g1.s.zd (fun Z' H' v g0 rr => q Z' H' v (g1.trans (.gr0 g1.s g0)) (ResB.kr (b := true) g1.s g0 g1.g.th rr)) (rgV_rps 0 n) np
      · cases hu
    · cases hu) fun _ _ c => c⟩
theorem de_lrg2 {b : Expr} {m2 : Gm → R D} {Δ2 : Fl} {k2 : Kd} {p2 p3 : Pos} (hm : X.mg "list" = none) (hm2 : X.mg "range" = none) (ha : DE X S C Δ a m Δ1 k) (hb : DE X S C Δ1 b m2 Δ2 k2) (hk : KeepK k m2) (hc : X.calm = true := by rfl) (hg : Gl X "list" := by rfl) (hg2 : Gl X "range" := by rfl)
    (hs : starEach [.Call (.Name "range" p2) [a, b] [] p3] X.env = (false, eval (.Call (.Name "range" p2) [a, b] [] p3) X.env) :: starEach [] X.env := by rfl) (hs2 : starEach [a, b] X.env = (false, eval a X.env) :: starEach [b] X.env := by rfl) (hs3 : starEach [b] X.env = (false, eval b X.env) :: starEach [] X.env := by rfl) (hpl : (backTo p3 (starEach [b] X.env)).any (·.1) = false := by rfl) :
    DE X S C Δ (.Call (.Name "list" p) [.Call (.Name "range" p2) [a, b] [] p3] [] pos) (mBin lrg2D m m2) Δ2 .ow :=
  (pe_listRg hc hg hm (prg_2 hg2 hm2 ha hb hs2 hs3 hpl) hs).weak fun σ H Q ⟨Z, Γ, s, h⟩ => seq2 s h hk fun d e Γ2 Z2 H2 x y g p1 p2 h2 => by
    obtain ⟨u, hu, q⟩ := h2.of
    unfold lrg2D at hu; split at hu
    · rename_i i j
      unfold lrgD at hu; split at hu
      · rename_i hc
        cases hu
        refine ⟨i, j, (p1.pk g.s).int, (p2.pk g.s).int, RgOk.of_le (by omega) (by omega) (by omega) (by omega), fun pp np => ?_⟩
        exact resL g.s.zd (fun Z' H' v g0 rr => q Z' H' v (g.trans (.gr0 g.s g0)) (ResB.kr (b := true) g.s g0 g.g.th rr)) (rgV_rps i j) np
      · cases hu
    · cases hu
end
/-! len(d) -/
def lendD : D → Option D
  | .dct kvs => some (.int kvs.length)
  | .dtt kvs => some (.int kvs.length)
  | _ => none
def lenX : D → Option D := pick1 isDct lendD lenD
section
variable {X : Cx}
theorem cd_lend : CallR X (.builtin "len") (rC1 X.K X.mg lendD false) := cri (CallR.or call_lenD call_len_dT) fun xs H Q ⟨x, e, Z, d, u, zd, p1, h, q⟩ => by
  subst e
  cases d with
  | dct kvs =>
    cases h
    obtain ⟨a, vs, rfl, hH, r⟩ := p1.dct
    exact .inl ⟨a, vs, rfl, hH, by rw [← r.length]; exact q Z H _ (.refl zd) (.int _)⟩
  | dtt kvs =>
    cases h
    obtain ⟨a, vs, rfl, hH, r⟩ := p1.dtt
    exact .inr ⟨a, vs, rfl, by first | exact .inl hH | exact hH, by rw [← r.length]; exact q Z H _ (.refl zd) (.int _)⟩
  | _ => cases h
end
end DL
/-! DLM: the meanings by simp. -/
namespace DL
open PySem PySem.Spec PyProof.Rows L2
@[simp] theorem SE.seq_ite {c : Prop} [Decidable c] (a b : SE) (f : Gm → SE) : (if c then a else b).seq f = if c then a.seq f else b.seq f := by split <;> rfl
@[simp] theorem R.bind_ite {α β : Type} {c : Prop} [Decidable c] (a b : R α) (f : α → Gm → R β) : (if c then a else b).bind f = if c then a.bind f else b.bind f := by split <;> rfl
@[simp] theorem R.toS_ite {α : Type} {c : Prop} [Decidable c] (a b : R α) (f : α → Gm → SE) : (if c then a else b).toS f = if c then a.toS f else b.toS f := by split <;> rfl
section
variable {m m1 m2 ml mu : Gm → R D} {t t1 t2 : Gm → R Bool} {a b : Gm → SE} {Γ : Gm} {ms : List (Gm → R D)} {mi : Gm → R (List D)} {as : List Am} {d : D} {ds : List D} {xs : List (Option D)} {f : D → D → Option D} {f1 : D → Option D}
@[simp] theorem mSeq_ap : mSeq a b Γ = (a Γ).seq b := (rfl)
@[simp] theorem mSet_ap {i : Nat} : mSet i m Γ = (m Γ).toS fun d Γ1 => .nx (Γ1.set i (some d)) := (rfl)
@[simp] theorem mEx_ap : mEx m Γ = (m Γ).toS fun _ Γ1 => .nx Γ1 := (rfl)
@[simp] theorem mRet_ap : mRet m Γ = (m Γ).toS fun d Γ1 => .rt d Γ1 := (rfl)
@[simp] theorem mRetN_ap : mRetN Γ = .rt .non Γ := (rfl)
@[simp] theorem mNx_ap : mNx Γ = .nx Γ := (rfl)
@[simp] theorem mBk_ap : mBk Γ = .bk Γ := (rfl)
@[simp] theorem mCt_ap : mCt Γ = .ct Γ := (rfl)
@[simp] theorem mIf_ap : mIf t a b Γ = (t Γ).toS fun c Γ1 => if c = true then a Γ1 else b Γ1 := (rfl)
@[simp] theorem mBin_ap : mBin f m1 m2 Γ = (m1 Γ).bind fun d Γ1 => (m2 Γ1).bind fun e Γ2 => R.of (f d e) Γ2 := (rfl)
@[simp] theorem mUn_ap : mUn f1 m Γ = (m Γ).bind fun d Γ1 => R.of (f1 d) Γ1 := (rfl)
@[simp] theorem mC_ap : mC d Γ = .ok d Γ := (rfl)
@[simp] theorem mTru_ap : mTru m Γ = (m Γ).bind fun d Γ1 => R.of (tru d) Γ1 := (rfl)
@[simp] theorem mNotT_ap : mNotT t Γ = (t Γ).bind fun c Γ1 => .ok (!c) Γ1 := (rfl)
@[simp] theorem mAndT_ap : mAndT t1 t2 Γ = (t1 Γ).bind fun c Γ1 => if c = true then t2 Γ1 else .ok false Γ1 := (rfl)
@[simp] theorem mOrT_ap : mOrT t1 t2 Γ = (t1 Γ).bind fun c Γ1 => if c = true then .ok true Γ1 else t2 Γ1 := (rfl)
@[simp] theorem mIte_ap : mIte t m1 m2 Γ = (t Γ).bind fun c Γ1 => if c = true then m1 Γ1 else m2 Γ1 := (rfl)
/-- what a value's truth chooses -/
def truC {α : Type} (d : D) (a b : R α) : R α := match tru d with
  | some true => a
  | some false => b
  | none => .no
@[simp] theorem truC_t {α : Type} {a b : R α} : truC (.bl true) a b = a := (rfl)
@[simp] theorem truC_f {α : Type} {a b : R α} : truC (.bl false) a b = b := (rfl)
@[simp] theorem truC_b {α : Type} {a b : R α} {c : Bool} : truC (.bl c) a b = if c = true then a else b := by cases c <;> rfl
@[simp] theorem mAndV_ap : mAndV m1 m2 Γ = (m1 Γ).bind fun d Γ1 => truC d (m2 Γ1) (.ok d Γ1) := by
  unfold mAndV truC
  cases m1 Γ with
  | ok d Γ1 => simp only [R.bind_ok] <;> rcases tru d with _ | _ | _ <;> rfl
  | ex x Γ1 => rfl
  | no => rfl
@[simp] theorem mOrV_ap : mOrV m1 m2 Γ = (m1 Γ).bind fun d Γ1 => truC d (.ok d Γ1) (m2 Γ1) := by
  unfold mOrV truC
  cases m1 Γ with
  | ok d Γ1 => simp only [R.bind_ok] <;> rcases tru d with _ | _ | _ <;> rfl
  | ex x Γ1 => rfl
  | no => rfl
@[simp] theorem mNotV_ap : mNotV m Γ = (m Γ).bind fun d Γ1 => truC d (.ok (.bl false) Γ1) (.ok (.bl true) Γ1) := by
  unfold mNotV truC
  cases m Γ with
  | ok d Γ1 => simp only [R.bind_ok] <;> rcases tru d with _ | _ | _ <;> rfl
  | ex x Γ1 => rfl
  | no => rfl
@[simp] theorem evE_nil : evE [] Γ = .ok [] Γ := (rfl)
@[simp] theorem evE_cons : evE (m :: ms) Γ = (m Γ).bind fun d Γ1 => (evE ms Γ1).bind fun ds Γ2 => .ok (d :: ds) Γ2 := (rfl)
@[simp] theorem mTup_ap : mTup ms Γ = (evE ms Γ).bind fun ds Γ1 => .ok (.tup ds) Γ1 := (rfl)
@[simp] theorem mLst_ap : mLst ms Γ = (evE ms Γ).bind fun ds Γ1 => .ok (.lst ds) Γ1 := (rfl)
@[simp] theorem mNil_ap : mNil Γ = .ok [] Γ := (rfl)
@[simp] theorem mCons_ap : mCons m mi Γ = (m Γ).bind fun d Γ1 => (mi Γ1).bind fun ds Γ2 => .ok (d :: ds) Γ2 := (rfl)
def par2 (i j : Nat) (Γ1 : Gm) : List D → SE
  | [d, e] => .nx ((Γ1.set i (some d)).set j (some e))
  | _ => .no
def par3 (i j l : Nat) (Γ1 : Gm) : List D → SE
  | [d, e, f] => .nx (((Γ1.set i (some d)).set j (some e)).set l (some f))
  | _ => .no
@[simp] theorem par2_ap {i j : Nat} {d e : D} : par2 i j Γ [d, e] = .nx ((Γ.set i (some d)).set j (some e)) := (rfl)
@[simp] theorem par3_ap {i j l : Nat} {d e f : D} : par3 i j l Γ [d, e, f] = .nx (((Γ.set i (some d)).set j (some e)).set l (some f)) := (rfl)
@[simp] theorem mPar2_ap {i j : Nat} : mPar2 i j mi Γ = (mi Γ).toS fun ds Γ1 => par2 i j Γ1 ds := (rfl)
@[simp] theorem mPar3_ap {i j l : Nat} : mPar3 i j l mi Γ = (mi Γ).toS fun ds Γ1 => par3 i j l Γ1 ds := (rfl)
@[simp] theorem evA_nil : evA [] Γ = .ok [] Γ := (rfl)
@[simp] theorem evA_e : evA (.e m :: as) Γ = (m Γ).bind fun d Γ1 => (evA as Γ1).bind fun ds Γ2 => .ok (some d :: ds) Γ2 := (rfl)
def evP (o : Option (Option D)) (as : List Am) (Γ : Gm) : R (List (Option D)) := match o with
  | some (some _) => (evA as Γ).bind fun ds Γ2 => .ok (none :: ds) Γ2
  | _ => .no
@[simp] theorem evP_some : evP (some (some d)) as Γ = (evA as Γ).bind fun ds Γ2 => .ok (none :: ds) Γ2 := (rfl)
@[simp] theorem evA_p {i : Nat} : evA (.p i :: as) Γ = evP Γ[i]? as Γ := (rfl)
@[simp] theorem fillA_nil : fillA Γ [] [] = some [] := (rfl)
def fcons (d : D) : Option (List D) → Option (List D)
  | some ds => some (d :: ds)
  | none => none
@[simp] theorem fcons_some : fcons d (some ds) = some (d :: ds) := (rfl)
@[simp] theorem fillA_e : fillA Γ (.e m :: as) (some d :: xs) = fcons d (fillA Γ as xs) := (rfl)
def fplace (o : Option (Option D)) (r : Option (List D)) : Option (List D) := match o with
  | some (some d) => fcons d r
  | _ => none
@[simp] theorem fplace_some {r : Option (List D)} : fplace (some (some d)) r = fcons d r := (rfl)
@[simp] theorem fillA_p {i : Nat} : fillA Γ (.p i :: as) (none :: xs) = fplace Γ[i]? (fillA Γ as xs) := by
  unfold fplace fcons
  rw [fillA]
  cases Γ[i]? with
  | none => rfl
  | some o => cases o with
    | none => rfl
    | some d => cases fillA Γ as xs <;> rfl
@[simp] theorem slotsA_nil : slotsA [] = [] := (rfl)
@[simp] theorem slotsA_e : slotsA (.e m :: as) = slotsA as := (rfl)
@[simp] theorem slotsA_p {i : Nat} : slotsA (.p i :: as) = i :: slotsA as := (rfl)
@[simp] theorem setOuts_nil {os : List D} : setOuts [] os Γ = Γ := by cases os <;> rfl
@[simp] theorem setOuts_cons {i : Nat} {is : List Nat} {os : List D} : setOuts (i :: is) (d :: os) Γ = setOuts is os (Γ.set i (some d)) := (rfl)
/-- a call's end in the caller -/
def callR (sl : List Nat) (Γ1 : Gm) : FR → R D
  | .rt d os => .ok d (setOuts sl os Γ1)
  | .ex x os => .ex x (setOuts sl os Γ1)
  | .no => .no
@[simp] theorem callR_rt {sl : List Nat} {os : List D} : callR sl Γ (.rt d os) = .ok d (setOuts sl os Γ) := (rfl)
@[simp] theorem callR_ex {sl : List Nat} {os : List D} {x : Xd} : callR sl Γ (.ex x os) = .ex x (setOuts sl os Γ) := (rfl)
@[simp] theorem callR_ite {sl : List Nat} {c : Prop} [Decidable c] {a b : FR} : callR sl Γ (if c then a else b) = if c then callR sl Γ a else callR sl Γ b := by split <;> rfl
def callF (F : List D → FR) (dds : List D) (sl : List Nat) (Γ1 : Gm) : Option (List D) → R D
  | some ds => callR sl Γ1 (F (ds ++ dds))
  | none => .no
@[simp] theorem callF_some {F : List D → FR} {dds : List D} {sl : List Nat} : callF F dds sl Γ (some ds) = callR sl Γ (F (ds ++ dds)) := (rfl)
@[simp] theorem mCall_ap {F : List D → FR} {dds : List D} : mCall F dds as Γ = (evA as Γ).bind fun xs Γ1 => callF F dds (slotsA as) Γ1 (fillA Γ1 as xs) := by
  unfold mCall callF callR
  cases evA as Γ with
  | ok xs Γ1 =>
    simp only [R.bind_ok] <;> rcases fillA Γ1 as xs with _ | ds <;> try rfl
    all_goals (rcases hF : F (ds ++ dds) with _ | _ | _ <;> simp only [hF])
  | ex x Γ1 => rfl
  | no => rfl
@[simp] theorem mRaise_ap {x : Str} {flds : List (Str × Nat)} : mRaise x flds ms Γ = (evE ms Γ).toS fun ds Γ1 => .ex ⟨x, valsD ds flds⟩ Γ1 := (rfl)
@[simp] theorem valsD_ap {flds : List (Str × Nat)} : valsD ds flds = flds.map fun p => (p.1, match ds[p.2]? with
  | some d => d
  | none => .non) := (rfl)
@[simp] theorem outs_nil : outs [] Γ = [] := (rfl)
def oget : Option (Option D) → D
  | some (some d) => d
  | _ => .non
@[simp] theorem oget_some : oget (some (some d)) = d := (rfl)
@[simp] theorem outs_cons {i : Nat} {P : List Nat} : outs (i :: P) Γ = oget Γ[i]? :: outs P Γ := (rfl)
@[simp] theorem g0_ap {n : Nat} : g0 n ds = ds.map some ++ List.replicate (n - ds.length) none := (rfl)
@[simp] theorem mYes_ap : mYes Γ = .ok true Γ := (rfl)
@[simp] theorem gN_ap {i : Nat} : gN i d Γ = some (Γ.set i (some d)) := (rfl)
@[simp] theorem gT_ap {gs : List D → Gm → Option Gm} : gT gs (.tup ds) Γ = gs ds Γ := (rfl)
@[simp] theorem gsNil_ap : gsNil [] Γ = some Γ := (rfl)
@[simp] theorem gsCons_ap {g : D → Gm → Option Gm} {gs : List D → Gm → Option Gm} : gsCons g gs (d :: ds) Γ = (g d Γ).bind fun Γ1 => gs ds Γ1 := (rfl)
@[simp] theorem mIt_ap : mIt m Γ = (m Γ).bind fun d Γ1 => R.of (itemsD d) Γ1 := (rfl)
@[simp] theorem mR1_ap : mR1 m Γ = (m Γ).bind fun d Γ1 => R.of (rg1 d) Γ1 := (rfl)
@[simp] theorem mR2_ap : mR2 m1 m2 Γ = (m1 Γ).bind fun d Γ1 => (m2 Γ1).bind fun e Γ2 => R.of (rg2 d e) Γ2 := (rfl)
@[simp] theorem items_l : itemsD (.lst ds) = some ds := (rfl)
@[simp] theorem items_t : itemsD (.tup ds) = some ds := (rfl)
@[simp] theorem mFor_ap {g : D → Gm → Option Gm} : mFor mi g a Γ = (mi Γ).toS fun items Γ1 => forD g a items Γ1 := (rfl)
def appS (s : Nat) (d : D) (Γ1 : Gm) : Option (Option D) → SE
  | some (some (.lst xs)) => if xs.length < 16777216 then .nx (Γ1.set s (some (.lst (xs ++ [d])))) else .no
  | _ => .no
@[simp] theorem appS_l {s : Nat} (h : ds.length < 16777216) : appS s d Γ (some (some (.lst ds))) = .nx (Γ.set s (some (.lst (ds ++ [d])))) := if_pos h
def appQ (o : Option (Option D)) (r : SE) : SE := match o with
  | some (some (.lst _)) => r
  | _ => .no
@[simp] theorem appQ_l {r : SE} : appQ (some (some (.lst ds))) r = r := (rfl)
@[simp] theorem mApp_ap {s : Nat} : mApp s m Γ = appQ Γ[s]? ((m Γ).toS fun d Γ1 => appS s d Γ1 Γ1[s]?) := by
  unfold appQ mApp
  rcases Γ[s]? with _ | _ | u
  · rfl
  · rfl
  · cases u with
    | lst xs =>
      rcases m Γ with ⟨d, Γ1⟩ | ⟨x, Γ1⟩ | _
      · show (match Γ1[s]? with
          | some (some (.lst xs)) => if xs.length < 16777216 then SE.nx (Γ1.set s (some (.lst (xs ++ [d])))) else .no
          | _ => .no) = appS s d Γ1 Γ1[s]?
        unfold appS
        rcases Γ1[s]? with _ | _ | w
        · rfl
        · rfl
        · cases w <;> rfl
      · rfl
      · rfl
    | _ => rfl
def stS (s : Nat) (d q : D) (Γ2 : Gm) (o : Option (Option D)) : SE := match o, q with
  | some (some (.lst xs)), .int k => match ixN xs.length k with
    | some j => .nx (Γ2.set s (some (.lst (xs.set j d))))
    | none => .no
  | _, _ => .no
theorem stS_l {s j : Nat} {k : Int} (h : ixN ds.length k = some j) : stS s d (.int k) Γ (some (some (.lst ds))) = .nx (Γ.set s (some (.lst (ds.set j d)))) := by
  unfold stS; simp only [h]
@[simp] theorem stS_0 {s : Nat} {e : D} : stS s d (.int 0) Γ (some (some (.lst (e :: ds)))) = .nx (Γ.set s (some (.lst (d :: ds)))) := stS_l (j := 0) (by unfold ixN; rw [if_pos (by omega), if_pos (by simp <;> omega)] <;> rfl)
@[simp] theorem stS_1 {s : Nat} {e0 e : D} : stS s d (.int 1) Γ (some (some (.lst (e0 :: e :: ds)))) = .nx (Γ.set s (some (.lst (e0 :: d :: ds)))) := stS_l (j := 1) (by unfold ixN; rw [if_pos (by omega), if_pos (by simp <;> omega)] <;> rfl)
@[simp] theorem stS_2 {s : Nat} {e0 e1 e : D} : stS s d (.int 2) Γ (some (some (.lst (e0 :: e1 :: e :: ds)))) = .nx (Γ.set s (some (.lst (e0 :: e1 :: d :: ds)))) := stS_l (j := 2) (by unfold ixN; rw [if_pos (by omega), if_pos (by simp <;> omega)] <;> rfl)
@[simp] theorem stS_3 {s : Nat} {e0 e1 e2 e : D} : stS s d (.int 3) Γ (some (some (.lst (e0 :: e1 :: e2 :: e :: ds)))) = .nx (Γ.set s (some (.lst (e0 :: e1 :: e2 :: d :: ds)))) := stS_l (j := 3) (by unfold ixN; rw [if_pos (by omega), if_pos (by simp <;> omega)] <;> rfl)
def stQ (o : Option (Option D)) (r : SE) : SE := match o with
  | some (some _) => r
  | _ => .no
@[simp] theorem stQ_s {r : SE} : stQ (some (some d)) r = r := (rfl)
@[simp] theorem mSt_ap {s : Nat} : mSt s m m1 Γ = (m Γ).toS fun d Γ1 => stQ Γ1[s]? ((m1 Γ1).toS fun q Γ2 => stS s d q Γ2 Γ2[s]?) := by
  unfold mSt
  rcases m Γ with ⟨d, Γ1⟩ | ⟨x, Γ1⟩ | _
  · show (match Γ1[s]? with
      | some (some _) => (m1 Γ1).toS fun q Γ2 => (match Γ2[s]?, q with
        | some (some (.lst xs)), .int k => (match ixN xs.length k with
          | some j => SE.nx (Γ2.set s (some (.lst (xs.set j d))))
          | none => .no)
        | _, _ => .no)
      | _ => .no) = stQ Γ1[s]? ((m1 Γ1).toS fun q Γ2 => stS s d q Γ2 Γ2[s]?)
    unfold stQ
    rcases Γ1[s]? with _ | _ | u
    · rfl
    · rfl
    · rcases m1 Γ1 with ⟨q, Γ2⟩ | ⟨x, Γ2⟩ | _ <;> rfl
  · rfl
  · rfl
def augS (i : Nat) (Γ1 : Gm) : Option D → SE
  | some u => .nx (Γ1.set i (some u))
  | none => .no
@[simp] theorem augS_s {i : Nat} : augS i Γ (some d) = .nx (Γ.set i (some d)) := (rfl)
def augQ (o : Option (Option D)) (f : D → SE) : SE := match o with
  | some (some d) => f d
  | _ => .no
@[simp] theorem augQ_s {g : D → SE} : augQ (some (some d)) g = g d := (rfl)
@[simp] theorem mAug_ap {i : Nat} : mAug i f m Γ = augQ Γ[i]? fun d => (m Γ).toS fun e Γ1 => augS i Γ1 (f d e) := by
  unfold mAug augQ
  rcases Γ[i]? with _ | _ | d
  · rfl
  · rfl
  · rcases m Γ with ⟨e, Γ1⟩ | ⟨x, Γ1⟩ | _
    · show (match f d e with
        | some u => SE.nx (Γ1.set i (some u))
        | none => .no) = augS i Γ1 (f d e)
      unfold augS
      rcases f d e with _ | u <;> rfl
    · rfl
    · rfl
end
@[simp] theorem mVar_0 {d : D} {l : Gm} : mVar 0 (some d :: l) = .ok d (some d :: l) := (rfl)
@[simp] theorem mVar_1 {x0 : Option D} {d : D} {l : Gm} : mVar 1 (x0 :: some d :: l) = .ok d (x0 :: some d :: l) := (rfl)
@[simp] theorem mVar_2 {x0 x1 : Option D} {d : D} {l : Gm} : mVar 2 (x0 :: x1 :: some d :: l) = .ok d (x0 :: x1 :: some d :: l) := (rfl)
@[simp] theorem mVar_3 {x0 x1 x2 : Option D} {d : D} {l : Gm} : mVar 3 (x0 :: x1 :: x2 :: some d :: l) = .ok d (x0 :: x1 :: x2 :: some d :: l) := (rfl)
@[simp] theorem mVar_4 {x0 x1 x2 x3 : Option D} {d : D} {l : Gm} : mVar 4 (x0 :: x1 :: x2 :: x3 :: some d :: l) = .ok d (x0 :: x1 :: x2 :: x3 :: some d :: l) := (rfl)
@[simp] theorem mVar_5 {x0 x1 x2 x3 x4 : Option D} {d : D} {l : Gm} : mVar 5 (x0 :: x1 :: x2 :: x3 :: x4 :: some d :: l) = .ok d (x0 :: x1 :: x2 :: x3 :: x4 :: some d :: l) := (rfl)
@[simp] theorem mVar_6 {x0 x1 x2 x3 x4 x5 : Option D} {d : D} {l : Gm} : mVar 6 (x0 :: x1 :: x2 :: x3 :: x4 :: x5 :: some d :: l) = .ok d (x0 :: x1 :: x2 :: x3 :: x4 :: x5 :: some d :: l) := (rfl)
@[simp] theorem mVar_7 {x0 x1 x2 x3 x4 x5 x6 : Option D} {d : D} {l : Gm} : mVar 7 (x0 :: x1 :: x2 :: x3 :: x4 :: x5 :: x6 :: some d :: l) = .ok d (x0 :: x1 :: x2 :: x3 :: x4 :: x5 :: x6 :: some d :: l) := (rfl)
@[simp] theorem mVar_8 {x0 x1 x2 x3 x4 x5 x6 x7 : Option D} {d : D} {l : Gm} : mVar 8 (x0 :: x1 :: x2 :: x3 :: x4 :: x5 :: x6 :: x7 :: some d :: l) = .ok d (x0 :: x1 :: x2 :: x3 :: x4 :: x5 :: x6 :: x7 :: some d :: l) := (rfl)
@[simp] theorem mVar_9 {x0 x1 x2 x3 x4 x5 x6 x7 x8 : Option D} {d : D} {l : Gm} : mVar 9 (x0 :: x1 :: x2 :: x3 :: x4 :: x5 :: x6 :: x7 :: x8 :: some d :: l) = .ok d (x0 :: x1 :: x2 :: x3 :: x4 :: x5 :: x6 :: x7 :: x8 :: some d :: l) := (rfl)
@[simp] theorem mVar_10 {x0 x1 x2 x3 x4 x5 x6 x7 x8 x9 : Option D} {d : D} {l : Gm} : mVar 10 (x0 :: x1 :: x2 :: x3 :: x4 :: x5 :: x6 :: x7 :: x8 :: x9 :: some d :: l) = .ok d (x0 :: x1 :: x2 :: x3 :: x4 :: x5 :: x6 :: x7 :: x8 :: x9 :: some d :: l) := (rfl)
@[simp] theorem mVar_11 {x0 x1 x2 x3 x4 x5 x6 x7 x8 x9 x10 : Option D} {d : D} {l : Gm} : mVar 11 (x0 :: x1 :: x2 :: x3 :: x4 :: x5 :: x6 :: x7 :: x8 :: x9 :: x10 :: some d :: l) = .ok d (x0 :: x1 :: x2 :: x3 :: x4 :: x5 :: x6 :: x7 :: x8 :: x9 :: x10 :: some d :: l) := (rfl)
@[simp] theorem mVar_12 {x0 x1 x2 x3 x4 x5 x6 x7 x8 x9 x10 x11 : Option D} {d : D} {l : Gm} : mVar 12 (x0 :: x1 :: x2 :: x3 :: x4 :: x5 :: x6 :: x7 :: x8 :: x9 :: x10 :: x11 :: some d :: l) = .ok d (x0 :: x1 :: x2 :: x3 :: x4 :: x5 :: x6 :: x7 :: x8 :: x9 :: x10 :: x11 :: some d :: l) := (rfl)
@[simp] theorem mVar_13 {x0 x1 x2 x3 x4 x5 x6 x7 x8 x9 x10 x11 x12 : Option D} {d : D} {l : Gm} : mVar 13 (x0 :: x1 :: x2 :: x3 :: x4 :: x5 :: x6 :: x7 :: x8 :: x9 :: x10 :: x11 :: x12 :: some d :: l) = .ok d (x0 :: x1 :: x2 :: x3 :: x4 :: x5 :: x6 :: x7 :: x8 :: x9 :: x10 :: x11 :: x12 :: some d :: l) := (rfl)
@[simp] theorem mVar_14 {x0 x1 x2 x3 x4 x5 x6 x7 x8 x9 x10 x11 x12 x13 : Option D} {d : D} {l : Gm} : mVar 14 (x0 :: x1 :: x2 :: x3 :: x4 :: x5 :: x6 :: x7 :: x8 :: x9 :: x10 :: x11 :: x12 :: x13 :: some d :: l) = .ok d (x0 :: x1 :: x2 :: x3 :: x4 :: x5 :: x6 :: x7 :: x8 :: x9 :: x10 :: x11 :: x12 :: x13 :: some d :: l) := (rfl)
@[simp] theorem mVar_15 {x0 x1 x2 x3 x4 x5 x6 x7 x8 x9 x10 x11 x12 x13 x14 : Option D} {d : D} {l : Gm} : mVar 15 (x0 :: x1 :: x2 :: x3 :: x4 :: x5 :: x6 :: x7 :: x8 :: x9 :: x10 :: x11 :: x12 :: x13 :: x14 :: some d :: l) = .ok d (x0 :: x1 :: x2 :: x3 :: x4 :: x5 :: x6 :: x7 :: x8 :: x9 :: x10 :: x11 :: x12 :: x13 :: x14 :: some d :: l) := (rfl)
@[simp] theorem mVar_16 {x0 x1 x2 x3 x4 x5 x6 x7 x8 x9 x10 x11 x12 x13 x14 x15 : Option D} {d : D} {l : Gm} : mVar 16 (x0 :: x1 :: x2 :: x3 :: x4 :: x5 :: x6 :: x7 :: x8 :: x9 :: x10 :: x11 :: x12 :: x13 :: x14 :: x15 :: some d :: l) = .ok d (x0 :: x1 :: x2 :: x3 :: x4 :: x5 :: x6 :: x7 :: x8 :: x9 :: x10 :: x11 :: x12 :: x13 :: x14 :: x15 :: some d :: l) := (rfl)
@[simp] theorem mVar_17 {x0 x1 x2 x3 x4 x5 x6 x7 x8 x9 x10 x11 x12 x13 x14 x15 x16 : Option D} {d : D} {l : Gm} : mVar 17 (x0 :: x1 :: x2 :: x3 :: x4 :: x5 :: x6 :: x7 :: x8 :: x9 :: x10 :: x11 :: x12 :: x13 :: x14 :: x15 :: x16 :: some d :: l) = .ok d (x0 :: x1 :: x2 :: x3 :: x4 :: x5 :: x6 :: x7 :: x8 :: x9 :: x10 :: x11 :: x12 :: x13 :: x14 :: x15 :: x16 :: some d :: l) := (rfl)
@[simp] theorem mVar_18 {x0 x1 x2 x3 x4 x5 x6 x7 x8 x9 x10 x11 x12 x13 x14 x15 x16 x17 : Option D} {d : D} {l : Gm} : mVar 18 (x0 :: x1 :: x2 :: x3 :: x4 :: x5 :: x6 :: x7 :: x8 :: x9 :: x10 :: x11 :: x12 :: x13 :: x14 :: x15 :: x16 :: x17 :: some d :: l) = .ok d (x0 :: x1 :: x2 :: x3 :: x4 :: x5 :: x6 :: x7 :: x8 :: x9 :: x10 :: x11 :: x12 :: x13 :: x14 :: x15 :: x16 :: x17 :: some d :: l) := (rfl)
@[simp] theorem mVar_19 {x0 x1 x2 x3 x4 x5 x6 x7 x8 x9 x10 x11 x12 x13 x14 x15 x16 x17 x18 : Option D} {d : D} {l : Gm} : mVar 19 (x0 :: x1 :: x2 :: x3 :: x4 :: x5 :: x6 :: x7 :: x8 :: x9 :: x10 :: x11 :: x12 :: x13 :: x14 :: x15 :: x16 :: x17 :: x18 :: some d :: l) = .ok d (x0 :: x1 :: x2 :: x3 :: x4 :: x5 :: x6 :: x7 :: x8 :: x9 :: x10 :: x11 :: x12 :: x13 :: x14 :: x15 :: x16 :: x17 :: x18 :: some d :: l) := (rfl)
@[simp] theorem mVar_20 {x0 x1 x2 x3 x4 x5 x6 x7 x8 x9 x10 x11 x12 x13 x14 x15 x16 x17 x18 x19 : Option D} {d : D} {l : Gm} : mVar 20 (x0 :: x1 :: x2 :: x3 :: x4 :: x5 :: x6 :: x7 :: x8 :: x9 :: x10 :: x11 :: x12 :: x13 :: x14 :: x15 :: x16 :: x17 :: x18 :: x19 :: some d :: l) = .ok d (x0 :: x1 :: x2 :: x3 :: x4 :: x5 :: x6 :: x7 :: x8 :: x9 :: x10 :: x11 :: x12 :: x13 :: x14 :: x15 :: x16 :: x17 :: x18 :: x19 :: some d :: l) := (rfl)
@[simp] theorem mVar_21 {x0 x1 x2 x3 x4 x5 x6 x7 x8 x9 x10 x11 x12 x13 x14 x15 x16 x17 x18 x19 x20 : Option D} {d : D} {l : Gm} : mVar 21 (x0 :: x1 :: x2 :: x3 :: x4 :: x5 :: x6 :: x7 :: x8 :: x9 :: x10 :: x11 :: x12 :: x13 :: x14 :: x15 :: x16 :: x17 :: x18 :: x19 :: x20 :: some d :: l) = .ok d (x0 :: x1 :: x2 :: x3 :: x4 :: x5 :: x6 :: x7 :: x8 :: x9 :: x10 :: x11 :: x12 :: x13 :: x14 :: x15 :: x16 :: x17 :: x18 :: x19 :: x20 :: some d :: l) := (rfl)
@[simp] theorem mVar_22 {x0 x1 x2 x3 x4 x5 x6 x7 x8 x9 x10 x11 x12 x13 x14 x15 x16 x17 x18 x19 x20 x21 : Option D} {d : D} {l : Gm} : mVar 22 (x0 :: x1 :: x2 :: x3 :: x4 :: x5 :: x6 :: x7 :: x8 :: x9 :: x10 :: x11 :: x12 :: x13 :: x14 :: x15 :: x16 :: x17 :: x18 :: x19 :: x20 :: x21 :: some d :: l) = .ok d (x0 :: x1 :: x2 :: x3 :: x4 :: x5 :: x6 :: x7 :: x8 :: x9 :: x10 :: x11 :: x12 :: x13 :: x14 :: x15 :: x16 :: x17 :: x18 :: x19 :: x20 :: x21 :: some d :: l) := (rfl)
@[simp] theorem mVar_23 {x0 x1 x2 x3 x4 x5 x6 x7 x8 x9 x10 x11 x12 x13 x14 x15 x16 x17 x18 x19 x20 x21 x22 : Option D} {d : D} {l : Gm} : mVar 23 (x0 :: x1 :: x2 :: x3 :: x4 :: x5 :: x6 :: x7 :: x8 :: x9 :: x10 :: x11 :: x12 :: x13 :: x14 :: x15 :: x16 :: x17 :: x18 :: x19 :: x20 :: x21 :: x22 :: some d :: l) = .ok d (x0 :: x1 :: x2 :: x3 :: x4 :: x5 :: x6 :: x7 :: x8 :: x9 :: x10 :: x11 :: x12 :: x13 :: x14 :: x15 :: x16 :: x17 :: x18 :: x19 :: x20 :: x21 :: x22 :: some d :: l) := (rfl)
@[simp] theorem getL_0 {α : Type} {d : α} {l : List α} : (d :: l)[0]? = some d := (rfl)
@[simp] theorem setL_0 {α : Type} {d e : α} {l : List α} : List.set (d :: l) 0 e = e :: l := (rfl)
@[simp] theorem getL_1 {α : Type} {x0 : α} {d : α} {l : List α} : (x0 :: d :: l)[1]? = some d := (rfl)
@[simp] theorem setL_1 {α : Type} {x0 : α} {d e : α} {l : List α} : List.set (x0 :: d :: l) 1 e = x0 :: e :: l := (rfl)
@[simp] theorem getL_2 {α : Type} {x0 x1 : α} {d : α} {l : List α} : (x0 :: x1 :: d :: l)[2]? = some d := (rfl)
@[simp] theorem setL_2 {α : Type} {x0 x1 : α} {d e : α} {l : List α} : List.set (x0 :: x1 :: d :: l) 2 e = x0 :: x1 :: e :: l := (rfl)
@[simp] theorem getL_3 {α : Type} {x0 x1 x2 : α} {d : α} {l : List α} : (x0 :: x1 :: x2 :: d :: l)[3]? = some d := (rfl)
@[simp] theorem setL_3 {α : Type} {x0 x1 x2 : α} {d e : α} {l : List α} : List.set (x0 :: x1 :: x2 :: d :: l) 3 e = x0 :: x1 :: x2 :: e :: l := (rfl)
@[simp] theorem getL_4 {α : Type} {x0 x1 x2 x3 : α} {d : α} {l : List α} : (x0 :: x1 :: x2 :: x3 :: d :: l)[4]? = some d := (rfl)
@[simp] theorem setL_4 {α : Type} {x0 x1 x2 x3 : α} {d e : α} {l : List α} : List.set (x0 :: x1 :: x2 :: x3 :: d :: l) 4 e = x0 :: x1 :: x2 :: x3 :: e :: l := (rfl)
@[simp] theorem getL_5 {α : Type} {x0 x1 x2 x3 x4 : α} {d : α} {l : List α} : (x0 :: x1 :: x2 :: x3 :: x4 :: d :: l)[5]? = some d := (rfl)
@[simp] theorem setL_5 {α : Type} {x0 x1 x2 x3 x4 : α} {d e : α} {l : List α} : List.set (x0 :: x1 :: x2 :: x3 :: x4 :: d :: l) 5 e = x0 :: x1 :: x2 :: x3 :: x4 :: e :: l := (rfl)
@[simp] theorem getL_6 {α : Type} {x0 x1 x2 x3 x4 x5 : α} {d : α} {l : List α} : (x0 :: x1 :: x2 :: x3 :: x4 :: x5 :: d :: l)[6]? = some d := (rfl)
@[simp] theorem setL_6 {α : Type} {x0 x1 x2 x3 x4 x5 : α} {d e : α} {l : List α} : List.set (x0 :: x1 :: x2 :: x3 :: x4 :: x5 :: d :: l) 6 e = x0 :: x1 :: x2 :: x3 :: x4 :: x5 :: e :: l := (rfl)
@[simp] theorem getL_7 {α : Type} {x0 x1 x2 x3 x4 x5 x6 : α} {d : α} {l : List α} : (x0 :: x1 :: x2 :: x3 :: x4 :: x5 :: x6 :: d :: l)[7]? = some d := (rfl)
@[simp] theorem setL_7 {α : Type} {x0 x1 x2 x3 x4 x5 x6 : α} {d e : α} {l : List α} : List.set (x0 :: x1 :: x2 :: x3 :: x4 :: x5 :: x6 :: d :: l) 7 e = x0 :: x1 :: x2 :: x3 :: x4 :: x5 :: x6 :: e :: l := (rfl)
@[simp] theorem getL_8 {α : Type} {x0 x1 x2 x3 x4 x5 x6 x7 : α} {d : α} {l : List α} : (x0 :: x1 :: x2 :: x3 :: x4 :: x5 :: x6 :: x7 :: d :: l)[8]? = some d := (rfl)
@[simp] theorem setL_8 {α : Type} {x0 x1 x2 x3 x4 x5 x6 x7 : α} {d e : α} {l : List α} : List.set (x0 :: x1 :: x2 :: x3 :: x4 :: x5 :: x6 :: x7 :: d :: l) 8 e = x0 :: x1 :: x2 :: x3 :: x4 :: x5 :: x6 :: x7 :: e :: l := (rfl)
@[simp] theorem getL_9 {α : Type} {x0 x1 x2 x3 x4 x5 x6 x7 x8 : α} {d : α} {l : List α} : (x0 :: x1 :: x2 :: x3 :: x4 :: x5 :: x6 :: x7 :: x8 :: d :: l)[9]? = some d := (rfl)
@[simp] theorem setL_9 {α : Type} {x0 x1 x2 x3 x4 x5 x6 x7 x8 : α} {d e : α} {l : List α} : List.set (x0 :: x1 :: x2 :: x3 :: x4 :: x5 :: x6 :: x7 :: x8 :: d :: l) 9 e = x0 :: x1 :: x2 :: x3 :: x4 :: x5 :: x6 :: x7 :: x8 :: e :: l := (rfl)
@[simp] theorem getL_10 {α : Type} {x0 x1 x2 x3 x4 x5 x6 x7 x8 x9 : α} {d : α} {l : List α} : (x0 :: x1 :: x2 :: x3 :: x4 :: x5 :: x6 :: x7 :: x8 :: x9 :: d :: l)[10]? = some d := (rfl)
@[simp] theorem setL_10 {α : Type} {x0 x1 x2 x3 x4 x5 x6 x7 x8 x9 : α} {d e : α} {l : List α} : List.set (x0 :: x1 :: x2 :: x3 :: x4 :: x5 :: x6 :: x7 :: x8 :: x9 :: d :: l) 10 e = x0 :: x1 :: x2 :: x3 :: x4 :: x5 :: x6 :: x7 :: x8 :: x9 :: e :: l := (rfl)
@[simp] theorem getL_11 {α : Type} {x0 x1 x2 x3 x4 x5 x6 x7 x8 x9 x10 : α} {d : α} {l : List α} : (x0 :: x1 :: x2 :: x3 :: x4 :: x5 :: x6 :: x7 :: x8 :: x9 :: x10 :: d :: l)[11]? = some d := (rfl)
@[simp] theorem setL_11 {α : Type} {x0 x1 x2 x3 x4 x5 x6 x7 x8 x9 x10 : α} {d e : α} {l : List α} : List.set (x0 :: x1 :: x2 :: x3 :: x4 :: x5 :: x6 :: x7 :: x8 :: x9 :: x10 :: d :: l) 11 e = x0 :: x1 :: x2 :: x3 :: x4 :: x5 :: x6 :: x7 :: x8 :: x9 :: x10 :: e :: l := (rfl)
@[simp] theorem getL_12 {α : Type} {x0 x1 x2 x3 x4 x5 x6 x7 x8 x9 x10 x11 : α} {d : α} {l : List α} : (x0 :: x1 :: x2 :: x3 :: x4 :: x5 :: x6 :: x7 :: x8 :: x9 :: x10 :: x11 :: d :: l)[12]? = some d := (rfl)
@[simp] theorem setL_12 {α : Type} {x0 x1 x2 x3 x4 x5 x6 x7 x8 x9 x10 x11 : α} {d e : α} {l : List α} : List.set (x0 :: x1 :: x2 :: x3 :: x4 :: x5 :: x6 :: x7 :: x8 :: x9 :: x10 :: x11 :: d :: l) 12 e = x0 :: x1 :: x2 :: x3 :: x4 :: x5 :: x6 :: x7 :: x8 :: x9 :: x10 :: x11 :: e :: l := (rfl)
@[simp] theorem getL_13 {α : Type} {x0 x1 x2 x3 x4 x5 x6 x7 x8 x9 x10 x11 x12 : α} {d : α} {l : List α} : (x0 :: x1 :: x2 :: x3 :: x4 :: x5 :: x6 :: x7 :: x8 :: x9 :: x10 :: x11 :: x12 :: d :: l)[13]? = some d := (rfl)
@[simp] theorem setL_13 {α : Type} {x0 x1 x2 x3 x4 x5 x6 x7 x8 x9 x10 x11 x12 : α} {d e : α} {l : List α} : List.set (x0 :: x1 :: x2 :: x3 :: x4 :: x5 :: x6 :: x7 :: x8 :: x9 :: x10 :: x11 :: x12 :: d :: l) 13 e = x0 :: x1 :: x2 :: x3 :: x4 :: x5 :: x6 :: x7 :: x8 :: x9 :: x10 :: x11 :: x12 :: e :: l := (rfl)
@[simp] theorem getL_14 {α : Type} {x0 x1 x2 x3 x4 x5 x6 x7 x8 x9 x10 x11 x12 x13 : α} {d : α} {l : List α} : (x0 :: x1 :: x2 :: x3 :: x4 :: x5 :: x6 :: x7 :: x8 :: x9 :: x10 :: x11 :: x12 :: x13 :: d :: l)[14]? = some d := (rfl)
@[simp] theorem setL_14 {α : Type} {x0 x1 x2 x3 x4 x5 x6 x7 x8 x9 x10 x11 x12 x13 : α} {d e : α} {l : List α} : List.set (x0 :: x1 :: x2 :: x3 :: x4 :: x5 :: x6 :: x7 :: x8 :: x9 :: x10 :: x11 :: x12 :: x13 :: d :: l) 14 e = x0 :: x1 :: x2 :: x3 :: x4 :: x5 :: x6 :: x7 :: x8 :: x9 :: x10 :: x11 :: x12 :: x13 :: e :: l := (rfl)
@[simp] theorem getL_15 {α : Type} {x0 x1 x2 x3 x4 x5 x6 x7 x8 x9 x10 x11 x12 x13 x14 : α} {d : α} {l : List α} : (x0 :: x1 :: x2 :: x3 :: x4 :: x5 :: x6 :: x7 :: x8 :: x9 :: x10 :: x11 :: x12 :: x13 :: x14 :: d :: l)[15]? = some d := (rfl)
@[simp] theorem setL_15 {α : Type} {x0 x1 x2 x3 x4 x5 x6 x7 x8 x9 x10 x11 x12 x13 x14 : α} {d e : α} {l : List α} : List.set (x0 :: x1 :: x2 :: x3 :: x4 :: x5 :: x6 :: x7 :: x8 :: x9 :: x10 :: x11 :: x12 :: x13 :: x14 :: d :: l) 15 e = x0 :: x1 :: x2 :: x3 :: x4 :: x5 :: x6 :: x7 :: x8 :: x9 :: x10 :: x11 :: x12 :: x13 :: x14 :: e :: l := (rfl)
@[simp] theorem getL_16 {α : Type} {x0 x1 x2 x3 x4 x5 x6 x7 x8 x9 x10 x11 x12 x13 x14 x15 : α} {d : α} {l : List α} : (x0 :: x1 :: x2 :: x3 :: x4 :: x5 :: x6 :: x7 :: x8 :: x9 :: x10 :: x11 :: x12 :: x13 :: x14 :: x15 :: d :: l)[16]? = some d := (rfl)
@[simp] theorem setL_16 {α : Type} {x0 x1 x2 x3 x4 x5 x6 x7 x8 x9 x10 x11 x12 x13 x14 x15 : α} {d e : α} {l : List α} : List.set (x0 :: x1 :: x2 :: x3 :: x4 :: x5 :: x6 :: x7 :: x8 :: x9 :: x10 :: x11 :: x12 :: x13 :: x14 :: x15 :: d :: l) 16 e = x0 :: x1 :: x2 :: x3 :: x4 :: x5 :: x6 :: x7 :: x8 :: x9 :: x10 :: x11 :: x12 :: x13 :: x14 :: x15 :: e :: l := (rfl)
@[simp] theorem getL_17 {α : Type} {x0 x1 x2 x3 x4 x5 x6 x7 x8 x9 x10 x11 x12 x13 x14 x15 x16 : α} {d : α} {l : List α} : (x0 :: x1 :: x2 :: x3 :: x4 :: x5 :: x6 :: x7 :: x8 :: x9 :: x10 :: x11 :: x12 :: x13 :: x14 :: x15 :: x16 :: d :: l)[17]? = some d := (rfl)
@[simp] theorem setL_17 {α : Type} {x0 x1 x2 x3 x4 x5 x6 x7 x8 x9 x10 x11 x12 x13 x14 x15 x16 : α} {d e : α} {l : List α} : List.set (x0 :: x1 :: x2 :: x3 :: x4 :: x5 :: x6 :: x7 :: x8 :: x9 :: x10 :: x11 :: x12 :: x13 :: x14 :: x15 :: x16 :: d :: l) 17 e = x0 :: x1 :: x2 :: x3 :: x4 :: x5 :: x6 :: x7 :: x8 :: x9 :: x10 :: x11 :: x12 :: x13 :: x14 :: x15 :: x16 :: e :: l := (rfl)
@[simp] theorem getL_18 {α : Type} {x0 x1 x2 x3 x4 x5 x6 x7 x8 x9 x10 x11 x12 x13 x14 x15 x16 x17 : α} {d : α} {l : List α} : (x0 :: x1 :: x2 :: x3 :: x4 :: x5 :: x6 :: x7 :: x8 :: x9 :: x10 :: x11 :: x12 :: x13 :: x14 :: x15 :: x16 :: x17 :: d :: l)[18]? = some d := (rfl)
@[simp] theorem setL_18 {α : Type} {x0 x1 x2 x3 x4 x5 x6 x7 x8 x9 x10 x11 x12 x13 x14 x15 x16 x17 : α} {d e : α} {l : List α} : List.set (x0 :: x1 :: x2 :: x3 :: x4 :: x5 :: x6 :: x7 :: x8 :: x9 :: x10 :: x11 :: x12 :: x13 :: x14 :: x15 :: x16 :: x17 :: d :: l) 18 e = x0 :: x1 :: x2 :: x3 :: x4 :: x5 :: x6 :: x7 :: x8 :: x9 :: x10 :: x11 :: x12 :: x13 :: x14 :: x15 :: x16 :: x17 :: e :: l := (rfl)
@[simp] theorem getL_19 {α : Type} {x0 x1 x2 x3 x4 x5 x6 x7 x8 x9 x10 x11 x12 x13 x14 x15 x16 x17 x18 : α} {d : α} {l : List α} : (x0 :: x1 :: x2 :: x3 :: x4 :: x5 :: x6 :: x7 :: x8 :: x9 :: x10 :: x11 :: x12 :: x13 :: x14 :: x15 :: x16 :: x17 :: x18 :: d :: l)[19]? = some d := (rfl)
@[simp] theorem setL_19 {α : Type} {x0 x1 x2 x3 x4 x5 x6 x7 x8 x9 x10 x11 x12 x13 x14 x15 x16 x17 x18 : α} {d e : α} {l : List α} : List.set (x0 :: x1 :: x2 :: x3 :: x4 :: x5 :: x6 :: x7 :: x8 :: x9 :: x10 :: x11 :: x12 :: x13 :: x14 :: x15 :: x16 :: x17 :: x18 :: d :: l) 19 e = x0 :: x1 :: x2 :: x3 :: x4 :: x5 :: x6 :: x7 :: x8 :: x9 :: x10 :: x11 :: x12 :: x13 :: x14 :: x15 :: x16 :: x17 :: x18 :: e :: l := (rfl)
@[simp] theorem getL_20 {α : Type} {x0 x1 x2 x3 x4 x5 x6 x7 x8 x9 x10 x11 x12 x13 x14 x15 x16 x17 x18 x19 : α} {d : α} {l : List α} : (x0 :: x1 :: x2 :: x3 :: x4 :: x5 :: x6 :: x7 :: x8 :: x9 :: x10 :: x11 :: x12 :: x13 :: x14 :: x15 :: x16 :: x17 :: x18 :: x19 :: d :: l)[20]? = some d := (rfl)
@[simp] theorem setL_20 {α : Type} {x0 x1 x2 x3 x4 x5 x6 x7 x8 x9 x10 x11 x12 x13 x14 x15 x16 x17 x18 x19 : α} {d e : α} {l : List α} : List.set (x0 :: x1 :: x2 :: x3 :: x4 :: x5 :: x6 :: x7 :: x8 :: x9 :: x10 :: x11 :: x12 :: x13 :: x14 :: x15 :: x16 :: x17 :: x18 :: x19 :: d :: l) 20 e = x0 :: x1 :: x2 :: x3 :: x4 :: x5 :: x6 :: x7 :: x8 :: x9 :: x10 :: x11 :: x12 :: x13 :: x14 :: x15 :: x16 :: x17 :: x18 :: x19 :: e :: l := (rfl)
@[simp] theorem getL_21 {α : Type} {x0 x1 x2 x3 x4 x5 x6 x7 x8 x9 x10 x11 x12 x13 x14 x15 x16 x17 x18 x19 x20 : α} {d : α} {l : List α} : (x0 :: x1 :: x2 :: x3 :: x4 :: x5 :: x6 :: x7 :: x8 :: x9 :: x10 :: x11 :: x12 :: x13 :: x14 :: x15 :: x16 :: x17 :: x18 :: x19 :: x20 :: d :: l)[21]? = some d := (rfl)
@[simp] theorem setL_21 {α : Type} {x0 x1 x2 x3 x4 x5 x6 x7 x8 x9 x10 x11 x12 x13 x14 x15 x16 x17 x18 x19 x20 : α} {d e : α} {l : List α} : List.set (x0 :: x1 :: x2 :: x3 :: x4 :: x5 :: x6 :: x7 :: x8 :: x9 :: x10 :: x11 :: x12 :: x13 :: x14 :: x15 :: x16 :: x17 :: x18 :: x19 :: x20 :: d :: l) 21 e = x0 :: x1 :: x2 :: x3 :: x4 :: x5 :: x6 :: x7 :: x8 :: x9 :: x10 :: x11 :: x12 :: x13 :: x14 :: x15 :: x16 :: x17 :: x18 :: x19 :: x20 :: e :: l := (rfl)
@[simp] theorem getL_22 {α : Type} {x0 x1 x2 x3 x4 x5 x6 x7 x8 x9 x10 x11 x12 x13 x14 x15 x16 x17 x18 x19 x20 x21 : α} {d : α} {l : List α} : (x0 :: x1 :: x2 :: x3 :: x4 :: x5 :: x6 :: x7 :: x8 :: x9 :: x10 :: x11 :: x12 :: x13 :: x14 :: x15 :: x16 :: x17 :: x18 :: x19 :: x20 :: x21 :: d :: l)[22]? = some d := (rfl)
@[simp] theorem setL_22 {α : Type} {x0 x1 x2 x3 x4 x5 x6 x7 x8 x9 x10 x11 x12 x13 x14 x15 x16 x17 x18 x19 x20 x21 : α} {d e : α} {l : List α} : List.set (x0 :: x1 :: x2 :: x3 :: x4 :: x5 :: x6 :: x7 :: x8 :: x9 :: x10 :: x11 :: x12 :: x13 :: x14 :: x15 :: x16 :: x17 :: x18 :: x19 :: x20 :: x21 :: d :: l) 22 e = x0 :: x1 :: x2 :: x3 :: x4 :: x5 :: x6 :: x7 :: x8 :: x9 :: x10 :: x11 :: x12 :: x13 :: x14 :: x15 :: x16 :: x17 :: x18 :: x19 :: x20 :: x21 :: e :: l := (rfl)
@[simp] theorem getL_23 {α : Type} {x0 x1 x2 x3 x4 x5 x6 x7 x8 x9 x10 x11 x12 x13 x14 x15 x16 x17 x18 x19 x20 x21 x22 : α} {d : α} {l : List α} : (x0 :: x1 :: x2 :: x3 :: x4 :: x5 :: x6 :: x7 :: x8 :: x9 :: x10 :: x11 :: x12 :: x13 :: x14 :: x15 :: x16 :: x17 :: x18 :: x19 :: x20 :: x21 :: x22 :: d :: l)[23]? = some d := (rfl)
@[simp] theorem setL_23 {α : Type} {x0 x1 x2 x3 x4 x5 x6 x7 x8 x9 x10 x11 x12 x13 x14 x15 x16 x17 x18 x19 x20 x21 x22 : α} {d e : α} {l : List α} : List.set (x0 :: x1 :: x2 :: x3 :: x4 :: x5 :: x6 :: x7 :: x8 :: x9 :: x10 :: x11 :: x12 :: x13 :: x14 :: x15 :: x16 :: x17 :: x18 :: x19 :: x20 :: x21 :: x22 :: d :: l) 23 e = x0 :: x1 :: x2 :: x3 :: x4 :: x5 :: x6 :: x7 :: x8 :: x9 :: x10 :: x11 :: x12 :: x13 :: x14 :: x15 :: x16 :: x17 :: x18 :: x19 :: x20 :: x21 :: x22 :: e :: l := (rfl)
/-! operations on ints -/
@[simp] theorem add_ii (i j : Int) : addA (.int i) (.int j) = some (.int (i + j)) := (rfl)
@[simp] theorem addI_ii (i j : Int) : addI (.int i) (.int j) = some (.int (i + j)) := (rfl)
@[simp] theorem sub_ii (i j : Int) : subD (.int i) (.int j) = some (.int (i - j)) := (rfl)
@[simp] theorem cmp_ii (p : Int → Int → Bool) (i j : Int) : cmpI p (.int i) (.int j) = some (.bl (p i j)) := (rfl)
@[simp] theorem neg_i (i : Int) : negD (.int i) = some (.int (-i)) := (rfl)
@[simp] theorem tru_bl (b : Bool) : tru (.bl b) = some b := (rfl)
@[simp] theorem tru_non : tru .non = some false := (rfl)
@[simp] theorem isNon_i (i : Int) : isNon (.int i) = false := (rfl)
@[simp] theorem isNon_n : isNon .non = true := (rfl)
@[simp] theorem isNon_b (b : Bool) : isNon (.bl b) = false := (rfl)
@[simp] theorem isNon_s (b : Str) : isNon (.str b) = false := (rfl)
@[simp] theorem isNon_t (b : List D) : isNon (.tup b) = false := (rfl)
@[simp] theorem isNon_l (b : List D) : isNon (.lst b) = false := (rfl)
@[simp] theorem int_i (i : Int) : intD (.int i) = some (.int i) := (rfl)
@[simp] theorem len_l (l : List D) : lenD (.lst l) = some (.int l.length) := (rfl)
@[simp] theorem len_t (l : List D) : lenD (.tup l) = some (.int l.length) := (rfl)
@[simp] theorem isi_i (t : Tg) (i : Int) : isiD t (.int i) = some (.bl (isiT .int t)) := (rfl)
@[simp] theorem isi_b (t : Tg) (i : Bool) : isiD t (.bl i) = some (.bl (isiT .bl t)) := (rfl)
@[simp] theorem isi_n (t : Tg) : isiD t .non = some (.bl (isiT .non t)) := (rfl)
@[simp] theorem isi_s (t : Tg) (i : Str) : isiD t (.str i) = some (.bl (isiT .str t)) := (rfl)
@[simp] theorem isi_t (t : Tg) (i : List D) : isiD t (.tup i) = some (.bl (isiT .tup t)) := (rfl)
@[simp] theorem isi_l (t : Tg) (i : List D) : isiD t (.lst i) = some (.bl (isiT .lst t)) := (rfl)
@[simp] theorem isiT_eq (a b : Tg) : isiT a b = (match a, b with
  | .bl, .int => true
  | a, b => decide (a = b)) := by cases a <;> cases b <;> rfl
@[simp] theorem rev_l (l : List D) : revD (.lst l) = some (.lst l.reverse) := (rfl)
@[simp] theorem tuple_l (l : List D) : tupleD (.lst l) = some (.tup l) := (rfl)
@[simp] theorem tuple_t (l : List D) : tupleD (.tup l) = some (.tup l) := (rfl)
@[simp] theorem list_l (l : List D) : listD (.lst l) = some (.lst l) := (rfl)
@[simp] theorem list_t (l : List D) : listD (.tup l) = some (.lst l) := (rfl)
theorem add_ll {a b : List D} (h : a.length + b.length ≤ 16777216) : addA (.lst a) (.lst b) = some (.lst (a ++ b)) := if_pos h
theorem addL_ll {a b : List D} (h : a.length + b.length ≤ 16777216) : addL (.lst a) (.lst b) = some (.lst (a ++ b)) := if_pos h
theorem add_tt {a b : List D} (h : a.length + b.length ≤ 16777216) : addA (.tup a) (.tup b) = some (.tup (a ++ b)) := if_pos h
@[simp] theorem abs_i (i : Int) : absD (.int i) = some (.int (if i < 0 then -i else i)) := (rfl)
@[simp] theorem eq_ii (i j : Int) : eqD (.int i) (.int j) = some (.bl (decide (i = j))) := by
  have h : ∀ i : Int, SeqAt.shaped (.int i) = true := fun i => rfl
  simp only [eqD, pd, h, and_self, if_true]
  rfl
@[simp] theorem ne_ii (i j : Int) : neD (.int i) (.int j) = some (.bl (!decide (i = j))) := by
  have h : ∀ i : Int, SeqAt.shaped (.int i) = true := fun i => rfl
  simp only [neD, pd, h, and_self, if_true]
  rfl
@[simp] theorem mod_ii {i j : Int} (h : 0 < j) : modD (.int i) (.int j) = some (.int (i % j)) := if_pos h
@[simp] theorem div_ii {i j : Int} (h : 0 < j) (h2 : j < 18446744073709551616) : fdivD (.int i) (.int j) = some (.int (i / j)) := if_pos ⟨h, .inl h2⟩
theorem mul_ii {i j : Int} (h : MulOk i j) : mulD (.int i) (.int j) = some (.int (i * j)) := if_pos h
@[simp] theorem mul_l {i j : Int} (h : -18446744073709551616 < i) (h2 : i < 18446744073709551616) : mulD (.int i) (.int j) = some (.int (i * j)) := if_pos (.inl ⟨h, h2⟩)
theorem mul_r {i j : Int} (h : -18446744073709551616 < j) (h2 : j < 18446744073709551616) : mulD (.int i) (.int j) = some (.int (i * j)) := if_pos (.inr (.inl ⟨h, h2⟩))
@[simp] theorem is_n (d : D) : isD d .non = some (.bl (isNon d)) := by cases d <;> rfl
@[simp] theorem isnot_n (d : D) : isnotD d .non = some (.bl (!isNon d)) := by cases d <;> rfl
end DL
namespace DL
open PySem PySem.Spec PyProof.Rows L2
/-- a def's end -/
def toF (P : List Nat) (ro : Bool) : SE → FR
  | .nx Γ => if ro = true then .no else .rt .non (outs P Γ)
  | .rt d Γ => .rt d (outs P Γ)
  | .ex x Γ => .ex x (outs P Γ)
  | _ => .no
@[simp] theorem mFn_eq {n : Nat} {P : List Nat} {ro : Bool} {m : Gm → SE} {ds : List D} : mFn n P ro m ds = toF P ro (m (g0 n ds)) := by
  unfold mFn toF
  cases m (g0 n ds) <;> rfl
@[simp] theorem toF_rt {P : List Nat} {ro : Bool} {d : D} {Γ : Gm} : toF P ro (.rt d Γ) = .rt d (outs P Γ) := (rfl)
@[simp] theorem toF_ex {P : List Nat} {ro : Bool} {x : Xd} {Γ : Gm} : toF P ro (.ex x Γ) = .ex x (outs P Γ) := (rfl)
@[simp] theorem toF_nx {P : List Nat} {Γ : Gm} : toF P false (.nx Γ) = .rt .non (outs P Γ) := (rfl)
@[simp] theorem toF_ite {P : List Nat} {ro : Bool} {c : Prop} [Decidable c] (a b : SE) : toF P ro (if c then a else b) = if c then toF P ro a else toF P ro b := by split <;> rfl
@[simp] theorem ix_l (xs : List D) (i : Int) : ixD (.lst xs) (.int i) = atI xs i := (rfl)
@[simp] theorem ix_t (xs : List D) (i : Int) : ixD (.tup xs) (.int i) = atI xs i := (rfl)
theorem atI_nat {xs : List D} {i : Nat} {d : D} (h : xs[i]? = some d) : atI xs (i : Int) = some d := by
  have hl : i < xs.length := (List.getElem?_eq_some_iff.mp h).1
  unfold atI ixN
  rw [if_pos (by omega), if_pos (by omega)]
  simpa using h
theorem atI_of {xs : List D} {i : Int} {d : D} (h0 : 0 ≤ i) (h : xs[i.toNat]? = some d) : atI xs i = some d := by
  obtain ⟨n, rfl⟩ := Int.eq_ofNat_of_zero_le h0
  exact atI_nat (by simpa using h)
@[simp] theorem atI_0 (a : D) (l : List D) : atI (a :: l) 0 = some a := atI_nat (i := 0) rfl
@[simp] theorem atI_1 (a b : D) (l : List D) : atI (a :: b :: l) 1 = some b := atI_nat (i := 1) rfl
@[simp] theorem atI_2 (a b c : D) (l : List D) : atI (a :: b :: c :: l) 2 = some c := atI_nat (i := 2) rfl
@[simp] theorem atI_3 (a b c d : D) (l : List D) : atI (a :: b :: c :: d :: l) 3 = some d := atI_nat (i := 3) rfl
@[simp] theorem ixN_0 (n : Nat) : ixN (n + 1) 0 = some 0 := by unfold ixN; rw [if_pos (by omega), if_pos (by omega)]; rfl
@[simp] theorem ixN_1 (n : Nat) : ixN (n + 2) 1 = some 1 := by unfold ixN; rw [if_pos (by omega), if_pos (by omega)]; rfl
@[simp] theorem ixN_2 (n : Nat) : ixN (n + 3) 2 = some 2 := by unfold ixN; rw [if_pos (by omega), if_pos (by omega)]; rfl
@[simp] theorem ixN_3 (n : Nat) : ixN (n + 4) 3 = some 3 := by unfold ixN; rw [if_pos (by omega), if_pos (by omega)]; rfl
/-- a for loop that goes on -/
theorem forD_fold {α σ : Type} {g : D → Gm → Option Gm} {body : Gm → SE} (f : σ → α → σ) (e : α → D) (enc : σ → Gm → Prop)
    (h : ∀ s a Γ, enc s Γ → ∃ Γ1 Γ2, g (e a) Γ = some Γ1 ∧ (body Γ1 = .nx Γ2 ∨ body Γ1 = .ct Γ2) ∧ enc (f s a) Γ2) : ∀ (l : List α) (s : σ) (Γ : Gm), enc s Γ → ∃ Γe, forD g body (l.map e) Γ = .nx Γe ∧ enc (l.foldl f s) Γe
  | [], s, Γ, q => ⟨Γ, rfl, q⟩
  | a :: l, s, Γ, q => by
    obtain ⟨Γ1, Γ2, h1, h2, h3⟩ := h s a Γ q
    obtain ⟨Γe, q1, q2⟩ := forD_fold f e enc h l (f s a) Γ2 h3
    refine ⟨Γe, ?_, q2⟩
    rw [List.map_cons, forD, h1]
    rcases h2 with h2 | h2 <;> simp only [h2, q1]
theorem pow_ii {i j : Int} (h : PowOk i j) : powD (.int i) (.int j) = some (.int (i ^ j.toNat)) := if_pos h
@[simp] theorem powOk_10_18 : powD (.int 10) (.int 18) = some (.int 1000000000000000000) := (pow_ii (by unfold PowOk two64; decide)).trans rfl
/-! ### the hand -/
def hD (cells : List Int) (i c t : Int) : D := .lst [.lst (cells.map .int), .int i, .int c, .int t]
structure HandOk (h : D) : Prop where
  ex : ∃ cells i c t, h = hD cells i c t ∧ 0 ≤ i ∧ i ≤ cells.length ∧ (∀ x ∈ cells, (0 : Int) ≤ x) ∧ 0 ≤ c ∧ 0 ≤ t ∧ t < 4294967296 ∧ cells.length ≤ 100
end DL
namespace DL
open PySem PySem.Spec PyProof.Rows L2
theorem forD_inv {g : D → Gm → Option Gm} {body : Gm → SE} : ∀ (l : List D) (I : Nat → Gm → Prop) (h : ∀ (i : Nat) d Γ, l[i]? = some d → I i Γ → ∃ Γ1 Γ2, g d Γ = some Γ1 ∧ (body Γ1 = .nx Γ2 ∨ body Γ1 = .ct Γ2) ∧ I (i + 1) Γ2) (Γ : Gm) (h0 : I 0 Γ),
    ∃ Γe, forD g body l Γ = .nx Γe ∧ I l.length Γe
  | [], I, h, Γ, h0 => ⟨Γ, rfl, h0⟩
  | d :: l, I, h, Γ, h0 => by
    obtain ⟨Γ1, Γ2, h1, h2, h3⟩ := h 0 d Γ rfl h0
    obtain ⟨Γe, q1, q2⟩ := forD_inv l (fun i => I (i + 1)) (fun i d Γ e q => h (i + 1) d Γ (by simpa using e) q) Γ2 h3
    refine ⟨Γe, ?_, q2⟩
    rw [forD, h1]
    rcases h2 with h2 | h2 <;> simp only [h2, q1]
end DL
namespace DL
open PySem PySem.Spec PyProof.Rows L2
section
variable {t : Gm → R Bool} {b : Gm → SE} {Γ Γ1 Γ2 : Gm}
theorem mWhile_step (ht : t Γ = .ok true Γ1) (hb : b Γ1 = .nx Γ2) : mWhile t b Γ = mWhile t b Γ2 := by rw [mWhile_turn, ht]; simp only [R.toS_ok, if_true, hb]
theorem mWhile_stop (ht : t Γ = .ok false Γ1) : mWhile t b Γ = .nx Γ1 := by rw [mWhile_turn, ht]; rfl
theorem mWhile_brk (ht : t Γ = .ok true Γ1) (hb : b Γ1 = .bk Γ2) : mWhile t b Γ = .nx Γ2 := by rw [mWhile_turn, ht]; simp only [R.toS_ok, if_true, hb]
theorem mWhile_rt {d : D} (ht : t Γ = .ok true Γ1) (hb : b Γ1 = .rt d Γ2) : mWhile t b Γ = .rt d Γ2 := by rw [mWhile_turn, ht]; simp only [R.toS_ok, if_true, hb]
variable {g : D → Gm → Option Gm} {d : D} {l : List D}
@[simp] theorem forD_nil : forD g b [] Γ = .nx Γ := (rfl)
theorem forD_cons (hg : g d Γ = some Γ1) (hb : b Γ1 = .nx Γ2) : forD g b (d :: l) Γ = forD g b l Γ2 := by rw [forD, hg]; simp only [hb]
theorem forD_cont (hg : g d Γ = some Γ1) (hb : b Γ1 = .ct Γ2) : forD g b (d :: l) Γ = forD g b l Γ2 := by rw [forD, hg]; simp only [hb]
theorem forD_brk (hg : g d Γ = some Γ1) (hb : b Γ1 = .bk Γ2) : forD g b (d :: l) Γ = .nx Γ2 := by rw [forD, hg]; simp only [hb]
theorem forD_rt {r : D} (hg : g d Γ = some Γ1) (hb : b Γ1 = .rt r Γ2) : forD g b (d :: l) Γ = .rt r Γ2 := by rw [forD, hg]; simp only [hb]
theorem forD_ex {x : Xd} (hg : g d Γ = some Γ1) (hb : b Γ1 = .ex x Γ2) : forD g b (d :: l) Γ = .ex x Γ2 := by rw [forD, hg]; simp only [hb]
end
theorem rangeD_zero {lo : Int} : rangeD lo 0 = [] := rfl
theorem rangeD_succ {lo : Int} {n : Nat} : rangeD lo (n + 1) = .int lo :: rangeD (lo + 1) n := by
  unfold rangeD
  rw [List.range_succ_eq_map, List.map_cons, List.map_map]
  congr 1
  · simp
  · apply List.map_congr_left
    intro k _
    simp only [Function.comp]
    congr 1
    omega
theorem rg1_nat {n : Nat} (h : n < 4611686018427387904) : rg1 (.int n) = some (rangeD 0 n) := by
  show (if -two62 ≤ (n : Int) ∧ (n : Int) < two62 then some (rangeD 0 (n : Int).toNat) else none) = _
  rw [if_pos (by unfold two62; omega)]; rfl
theorem rg2_ii {i j : Int} (h : -4611686018427387904 ≤ i) (h1 : i < 4611686018427387904) (h2 : -4611686018427387904 ≤ j) (h3 : j < 4611686018427387904) : rg2 (.int i) (.int j) = some (rangeD i (j - i).toNat) := if_pos ⟨h, h1, h2, h3⟩
theorem cle (a b n : Nat) : ((a:Int)*(b:Int) ≤ (n:Int)) = (a*b ≤ n) := by rw [← Int.natCast_mul]; exact propext Int.ofNat_le
theorem clt (a b n : Nat) : ((a:Int)*(b:Int) < (n:Int)) = (a*b < n) := by rw [← Int.natCast_mul]; exact propext Int.ofNat_lt
theorem cgt (a b n : Nat) : ((n:Int) < (a:Int)*(b:Int)) = (n < a*b) := by rw [← Int.natCast_mul]; exact propext Int.ofNat_lt
theorem cmod0 (a b : Nat) : ((a:Int) % (b:Int) = 0) = (a % b = 0) := by rw [← Int.natCast_emod]; exact propext (by omega)
theorem cmod1 (a b : Nat) : ((a:Int) % (b:Int) = 1) = (a % b = 1) := by rw [← Int.natCast_emod]; exact propext (by omega)
theorem cdv (a b : Nat) : ((a:Int) / (b:Int)) = ((a / b : Nat) : Int) := rfl
/-- numbers as data -/
def nats (l : List Nat) : List D := l.map fun (n : Nat) => D.int (n : Int)
@[simp] theorem nats_len (l : List Nat) : (nats l).length = l.length := by simp [nats]
theorem nats_app (a b : List Nat) : nats (a ++ b) = nats a ++ nats b := by simp [nats]
theorem nats_one (a : Nat) : nats [a] = [.int (a : Int)] := rfl
@[simp] theorem nats_nil : nats [] = [] := (rfl)
theorem nats_rev (a : List Nat) : (nats a).reverse = nats a.reverse := by simp [nats]
end DL
namespace DL
open PySem PySem.Spec PyProof.Rows L2
/-- a comprehension that changes nothing else -/
theorem lcD_fm {α : Type} {vs : List Nat} {g : D → Gm → Option Gm} {mt : Gm → R Bool} {me : Gm → R D} (e : α → D) (p : α → Bool) (h : α → D) (Γ0 : Gm) : ∀ (items : List α) (acc : List D),
    (∀ a ∈ items, ∃ Γ1 Γ2, g (e a) Γ0 = some Γ1 ∧ mt Γ1 = .ok (p a) Γ2 ∧ (p a = true → ∃ Γ3, me Γ2 = .ok (h a) Γ3 ∧ wipeG Γ3 vs = Γ0) ∧ (p a = false → wipeG Γ2 vs = Γ0)) → acc.length + items.length ≤ 16777216 →
    lcD vs g mt me (items.map e) acc Γ0 = some (acc ++ (items.filter p).map h, Γ0)
  | [], acc, _, _ => by simp [lcD]
  | a :: l, acc, hh, hl => by
    obtain ⟨Γ1, Γ2, h1, h2, h3, h4⟩ := hh a (List.mem_cons_self ..)
    rw [List.map_cons, lcD, h1]
    simp only [h2]
    cases c : p a with
    | true =>
      obtain ⟨Γ3, h5, h6⟩ := h3 c
      simp only [h5]
      rw [if_pos (by simp at hl; omega), h6, lcD_fm e p h Γ0 l (acc ++ [h a]) (fun b hb => hh b (List.mem_cons_of_mem _ hb)) (by simp at hl ⊢; omega), List.filter_cons_of_pos c, List.map_cons, List.append_assoc]
      rfl
    | false =>
      show lcD vs g mt me (List.map e l) acc (wipeG Γ2 vs) = _
      rw [h4 c, lcD_fm e p h Γ0 l acc (fun b hb => hh b (List.mem_cons_of_mem _ hb)) (by simp at hl ⊢; omega), List.filter_cons_of_neg (by rw [c]; exact Bool.false_ne_true)]
theorem lcD_map {α : Type} {vs : List Nat} {g : D → Gm → Option Gm} {me : Gm → R D} (e : α → D) (h : α → D) (Γ0 : Gm) (items : List α) (hh : ∀ a ∈ items, ∃ Γ1 Γ3, g (e a) Γ0 = some Γ1 ∧ me Γ1 = .ok (h a) Γ3 ∧ wipeG Γ3 vs = Γ0) (hl : items.length ≤ 16777216) :
    lcD vs g mYes me (items.map e) [] Γ0 = some (items.map h, Γ0) := by
  have := lcD_fm (vs := vs) (g := g) (mt := mYes) (me := me) e (fun _ => true) h Γ0 items [] (fun a ha => by
    obtain ⟨Γ1, Γ3, h1, h2, h3⟩ := hh a ha
    exact ⟨Γ1, Γ1, h1, rfl, fun _ => ⟨Γ3, h2, h3⟩, fun z => nomatch z⟩) (by simpa using hl)
  rw [this, List.filter_eq_self.mpr fun _ _ => rfl]
  rfl
/-- a comprehension's end -/
def lcR (vs : List Nat) (Γ1 : Gm) : Option (List D × Gm) → R D
  | some (ds, Γe) => .ok (.lst ds) (restG vs Γ1 Γe)
  | none => .no
@[simp] theorem lcR_some {vs : List Nat} {Γ1 Γe : Gm} {ds : List D} : lcR vs Γ1 (some (ds, Γe)) = .ok (.lst ds) (restG vs Γ1 Γe) := (rfl)
@[simp] theorem mLc_ap {vs : List Nat} {mi : Gm → R (List D)} {g : D → Gm → Option Gm} {mt : Gm → R Bool} {me : Gm → R D} {Γ : Gm} : mLc vs mi g mt me Γ = (mi Γ).bind fun items Γ1 => lcR vs Γ1 (lcD vs g mt me items [] (wipeG Γ1 vs)) := by
  unfold mLc lcR
  cases mi Γ with
  | ok items Γ1 => rfl
  | ex x Γ1 => rfl
  | no => rfl
theorem rangeD_eq {lo : Int} {n : Nat} : rangeD lo n = (List.range n).map fun k : Nat => D.int (lo + (k : Nat)) := rfl
theorem ints_map : ∀ l : List Int, intsD (l.map D.int) = some l
  | [] => rfl
  | i :: l => by simp [intsD, ints_map l]
theorem sum_l (l : List Int) : sumD (.lst (l.map D.int)) = some (.int l.sum) := by simp [sumD, ints_map]
theorem sum_t (l : List Int) : sumD (.tup (l.map D.int)) = some (.int l.sum) := by simp [sumD, ints_map]
/-- sums over a list -/
def sumN {α : Type} (f : α → Int) : List α → Int
  | [] => 0
  | d :: l => f d + sumN f l
theorem sumN_map {α : Type} (f : α → Int) : ∀ l : List α, (l.map f).sum = sumN f l
  | [] => rfl
  | a :: l => by rw [List.map_cons, List.sum_cons, sumN_map f l]; rfl
theorem sumN_perm {α : Type} {f : α → Int} {l1 l2 : List α} (h : l1.Perm l2) : sumN f l1 = sumN f l2 := by
  induction h with
  | nil => rfl
  | cons a _ ih => simp only [sumN, ih]
  | swap a b l => simp only [sumN]; omega
  | trans _ _ a b => exact a.trans b
theorem sumN_congr {α : Type} {f g : α → Int} : ∀ {l : List α}, (∀ a ∈ l, f a = g a) → sumN f l = sumN g l
  | [], _ => rfl
  | a :: l, h => by simp only [sumN]; rw [h a (List.mem_cons_self ..), sumN_congr fun b hb => h b (List.mem_cons_of_mem _ hb)]
/-- by places -/
theorem sumN_ix {f : Nat → Int} {q : Nat → Bool} : ∀ ds : List Nat, sumN (fun k => f (ds.getD k 0)) ((List.range ds.length).filter fun k => q (ds.getD k 0)) = sumN f (ds.filter q)
  | [] => rfl
  | d :: l => by
    have ih := sumN_ix (f := f) (q := q) l
    have key : sumN (fun k => f ((d :: l).getD k 0)) (((List.range l.length).map Nat.succ).filter fun k => q ((d :: l).getD k 0)) = sumN f (l.filter q) := by
      rw [← ih, List.filter_map]
      generalize hL : List.filter ((fun k => q ((d :: l).getD k 0)) ∘ Nat.succ) (List.range l.length) = L
      have hL2 : List.filter (fun k => q (l.getD k 0)) (List.range l.length) = L := by
        rw [← hL]
        congr 1
      rw [hL2]
      clear hL hL2 ih
      induction L with
      | nil => rfl
      | cons a L ih => simp only [List.map_cons, sumN, ih]; rfl
    rw [List.length_cons, List.range_succ_eq_map, List.filter_cons, List.filter_cons]
    cases c : q d with
    | true =>
      have : q ((d :: l).getD 0 0) = true := c
      rw [if_pos this, if_pos rfl]
      simp only [sumN]
      rw [key]
      rfl
    | false =>
      have : ¬ q ((d :: l).getD 0 0) = true := by show ¬ q d = true; rw [c]; exact Bool.false_ne_true
      rw [if_neg this, if_neg Bool.false_ne_true]
      exact key
end DL
namespace DL
open PySem PySem.Spec PyProof.Rows L2
@[simp] theorem atI_4 (x0 x1 x2 x3 x4 : D) (l : List D) : atI (x0 :: x1 :: x2 :: x3 :: x4 :: l) 4 = some x4 := atI_nat (i := 4) rfl
@[simp] theorem atI_5 (x0 x1 x2 x3 x4 x5 : D) (l : List D) : atI (x0 :: x1 :: x2 :: x3 :: x4 :: x5 :: l) 5 = some x5 := atI_nat (i := 5) rfl
@[simp] theorem atI_6 (x0 x1 x2 x3 x4 x5 x6 : D) (l : List D) : atI (x0 :: x1 :: x2 :: x3 :: x4 :: x5 :: x6 :: l) 6 = some x6 := atI_nat (i := 6) rfl
@[simp] theorem atI_7 (x0 x1 x2 x3 x4 x5 x6 x7 : D) (l : List D) : atI (x0 :: x1 :: x2 :: x3 :: x4 :: x5 :: x6 :: x7 :: l) 7 = some x7 := atI_nat (i := 7) rfl
theorem atI_get {l : List D} {i : Int} (h0 : 0 ≤ i) (h : i < l.length) : ∃ d ∈ l, atI l i = some d := by
  have hl : i.toNat < l.length := by omega
  exact ⟨l[i.toNat], List.getElem_mem hl, atI_of h0 (List.getElem?_eq_getElem hl)⟩
theorem atI_last {l : List D} (h : l ≠ []) : ∃ d ∈ l, atI l (-1) = some d := by
  have hl : 0 < l.length := List.length_pos_iff.mpr h
  refine ⟨l[l.length - 1], List.getElem_mem _, ?_⟩
  unfold atI ixN
  rw [if_neg (by omega), if_pos (by omega)]
  show l[((-1 : Int) + (l.length : Int)).toNat]? = _
  rw [show ((-1 : Int) + (l.length : Int)).toNat = l.length - 1 by omega]
  exact List.getElem?_eq_getElem _
theorem nats_mem {l : List Nat} {d : D} (h : d ∈ nats l) : ∃ m ∈ l, d = .int (m : Int) := by
  unfold nats at h
  obtain ⟨m, hm, e⟩ := List.mem_map.mp h
  exact ⟨m, hm, e.symm⟩
theorem natsI {l : List Nat} {k : Nat} (h : k < l.length) : atI (nats l) (k : Int) = some (.int (l.getD k 0 : Nat)) := by
  apply atI_nat
  unfold nats
  rw [List.getElem?_map, List.getElem?_eq_getElem h, List.getD_eq_getElem?_getD, List.getElem?_eq_getElem h]
  rfl
theorem mapI {α : Type} {l : List α} {f : α → D} {k : Nat} (a : α) (h : k < l.length) : atI (l.map f) (k : Int) = some (f (l.getD k a)) := by
  apply atI_nat
  rw [List.getElem?_map, List.getElem?_eq_getElem h, List.getD_eq_getElem?_getD, List.getElem?_eq_getElem h]
  rfl
end DL
namespace DL
open PySem PySem.Spec PyProof.Rows L2
/-- one name, the rest as it was -/
theorem comp_fm {α : Type} (Γ0 : Gm) (i : Nat) {mt : Gm → R Bool} {me : Gm → R D} (e : α → D) (p : α → Bool) (h : α → D) (items : List α) (hw : ∀ d : D, wipeG (Γ0.set i (some d)) [i] = Γ0)
    (hh : ∀ a ∈ items, mt (Γ0.set i (some (e a))) = .ok (p a) (Γ0.set i (some (e a))) ∧ (p a = true → me (Γ0.set i (some (e a))) = .ok (h a) (Γ0.set i (some (e a))))) (hl : items.length ≤ 16777216) :
    lcD [i] (gN i) mt me (items.map e) [] Γ0 = some ((items.filter p).map h, Γ0) := by
  have := lcD_fm (vs := [i]) (g := gN i) (mt := mt) (me := me) e p h Γ0 items [] (fun a ha => ⟨Γ0.set i (some (e a)), Γ0.set i (some (e a)), rfl, (hh a ha).1, fun c => ⟨_, (hh a ha).2 c, hw _⟩, fun _ => hw _⟩) (by simpa using hl)
  simpa using this
theorem comp_map {α : Type} (Γ0 : Gm) (i : Nat) {me : Gm → R D} (e : α → D) (h : α → D) (items : List α) (hw : ∀ d : D, wipeG (Γ0.set i (some d)) [i] = Γ0)
    (hh : ∀ a ∈ items, me (Γ0.set i (some (e a))) = .ok (h a) (Γ0.set i (some (e a)))) (hl : items.length ≤ 16777216) :
    lcD [i] (gN i) mYes me (items.map e) [] Γ0 = some (items.map h, Γ0) :=
  lcD_map e h Γ0 items (fun a ha => ⟨_, _, rfl, hh a ha, hw _⟩) hl
/-- a loop that keeps something -/
theorem forD_same {g : D → Gm → Option Gm} {body : Gm → SE} (I : Gm → Prop) : ∀ (l : List D) (Γ : Gm), I Γ → (∀ d ∈ l, ∀ Γ, I Γ → ∃ Γ1 Γ2, g d Γ = some Γ1 ∧ body Γ1 = .nx Γ2 ∧ I Γ2) → ∃ Γe, forD g body l Γ = .nx Γe ∧ I Γe
  | [], Γ, h, _ => ⟨Γ, rfl, h⟩
  | d :: l, Γ, h, hh => by
    obtain ⟨Γ1, Γ2, h1, h2, h3⟩ := hh d (List.mem_cons_self ..) Γ h
    rw [forD_cons h1 h2]
    exact forD_same I l Γ2 h3 fun e he => hh e (List.mem_cons_of_mem _ he)
end DL
namespace DL
open PySem PySem.Spec PyProof.Rows L2
def tryR (isa : Str → Str → Option Bool) (hs : List (Str × (Gm → SE))) : SE → SE
  | .ex x Γ1 => mHds isa hs x Γ1
  | r => r
@[simp] theorem mTry_ap {isa : Str → Str → Option Bool} {m : Gm → SE} {hs : List (Str × (Gm → SE))} {Γ : Gm} : mTry isa m hs Γ = tryR isa hs (m Γ) := by
  unfold mTry tryR
  cases m Γ <;> rfl
@[simp] theorem tryR_nx {isa : Str → Str → Option Bool} {hs : List (Str × (Gm → SE))} {Γ : Gm} : tryR isa hs (.nx Γ) = .nx Γ := (rfl)
@[simp] theorem tryR_rt {isa : Str → Str → Option Bool} {hs : List (Str × (Gm → SE))} {Γ : Gm} {d : D} : tryR isa hs (.rt d Γ) = .rt d Γ := (rfl)
@[simp] theorem tryR_bk {isa : Str → Str → Option Bool} {hs : List (Str × (Gm → SE))} {Γ : Gm} : tryR isa hs (.bk Γ) = .bk Γ := (rfl)
@[simp] theorem tryR_ct {isa : Str → Str → Option Bool} {hs : List (Str × (Gm → SE))} {Γ : Gm} : tryR isa hs (.ct Γ) = .ct Γ := (rfl)
@[simp] theorem tryR_ex {isa : Str → Str → Option Bool} {hs : List (Str × (Gm → SE))} {Γ : Gm} {x : Xd} : tryR isa hs (.ex x Γ) = mHds isa hs x Γ := (rfl)
theorem mHds_yes {isa : Str → Str → Option Bool} {c : Str} {m : Gm → SE} {l : List (Str × (Gm → SE))} {n : Str} {fs : List (Str × D)} {Γ : Gm} (h : isa n c = some true) : mHds isa ((c, m) :: l) ⟨n, fs⟩ Γ = m Γ := by rw [mHds, h]
theorem mHds_no {isa : Str → Str → Option Bool} {c : Str} {m : Gm → SE} {l : List (Str × (Gm → SE))} {n : Str} {fs : List (Str × D)} {Γ : Gm} (h : isa n c = some false) : mHds isa ((c, m) :: l) ⟨n, fs⟩ Γ = mHds isa l ⟨n, fs⟩ Γ := by rw [mHds, h]
@[simp] theorem noEx_rt {d : D} {Γ : Gm} : noEx (.rt d Γ) = .rt d Γ := (rfl)
@[simp] theorem noEx_nx {Γ : Gm} : noEx (.nx Γ) = .nx Γ := (rfl)
@[simp] theorem noEx_ct {Γ : Gm} : noEx (.ct Γ) = .ct Γ := (rfl)
@[simp] theorem noEx_bk {Γ : Gm} : noEx (.bk Γ) = .bk Γ := (rfl)
end DL
/-! DLM2: the meanings by simp, more. -/
namespace DL
open PySem PySem.Spec PyProof.Rows L2
section
variable {m m1 m2 : Gm → R D} {a : Gm → SE} {Γ : Gm} {d e : D} {ds es : List D} {x : Xd} {dom : List Str} {isi isa : Str → Str → Option Bool} {f c : Str} {fs : List (Str × D)} {hs : List (Str × (Xd → Gm → SE))}
@[simp] theorem items_xl : itemsX (.lst ds) = some ds := (rfl)
@[simp] theorem items_xt : itemsX (.tup ds) = some ds := (rfl)
@[simp] theorem items_xs {s : Str} : itemsX (.str s) = some (signsD s) := (rfl)
@[simp] theorem mItX_ap : mItX m Γ = (m Γ).bind fun d Γ1 => R.of (itemsX d) Γ1 := (rfl)
@[simp] theorem mEnumX_ap : mEnumX m Γ = (m Γ).bind fun d Γ1 => R.of ((itemsX d).map (enumI 0)) Γ1 := (rfl)
@[simp] theorem mulA_ii (i j : Int) : mulA (.int i) (.int j) = mulD (.int i) (.int j) := (rfl)
@[simp] theorem inA_l : inA d (.lst es) = inD d (.lst es) := by cases d <;> rfl
@[simp] theorem inA_t : inA d (.tup es) = inD d (.tup es) := by cases d <;> rfl
@[simp] theorem notinA_l : notinA d (.lst es) = notinD d (.lst es) := by cases d <;> rfl
@[simp] theorem notinA_t : notinA d (.tup es) = notinD d (.tup es) := by cases d <;> rfl
@[simp] theorem inA_s {z w : Str} : inA (.str z) (.str w) = some (.bl (strIn z w)) := (rfl)
@[simp] theorem notinA_s {z w : Str} : notinA (.str z) (.str w) = some (.bl (!strIn z w)) := (rfl)
@[simp] theorem intS_i (i : Int) : intS (.int i) = some (.int i) := (rfl)
@[simp] theorem intS_b (b : Bool) : intS (.bl b) = some (.int (if b then 1 else 0)) := (rfl)
@[simp] theorem isi_d (t : Tg) (i : List (D × D)) : isiD t (.dct i) = some (.bl (isiT .dct t)) := (rfl)
@[simp] theorem isi_dt (t : Tg) (i : List (D × D)) : isiD t (.dtt i) = some (.bl (isiT .dct t)) := (rfl)
@[simp] theorem isi2_i (t u : Tg) (i : Int) : isi2D t u (.int i) = some (.bl (isiT .int t || isiT .int u)) := (rfl)
@[simp] theorem isi2_b (t u : Tg) (i : Bool) : isi2D t u (.bl i) = some (.bl (isiT .bl t || isiT .bl u)) := (rfl)
@[simp] theorem isi2_n (t u : Tg) : isi2D t u .non = some (.bl (isiT .non t || isiT .non u)) := (rfl)
@[simp] theorem isi2_s (t u : Tg) (i : Str) : isi2D t u (.str i) = some (.bl (isiT .str t || isiT .str u)) := (rfl)
@[simp] theorem isi2_t (t u : Tg) (i : List D) : isi2D t u (.tup i) = some (.bl (isiT .tup t || isiT .tup u)) := (rfl)
@[simp] theorem isi2_l (t u : Tg) (i : List D) : isi2D t u (.lst i) = some (.bl (isiT .lst t || isiT .lst u)) := (rfl)
@[simp] theorem isi2_d (t u : Tg) (i : List (D × D)) : isi2D t u (.dct i) = some (.bl (isiT .dct t || isiT .dct u)) := (rfl)
@[simp] theorem isi2_dt (t u : Tg) (i : List (D × D)) : isi2D t u (.dtt i) = some (.bl (isiT .dct t || isiT .dct u)) := (rfl)
@[simp] theorem isNon_d (b : List (D × D)) : isNon (.dct b) = false := (rfl)
@[simp] theorem isNon_dt (b : List (D × D)) : isNon (.dtt b) = false := (rfl)
@[simp] theorem max2_ii (i j : Int) : max2D (.int i) (.int j) = some (.int (if j > i then j else i)) := (rfl)
@[simp] theorem min2_ii (i j : Int) : min2D (.int i) (.int j) = some (.int (if j < i then j else i)) := (rfl)
def blC (u : D) (a b : R D) : R D := match u with
  | .bl true => a
  | .bl false => b
  | _ => .no
@[simp] theorem blC_b {c : Bool} {a b : R D} : blC (.bl c) a b = if c = true then a else b := by cases c <;> rfl
@[simp] theorem mChain_ap {g h : D → D → Option D} {m3 : Gm → R D} : mChain g h m1 m2 m3 Γ = (m1 Γ).bind fun d Γ1 => (m2 Γ1).bind fun e Γ2 => (R.of (g d e) Γ2).bind fun u Γ3 => blC u ((m3 Γ3).bind fun w Γ4 => R.of (h e w) Γ4) (.ok (.bl false) Γ3) := by
  unfold mChain blC
  cases m1 Γ with
  | ok d Γ1 =>
    simp only [R.bind_ok]
    cases m2 Γ1 with
    | ok e Γ2 =>
      simp only [R.bind_ok]
      cases g d e with
      | none => rfl
      | some u =>
        simp only [R.of_some, R.bind_ok]
        cases u with
        | bl c => cases c <;> rfl
        | _ => rfl
    | ex x Γ2 => rfl
    | no => rfl
  | ex x Γ1 => rfl
  | no => rfl
@[simp] theorem revA_l : revA (.lst ds) = some (.lst ds.reverse) := (rfl)
@[simp] theorem revA_t : revA (.tup ds) = some (.tup ds.reverse) := (rfl)
/-! texts -/
@[simp] theorem isStr_s {s : Str} : isStrD (.str s) = true := (rfl)
@[simp] theorem mSm_ap {g : D → D → Option D} : mSm g m1 m2 Γ = (m1 Γ).bind fun d Γ1 => if isStrD d = true then (m2 Γ1).bind fun e Γ2 => R.of (g d e) Γ2 else .no := (rfl)
/-! what is held -/
@[simp] theorem mTryE_ap : mTryE isa a hs Γ = tryE isa hs (a Γ) := (rfl)
@[simp] theorem tryE_nx : tryE isa hs (.nx Γ) = .nx Γ := (rfl)
@[simp] theorem tryE_rt : tryE isa hs (.rt d Γ) = .rt d Γ := (rfl)
@[simp] theorem tryE_bk : tryE isa hs (.bk Γ) = .bk Γ := (rfl)
@[simp] theorem tryE_ct : tryE isa hs (.ct Γ) = .ct Γ := (rfl)
@[simp] theorem tryE_ex : tryE isa hs (.ex x Γ) = mHdsE isa hs x Γ := (rfl)
@[simp] theorem tryE_ite {p : Prop} [Decidable p] {r s : SE} : tryE isa hs (if p then r else s) = if p then tryE isa hs r else tryE isa hs s := by split <;> rfl
theorem mHdsE_yes {n : Str} {u : Xd → Gm → SE} (h : isa n c = some true) : mHdsE isa ((c, u) :: hs) ⟨n, fs⟩ Γ = u ⟨n, fs⟩ Γ := by rw [mHdsE, h]
theorem mHdsE_no {n : Str} {u : Xd → Gm → SE} (h : isa n c = some false) : mHdsE isa ((c, u) :: hs) ⟨n, fs⟩ Γ = mHdsE isa hs ⟨n, fs⟩ Γ := by rw [mHdsE, h]
@[simp] theorem goneS_nx {i : Nat} : goneS i (.nx Γ) = .nx (Γ.set i none) := (rfl)
@[simp] theorem goneS_bk {i : Nat} : goneS i (.bk Γ) = .bk (Γ.set i none) := (rfl)
@[simp] theorem goneS_ct {i : Nat} : goneS i (.ct Γ) = .ct (Γ.set i none) := (rfl)
@[simp] theorem goneS_rt {i : Nat} : goneS i (.rt d Γ) = .rt d Γ := (rfl)
@[simp] theorem mXf_ap : mXf dom x f Γ = if dom.contains x.c = true then R.of (x.fs.lookup f) Γ else .no := (rfl)
@[simp] theorem mXi_ap : mXi isi dom x c Γ = if dom.contains x.c = true then R.of ((isi x.c c).map D.bl) Γ else .no := (rfl)
end
/-! ### equality of data -/
mutual
def shB : D → Nat → Bool
  | .non, _ => true
  | .bl _, _ => true
  | .int _, _ => true
  | .str s, _ => PyData.strOk s
  | .tup xs, n => match n with
    | 0 => false
    | k + 1 => shBs xs k
  | .lst xs, n => match n with
    | 0 => false
    | k + 1 => shBs xs k
  | _, _ => false
def shBs : List D → Nat → Bool
  | [], _ => true
  | d :: ds, n => shB d n && shBs ds n
end
mutual
def deq : D → D → Bool
  | .non, .non => true
  | .bl a, .bl b => a == b
  | .bl a, .int j => (if a then 1 else 0) == j
  | .int i, .bl b => i == (if b then 1 else 0)
  | .int i, .int j => i == j
  | .str x, .str y => x == y
  | .tup xs, .tup ys => deqs xs ys
  | .lst xs, .lst ys => deqs xs ys
  | _, _ => false
def deqs : List D → List D → Bool
  | [], [] => true
  | x :: xs, y :: ys => deq x y && deqs xs ys
  | _, _ => false
end
mutual
theorem pd_sh : ∀ (d : D) (n : Nat), shB d n = true → ∃ p, pd d = some p ∧ p.canLay0 = true ∧ p.depth ≤ n
  | .non, _, _ => ⟨_, rfl, rfl, Nat.zero_le _⟩
  | .bl _, _, _ => ⟨_, rfl, rfl, Nat.zero_le _⟩
  | .int _, _, _ => ⟨_, rfl, rfl, Nat.zero_le _⟩
  | .str s, _, h => ⟨_, rfl, by unfold shB at h; simpa [PyData.canLay0] using h, by simp [PyData.depth]⟩
  | .tup xs, n, h => by
    cases n with
    | zero => simp [shB] at h
    | succ k =>
      obtain ⟨ps, h1, h2, h3⟩ := pds_sh xs k (by simpa [shB] using h)
      exact ⟨.tuple ps, by simp [pd, h1], by simpa [PyData.canLay0] using h2, by simp [PyData.depth]; omega⟩
  | .lst xs, n, h => by
    cases n with
    | zero => simp [shB] at h
    | succ k =>
      obtain ⟨ps, h1, h2, h3⟩ := pds_sh xs k (by simpa [shB] using h)
      exact ⟨.list ps, by simp [pd, h1], by simpa [PyData.canLay0] using h2, by simp [PyData.depth]; omega⟩
  | .dct _, _, h => by simp [shB] at h
  | .set _, _, h => by simp [shB] at h
  | .obj _ _, _, h => by simp [shB] at h
  | .glo _, _, h => by simp [shB] at h
theorem pds_sh : ∀ (ds : List D) (n : Nat), shBs ds n = true → ∃ ps, pds ds = some ps ∧ PyData.canLayAll0 ps = true ∧ PyData.depthAll ps ≤ n
  | [], _, _ => ⟨[], rfl, rfl, Nat.zero_le _⟩
  | d :: ds, n, h => by
    have h : (shB d n && shBs ds n) = true := by simpa [shBs] using h
    rw [Bool.and_eq_true] at h
    obtain ⟨p, h1, h2, h3⟩ := pd_sh d n h.1
    obtain ⟨ps, q1, q2, q3⟩ := pds_sh ds n h.2
    exact ⟨p :: ps, by simp [pds, h1, q1], by simp [PyData.canLayAll0, h2, q2], by simp [PyData.depthAll]; omega⟩
end
mutual
theorem eqv_deq : ∀ (d e : D) (p q : PyData), pd d = some p → pd e = some q → PyData.eqv p q = deq d e
  | d, e, p, q, h1, h2 => by
    cases d <;> cases e <;> simp only [pd, Option.some.injEq, reduceCtorEq, Option.map_eq_some_iff] at h1 h2 <;>
      first
      | (subst h1; subst h2; simp only [PyData.eqv, deq])
      | (obtain ⟨ps, a1, a2⟩ := h1; obtain ⟨qs, b1, b2⟩ := h2; subst a2; subst b2; simp only [PyData.eqv, deq]; try exact eqvs_deqs _ _ _ _ a1 b1)
      | (obtain ⟨ps, a1, a2⟩ := h1; subst a2; subst h2; simp only [PyData.eqv, deq])
      | (obtain ⟨qs, b1, b2⟩ := h2; subst b2; subst h1; simp only [PyData.eqv, deq])
  termination_by d => sizeOf d
theorem eqvs_deqs : ∀ (d e : List D) (p q : List PyData), pds d = some p → pds e = some q → PyData.eqvAll p q = deqs d e
  | [], [], p, q, h1, h2 => by cases h1; cases h2; simp [PyData.eqvAll, deqs]
  | [], e :: es, p, q, h1, h2 => by
    cases h1
    unfold pds at h2
    split at h2
    · cases h2; simp [PyData.eqvAll, deqs]
    · cases h2
  | d :: ds, [], p, q, h1, h2 => by
    cases h2
    unfold pds at h1
    split at h1
    · cases h1; simp [PyData.eqvAll, deqs]
    · cases h1
  | d :: ds, e :: es, p, q, h1, h2 => by
    unfold pds at h1 h2
    split at h1
    · rename_i p0 ps e1 e2
      cases h1
      split at h2
      · rename_i q0 qs f1 f2
        cases h2
        simp only [PyData.eqvAll, deqs]
        rw [eqv_deq d e p0 q0 e1 f1, eqvs_deqs ds es ps qs e2 f2]
      · cases h2
    · cases h1
  termination_by d => sizeOf d
end
theorem shaped_sh {p : PyData} {n : Nat} (h : p.canLay0 = true) (h2 : p.depth ≤ n) (hn : n ≤ 64) : SeqAt.shaped p = true := by
  unfold SeqAt.shaped
  rw [h, Bool.true_and]
  exact decide_eq_true (Nat.le_trans h2 hn)
theorem eqD_sh {d e : D} (h1 : shB d 60 = true) (h2 : shB e 60 = true) : eqD d e = some (.bl (deq d e)) := by
  obtain ⟨p, a1, a2, a3⟩ := pd_sh d 60 h1
  obtain ⟨q, b1, b2, b3⟩ := pd_sh e 60 h2
  unfold eqD
  rw [a1, b1]
  simp only [shaped_sh a2 a3 (by omega), shaped_sh b2 b3 (by omega), and_self, if_true, eqv_deq d e p q a1 b1]
theorem neD_sh {d e : D} (h1 : shB d 60 = true) (h2 : shB e 60 = true) : neD d e = some (.bl (!deq d e)) := by
  obtain ⟨p, a1, a2, a3⟩ := pd_sh d 60 h1
  obtain ⟨q, b1, b2, b3⟩ := pd_sh e 60 h2
  unfold neD
  rw [a1, b1]
  simp only [shaped_sh a2 a3 (by omega), shaped_sh b2 b3 (by omega), and_self, if_true, eqv_deq d e p q a1 b1]
theorem any_deq : ∀ {es : List D} {qs : List PyData} {d : D} {p : PyData}, pds es = some qs → pd d = some p → (qs.any fun z => PyData.eqv z p) = es.any fun z => deq z d
  | [], _, _, _, h, _ => by cases h; rfl
  | e :: es, qs, d, p, h, hp => by
    unfold pds at h
    split at h
    · rename_i q0 qs f1 f2
      cases h
      rw [List.any_cons, List.any_cons, eqv_deq e d q0 p f1 hp, any_deq f2 hp]
    · cases h
theorem inD_l {d : D} {es : List D} (h1 : shB d 60 = true) (h2 : shBs es 60 = true) : inD d (.lst es) = some (.bl (es.any fun z => deq z d)) := by
  obtain ⟨p, a1, a2, a3⟩ := pd_sh d 60 h1
  obtain ⟨qs, b1, b2, b3⟩ := pds_sh es 60 h2
  have hs : SeqAt.shaped (.list qs) = true := shaped_sh (n := 61) (by simpa [PyData.canLay0] using b2) (by simp [PyData.depth]; omega) (by omega)
  have hl : pd (.lst es) = some (.list qs) := by simp [pd, b1]
  unfold inD
  rw [a1, hl]
  simp only [shaped_sh a2 a3 (by omega), hs, and_self, if_true, any_deq b1 a1]
theorem inD_t {d : D} {es : List D} (h1 : shB d 60 = true) (h2 : shBs es 60 = true) : inD d (.tup es) = some (.bl (es.any fun z => deq z d)) := by
  obtain ⟨p, a1, a2, a3⟩ := pd_sh d 60 h1
  obtain ⟨qs, b1, b2, b3⟩ := pds_sh es 60 h2
  have hs : SeqAt.shaped (.tuple qs) = true := shaped_sh (n := 61) (by simpa [PyData.canLay0] using b2) (by simp [PyData.depth]; omega) (by omega)
  have hl : pd (.tup es) = some (.tuple qs) := by simp [pd, b1]
  unfold inD
  rw [a1, hl]
  simp only [shaped_sh a2 a3 (by omega), hs, and_self, if_true, any_deq b1 a1]
theorem notinD_l {d : D} {es : List D} (h1 : shB d 60 = true) (h2 : shBs es 60 = true) : notinD d (.lst es) = some (.bl (!es.any fun z => deq z d)) := by
  obtain ⟨p, a1, a2, a3⟩ := pd_sh d 60 h1
  obtain ⟨qs, b1, b2, b3⟩ := pds_sh es 60 h2
  have hs : SeqAt.shaped (.list qs) = true := shaped_sh (n := 61) (by simpa [PyData.canLay0] using b2) (by simp [PyData.depth]; omega) (by omega)
  have hl : pd (.lst es) = some (.list qs) := by simp [pd, b1]
  unfold notinD
  rw [a1, hl]
  simp only [shaped_sh a2 a3 (by omega), hs, and_self, if_true, any_deq b1 a1]
theorem notinD_t {d : D} {es : List D} (h1 : shB d 60 = true) (h2 : shBs es 60 = true) : notinD d (.tup es) = some (.bl (!es.any fun z => deq z d)) := by
  obtain ⟨p, a1, a2, a3⟩ := pd_sh d 60 h1
  obtain ⟨qs, b1, b2, b3⟩ := pds_sh es 60 h2
  have hs : SeqAt.shaped (.tuple qs) = true := shaped_sh (n := 61) (by simpa [PyData.canLay0] using b2) (by simp [PyData.depth]; omega) (by omega)
  have hl : pd (.tup es) = some (.tuple qs) := by simp [pd, b1]
  unfold notinD
  rw [a1, hl]
  simp only [shaped_sh a2 a3 (by omega), hs, and_self, if_true, any_deq b1 a1]
section
variable {d e : D} {ds es : List D} {n : Nat}
@[simp] theorem shB_n : shB .non n = true := by unfold shB; rfl
@[simp] theorem shB_b {b : Bool} : shB (.bl b) n = true := by unfold shB; rfl
@[simp] theorem shB_i {i : Int} : shB (.int i) n = true := by unfold shB; rfl
@[simp] theorem shB_s {s : Str} : shB (.str s) n = PyData.strOk s := by unfold shB; rfl
@[simp] theorem shB_t : shB (.tup ds) (n + 1) = shBs ds n := by unfold shB; rfl
@[simp] theorem shB_l : shB (.lst ds) (n + 1) = shBs ds n := by unfold shB; rfl
@[simp] theorem shBs_nil : shBs [] n = true := by unfold shBs; rfl
@[simp] theorem shBs_cons : shBs (d :: ds) n = (shB d n && shBs ds n) := by rw [shBs]
theorem shBs_iff : ∀ {ds : List D}, shBs ds n = true ↔ ∀ d ∈ ds, shB d n = true
  | [] => by simp
  | d :: ds => by rw [shBs_cons, Bool.and_eq_true, shBs_iff (ds := ds)]; simp
theorem shBs_app : shBs (ds ++ es) n = (shBs ds n && shBs es n) := by
  induction ds with
  | nil => simp
  | cons d ds ih => rw [List.cons_append, shBs_cons, shBs_cons, ih, Bool.and_assoc]
theorem shBs_map {α : Type} {f : α → D} {l : List α} (h : ∀ a ∈ l, shB (f a) n = true) : shBs (l.map f) n = true := shBs_iff.mpr fun d hd => by
  obtain ⟨a, ha, rfl⟩ := List.mem_map.mp hd
  exact h a ha
@[simp] theorem shBs_ints {l : List Int} : shBs (l.map D.int) n = true := shBs_map fun _ _ => shB_i
@[simp] theorem deq_nn : deq .non .non = true := by simp [deq]
@[simp] theorem deq_ii {i j : Int} : deq (.int i) (.int j) = decide (i = j) := by
  unfold deq
  by_cases h : i = j <;> simp [h]
@[simp] theorem deq_ss {i j : Str} : deq (.str i) (.str j) = (i == j) := by unfold deq; rfl
@[simp] theorem deq_bb {i j : Bool} : deq (.bl i) (.bl j) = (i == j) := by unfold deq; rfl
@[simp] theorem deq_tt : deq (.tup ds) (.tup es) = deqs ds es := by rw [deq]
@[simp] theorem deq_ll : deq (.lst ds) (.lst es) = deqs ds es := by rw [deq]
@[simp] theorem deq_lt : deq (.lst ds) (.tup es) = false := by simp [deq]
@[simp] theorem deq_tl : deq (.tup ds) (.lst es) = false := by simp [deq]
@[simp] theorem deq_in {i : Int} : deq (.int i) .non = false := by simp [deq]
@[simp] theorem deq_ni {i : Int} : deq .non (.int i) = false := by simp [deq]
@[simp] theorem deq_is {i : Int} {s : Str} : deq (.int i) (.str s) = false := by simp [deq]
@[simp] theorem deq_si {i : Int} {s : Str} : deq (.str s) (.int i) = false := by simp [deq]
@[simp] theorem deq_it {i : Int} : deq (.int i) (.tup ds) = false := by simp [deq]
@[simp] theorem deq_ti {i : Int} : deq (.tup ds) (.int i) = false := by simp [deq]
@[simp] theorem deq_il {i : Int} : deq (.int i) (.lst ds) = false := by simp [deq]
@[simp] theorem deq_li {i : Int} : deq (.lst ds) (.int i) = false := by simp [deq]
@[simp] theorem deq_ns {s : Str} : deq .non (.str s) = false := by simp [deq]
@[simp] theorem deq_sn {s : Str} : deq (.str s) .non = false := by simp [deq]
@[simp] theorem deq_nt : deq .non (.tup ds) = false := by simp [deq]
@[simp] theorem deq_tn : deq (.tup ds) .non = false := by simp [deq]
@[simp] theorem deq_nl : deq .non (.lst ds) = false := by simp [deq]
@[simp] theorem deq_ln : deq (.lst ds) .non = false := by simp [deq]
@[simp] theorem deq_st {s : Str} : deq (.str s) (.tup ds) = false := by simp [deq]
@[simp] theorem deq_ts {s : Str} : deq (.tup ds) (.str s) = false := by simp [deq]
@[simp] theorem deq_sl {s : Str} : deq (.str s) (.lst ds) = false := by simp [deq]
@[simp] theorem deq_ls {s : Str} : deq (.lst ds) (.str s) = false := by simp [deq]
@[simp] theorem deq_bn {b : Bool} : deq (.bl b) .non = false := by simp [deq]
@[simp] theorem deq_nb {b : Bool} : deq .non (.bl b) = false := by simp [deq]
@[simp] theorem deq_bi {b : Bool} {i : Int} : deq (.bl b) (.int i) = decide ((if b then 1 else 0) = i) := by unfold deq; by_cases h : (if b then (1 : Int) else 0) = i <;> simp [h]
@[simp] theorem deq_ib {b : Bool} {i : Int} : deq (.int i) (.bl b) = decide (i = (if b then 1 else 0)) := by unfold deq; by_cases h : i = (if b then (1 : Int) else 0) <;> simp [h]
@[simp] theorem deqs_nil : deqs [] [] = true := by simp [deqs]
@[simp] theorem deqs_cons : deqs (d :: ds) (e :: es) = (deq d e && deqs ds es) := by rw [deqs]
@[simp] theorem deqs_cn : deqs (d :: ds) [] = false := by simp [deqs]
@[simp] theorem deqs_nc : deqs [] (d :: ds) = false := by simp [deqs]
@[simp] theorem deqs_ints : ∀ {a b : List Int}, deqs (a.map D.int) (b.map D.int) = decide (a = b)
  | [], [] => by simp
  | [], _ :: _ => by simp
  | _ :: _, [] => by simp
  | x :: a, y :: b => by
    rw [List.map_cons, List.map_cons, deqs_cons, deqs_ints, deq_ii]
    by_cases h : x = y <;> by_cases h2 : a = b <;> simp [h, h2]
theorem deqs_len : ∀ {ds es : List D}, deqs ds es = true → ds.length = es.length
  | [], [], _ => rfl
  | [], _ :: _, h => by simp at h
  | _ :: _, [], h => by simp at h
  | d :: ds, e :: es, h => by
    rw [deqs_cons, Bool.and_eq_true] at h
    simp [deqs_len h.2]
end
mutual
theorem deq_refl : ∀ (d : D) (n : Nat), shB d n = true → deq d d = true
  | .non, _, _ => by simp
  | .bl _, _, _ => by simp
  | .int _, _, _ => by simp
  | .str s, _, h => by simp
  | .tup xs, n, h => by
    cases n with
    | zero => simp [shB] at h
    | succ k => rw [deq_tt]; exact deqs_refl xs k (by simpa using h)
  | .lst xs, n, h => by
    cases n with
    | zero => simp [shB] at h
    | succ k => rw [deq_ll]; exact deqs_refl xs k (by simpa using h)
  | .dct _, _, h => by simp [shB] at h
  | .set _, _, h => by simp [shB] at h
  | .obj _ _, _, h => by simp [shB] at h
  | .glo _, _, h => by simp [shB] at h
theorem deqs_refl : ∀ (ds : List D) (n : Nat), shBs ds n = true → deqs ds ds = true
  | [], _, _ => by simp
  | d :: ds, n, h => by
    rw [shBs_cons, Bool.and_eq_true] at h
    rw [deqs_cons, deq_refl d n h.1, deqs_refl ds n h.2]; rfl
end
end DL
/-! DLM3: loops that end early, comprehensions with a state, rows by their places. -/
namespace DL
open PySem PySem.Spec PyProof.Rows L2
/-- the first place from k on, of m places -/
def firstN (p : Nat → Bool) : Nat → Nat → Option Nat
  | _, 0 => none
  | k, m + 1 => if p k = true then some k else firstN p (k + 1) m
theorem firstN_congr {p q : Nat → Bool} : ∀ m k, (∀ j, k ≤ j → j < k + m → p j = q j) → firstN p k m = firstN q k m
  | 0, _, _ => rfl
  | m + 1, k, h => by
    rw [firstN, firstN, h k (Nat.le_refl _) (by omega), firstN_congr m (k + 1) fun j a b => h j (by omega) (by omega)]
theorem firstN_none {p : Nat → Bool} : ∀ {m k}, firstN p k m = none ↔ ∀ j, k ≤ j → j < k + m → p j = false
  | 0, k => by simp [firstN]; omega
  | m + 1, k => by
    rw [firstN]
    cases h : p k with
    | true =>
      simp
      exact ⟨k, Nat.le_refl _, by omega, h⟩
    | false =>
      rw [if_neg Bool.false_ne_true, firstN_none]
      exact ⟨fun a j h1 h2 => (Nat.eq_or_lt_of_le h1).elim (fun e => by rw [← e]; exact h) fun e => a j e (by omega), fun a j h1 h2 => a j (by omega) (by omega)⟩
theorem firstN_some {p : Nat → Bool} : ∀ {m k i}, firstN p k m = some i → k ≤ i ∧ i < k + m ∧ p i = true ∧ ∀ j, k ≤ j → j < i → p j = false
  | 0, k, i, h => by simp [firstN] at h
  | m + 1, k, i, h => by
    rw [firstN] at h
    cases hk : p k with
    | true => rw [hk, if_pos rfl] at h; cases h; exact ⟨Nat.le_refl _, by omega, hk, fun j a b => by omega⟩
    | false =>
      rw [hk, if_neg Bool.false_ne_true] at h
      obtain ⟨h1, h2, h3, h4⟩ := firstN_some h
      exact ⟨by omega, by omega, h3, fun j a b => (Nat.eq_or_lt_of_le a).elim (fun e => by rw [← e]; exact hk) fun e => h4 j e b⟩
theorem firstN_is {p : Nat → Bool} {m k i : Nat} (h1 : k ≤ i) (h2 : i < k + m) (h3 : p i = true) (h4 : ∀ j, k ≤ j → j < i → p j = false) : firstN p k m = some i := by
  cases e : firstN p k m with
  | none => rw [firstN_none.mp e i h1 h2] at h3; cases h3
  | some j =>
    obtain ⟨a, b, c, d⟩ := firstN_some e
    rcases Nat.lt_trichotomy i j with q | q | q
    · rw [d i h1 q] at h3; cases h3
    · rw [q]
    · rw [h4 j a q] at c; cases c
/-- what ends a loop -/
inductive Ter : SE → Prop
  | rt (d : D) (Γ : Gm) : Ter (.rt d Γ)
  | ex (x : Xd) (Γ : Gm) : Ter (.ex x Γ)
def endN (r : Nat → Gm → SE) (o : Option Nat) (Γe : Gm) : SE := match o with
  | some j => r j Γe
  | none => .nx Γe
@[simp] theorem endN_some {r : Nat → Gm → SE} {j : Nat} {Γ : Gm} : endN r (some j) Γ = r j Γ := (rfl)
@[simp] theorem endN_none {r : Nat → Gm → SE} {Γ : Gm} : endN r none Γ = .nx Γ := (rfl)
theorem forD_firstN {g : D → Gm → Option Gm} {body : Gm → SE} (f : Nat → D) (p : Nat → Bool) (r : Nat → Gm → SE) (hr : ∀ k Γ, Ter (r k Γ)) (inv : Nat → Gm → Prop) : ∀ m k Γ, inv k Γ →
    (∀ j Γ, k ≤ j → j < k + m → inv j Γ → ∃ Γ1, g (f j) Γ = some Γ1 ∧ (p j = true → ∃ Γ2, body Γ1 = r j Γ2) ∧ (p j = false → ∃ Γ2, (body Γ1 = .nx Γ2 ∨ body Γ1 = .ct Γ2) ∧ inv (j + 1) Γ2)) →
    ∃ Γe, forD g body ((List.range' k m).map f) Γ = endN r (firstN p k m) Γe ∧ (firstN p k m = none → inv (k + m) Γe)
  | 0, k, Γ, h0, h => ⟨Γ, rfl, fun _ => h0⟩
  | m + 1, k, Γ, h0, h => by
    obtain ⟨Γ1, h1, h2, h3⟩ := h k Γ (Nat.le_refl _) (by omega) h0
    rw [List.range'_succ, List.map_cons, forD, h1, firstN]
    cases e : p k with
    | true =>
      obtain ⟨Γ2, h4⟩ := h2 e
      refine ⟨Γ2, ?_, fun z => by simp at z⟩
      simp only [h4, if_true, endN_some]
      have := hr k Γ2
      cases e2 : r k Γ2 <;> rw [e2] at this <;> cases this <;> rfl
    | false =>
      obtain ⟨Γ2, h4, h5⟩ := h3 e
      obtain ⟨Γe, q1, q2⟩ := forD_firstN f p r hr inv m (k + 1) Γ2 h5 fun j Γ a b => h j Γ (by omega) (by omega)
      refine ⟨Γe, ?_, fun z => ?_⟩
      · rcases h4 with h4 | h4 <;> simp only [h4, q1] <;> rfl
      · have := q2 (by simpa using z)
        rw [show k + (m + 1) = k + 1 + m by omega]; exact this
/-- the item at a place -/
def atD (ds : List D) (j : Nat) : D := ds.getD j .non
theorem getD_nat {ds : List D} {i : Nat} (h : i < ds.length) : atD ds i = ds[i] := by
  unfold atD
  rw [List.getD_eq_getElem?_getD, List.getElem?_eq_getElem h]; rfl
theorem enum_range : ∀ (ds : List D) (k : Nat), enumI k ds = (List.range' k ds.length).map fun j => .tup [.int (j : Int), atD ds (j - k)]
  | [], _ => rfl
  | d :: ds, k => by
    rw [enumI, List.length_cons, List.range'_succ, List.map_cons, enum_range ds (k + 1)]
    congr 1
    · simp [atD]
    · apply List.map_congr_left
      intro j hj
      have hj := List.mem_range'_1.mp hj
      have e : j - k = (j - (k + 1)) + 1 := by omega
      show _ = D.tup [_, (d :: ds).getD (j - k) .non]
      rw [e, List.getD_cons_succ]; rfl
theorem enum_range0 (ds : List D) : enumI 0 ds = (List.range' 0 ds.length).map fun j => .tup [.int (j : Int), atD ds j] := by
  rw [enum_range]; rfl
theorem rangeD_range {n : Nat} : rangeD 0 n = (List.range' 0 n).map fun j => .int (j : Int) := by
  unfold rangeD
  rw [List.range_eq_range']
  apply List.map_congr_left
  intro j _
  simp
theorem list_range (ds : List D) : ds = (List.range' 0 ds.length).map fun j => atD ds j := by
  apply List.ext_getElem
  · simp
  · intro i h1 h2
    rw [List.getElem_map, List.getElem_range', getD_nat (by simpa using h1)]
    simp
theorem rangeD_off {a : Nat} {n : Nat} : rangeD (a : Int) n = (List.range' a n).map fun j => .int (j : Int) := by
  unfold rangeD
  apply List.ext_getElem
  · simp
  · intro i h1 h2
    simp
theorem atI_getD {ds : List D} {i : Nat} (h : i < ds.length) : atI ds (i : Int) = some (atD ds i) := atI_nat (by rw [getD_nat h]; exact List.getElem?_eq_getElem h)
theorem getD_mem {ds : List D} {i : Nat} (h : i < ds.length) : atD ds i ∈ ds := by rw [getD_nat h]; exact List.getElem_mem h
theorem getD_int {l : List Int} {i : Nat} (h : i < l.length) : atD (l.map D.int) i = .int (l.getD i 0) := by
  rw [getD_nat (by simpa using h), List.getElem_map, List.getD_eq_getElem?_getD, List.getElem?_eq_getElem h]; rfl
/-- a comprehension whose state goes on -/
theorem lcD_st {vs : List Nat} {g : D → Gm → Option Gm} {mt : Gm → R Bool} {me : Gm → R D} (f : Nat → D) (I : Nat → List D → Gm → Prop) : ∀ m k acc Γ, I k acc Γ →
    (∀ j acc Γ, k ≤ j → j < k + m → I j acc Γ → ∃ Γ1 Γ2 b, g (f j) Γ = some Γ1 ∧ mt Γ1 = .ok b Γ2 ∧ (b = true → ∃ y Γ3, me Γ2 = .ok y Γ3 ∧ acc.length < 16777216 ∧ I (j + 1) (acc ++ [y]) (wipeG Γ3 vs)) ∧ (b = false → I (j + 1) acc (wipeG Γ2 vs))) →
    ∃ acc' Γe, lcD vs g mt me ((List.range' k m).map f) acc Γ = some (acc', Γe) ∧ I (k + m) acc' Γe
  | 0, k, acc, Γ, h0, h => ⟨acc, Γ, rfl, h0⟩
  | m + 1, k, acc, Γ, h0, h => by
    obtain ⟨Γ1, Γ2, b, h1, h2, h3, h4⟩ := h k acc Γ (Nat.le_refl _) (by omega) h0
    rw [List.range'_succ, List.map_cons, lcD, h1]
    simp only [h2]
    cases b with
    | true =>
      obtain ⟨y, Γ3, h5, h6, h7⟩ := h3 rfl
      obtain ⟨acc', Γe, q1, q2⟩ := lcD_st f I m (k + 1) _ _ h7 fun j acc Γ a b => h j acc Γ (by omega) (by omega)
      refine ⟨acc', Γe, ?_, by rw [show k + (m + 1) = k + 1 + m by omega]; exact q2⟩
      simp only [h5, if_pos h6, q1]
    | false =>
      obtain ⟨acc', Γe, q1, q2⟩ := lcD_st f I m (k + 1) _ _ (h4 rfl) fun j acc Γ a b => h j acc Γ (by omega) (by omega)
      exact ⟨acc', Γe, q1, by rw [show k + (m + 1) = k + 1 + m by omega]; exact q2⟩
/-! ### whole numbers -/
def wholeB (lo hi : Int) : D → Bool
  | .int i => decide (lo ≤ i) && decide (i ≤ hi)
  | _ => false
@[simp] theorem wholeB_i {lo hi i : Int} : wholeB lo hi (.int i) = (decide (lo ≤ i) && decide (i ≤ hi)) := (rfl)
@[simp] theorem wholeB_n {lo hi : Int} : wholeB lo hi .non = false := (rfl)
@[simp] theorem wholeB_b {lo hi : Int} {b : Bool} : wholeB lo hi (.bl b) = false := (rfl)
@[simp] theorem wholeB_s {lo hi : Int} {b : Str} : wholeB lo hi (.str b) = false := (rfl)
@[simp] theorem wholeB_t {lo hi : Int} {b : List D} : wholeB lo hi (.tup b) = false := (rfl)
@[simp] theorem wholeB_l {lo hi : Int} {b : List D} : wholeB lo hi (.lst b) = false := (rfl)
@[simp] theorem wholeB_d {lo hi : Int} {b : List (D × D)} : wholeB lo hi (.dct b) = false := (rfl)
@[simp] theorem wholeB_dt {lo hi : Int} {b : List (D × D)} : wholeB lo hi (.dtt b) = false := (rfl)
def isIntD : D → Bool
  | .int _ => true
  | _ => false
@[simp] theorem isIntD_i {i : Int} : isIntD (.int i) = true := (rfl)
@[simp] theorem isIntD_n : isIntD .non = false := (rfl)
@[simp] theorem isIntD_b {b : Bool} : isIntD (.bl b) = false := (rfl)
@[simp] theorem isIntD_s {b : Str} : isIntD (.str b) = false := (rfl)
@[simp] theorem isIntD_t {b : List D} : isIntD (.tup b) = false := (rfl)
@[simp] theorem isIntD_l {b : List D} : isIntD (.lst b) = false := (rfl)
@[simp] theorem isIntD_d {b : List (D × D)} : isIntD (.dct b) = false := (rfl)
@[simp] theorem isIntD_dt {b : List (D × D)} : isIntD (.dtt b) = false := (rfl)
/-- a thing whose kind is known -/
def Kn (d : D) : Prop := (tgD d).isSome = true
@[simp] theorem Kn_i {i : Int} : Kn (.int i) := rfl
@[simp] theorem Kn_n : Kn .non := rfl
@[simp] theorem Kn_b {b : Bool} : Kn (.bl b) := rfl
@[simp] theorem Kn_s {b : Str} : Kn (.str b) := rfl
@[simp] theorem Kn_t {b : List D} : Kn (.tup b) := rfl
@[simp] theorem Kn_l {b : List D} : Kn (.lst b) := rfl
@[simp] theorem Kn_d {b : List (D × D)} : Kn (.dct b) := rfl
@[simp] theorem Kn_dt {b : List (D × D)} : Kn (.dtt b) := rfl
/-- the items of a list or a tuple -/
def rowD : D → Option (List D)
  | .tup xs => some xs
  | .lst xs => some xs
  | _ => none
/-- what is asked of a word -/
def badW (q : Int) (ds : List D) : Option Nat := firstN (fun k => !wholeB 0 (q - 1) (atD ds k)) 0 ds.length
def dueW (q : Int) (most : Int) (d : D) : Option Int := match rowD d with
  | some ds => if most < ds.length then some (-1) else (badW q ds).map fun i : Nat => (i : Int)
  | none => some (-1)
def oget1 (Γ : Gm) (i : Nat) : Option D := (Γ[i]?).getD none
def oint : Option Int → D
  | some i => .int i
  | none => .non
@[simp] theorem oint_s {i : Int} : oint (some i) = .int i := (rfl)
@[simp] theorem oint_n : oint none = .non := (rfl)
/-- how a word is let or refused -/
def wordR (d : D) : Option Int → FR
  | none => .rt (.tup ((rowD d).getD [])) []
  | some i => .ex ⟨"BadWord", [("index", .int i)]⟩ []
@[simp] theorem wordR_n {d : D} : wordR d none = .rt (.tup ((rowD d).getD [])) [] := (rfl)
@[simp] theorem wordR_s {d : D} {i : Int} : wordR d (some i) = .ex ⟨"BadWord", [("index", .int i)]⟩ [] := (rfl)
@[simp] theorem rowD_t {ds : List D} : rowD (.tup ds) = some ds := (rfl)
@[simp] theorem rowD_l {ds : List D} : rowD (.lst ds) = some ds := (rfl)
@[simp] theorem rowD_i {i : Int} : rowD (.int i) = none := (rfl)
@[simp] theorem rowD_n : rowD .non = none := (rfl)
@[simp] theorem rowD_b {b : Bool} : rowD (.bl b) = none := (rfl)
@[simp] theorem rowD_s {s : Str} : rowD (.str s) = none := (rfl)
@[simp] theorem rowD_d {s : List (D × D)} : rowD (.dct s) = none := (rfl)
@[simp] theorem rowD_dt {s : List (D × D)} : rowD (.dtt s) = none := (rfl)
/-- a thing whose parts' kinds are known -/
structure KnW (d : D) : Prop where
  k : Kn d
  ks : ∀ ds, rowD d = some ds → ∀ e ∈ ds, Kn e
theorem KnW.row {ds : List D} (h : ∀ e ∈ ds, Kn e) : KnW (.tup ds) ∧ KnW (.lst ds) := ⟨⟨rfl, fun es e => by cases e; exact h⟩, ⟨rfl, fun es e => by cases e; exact h⟩⟩
end DL
namespace DL
open PySem PySem.Spec PyProof.Rows L2
theorem eqD_same {d : D} (h : shB d 60 = true) : eqD d d = some (.bl true) := by rw [eqD_sh h h, deq_refl d 60 h]
theorem neD_same {d : D} (h : shB d 60 = true) : neD d d = some (.bl false) := by rw [neD_sh h h, deq_refl d 60 h]; rfl
@[simp] theorem eq_tt_ints {a b : List Int} : eqD (.tup (a.map D.int)) (.tup (b.map D.int)) = some (.bl (decide (a = b))) := by rw [eqD_sh (by simp) (by simp)]; simp
@[simp] theorem eq_ll_ints {a b : List Int} : eqD (.lst (a.map D.int)) (.lst (b.map D.int)) = some (.bl (decide (a = b))) := by rw [eqD_sh (by simp) (by simp)]; simp
@[simp] theorem ne_tt_ints {a b : List Int} : neD (.tup (a.map D.int)) (.tup (b.map D.int)) = some (.bl (!decide (a = b))) := by rw [neD_sh (by simp) (by simp)]; simp
@[simp] theorem ne_ll_ints {a b : List Int} : neD (.lst (a.map D.int)) (.lst (b.map D.int)) = some (.bl (!decide (a = b))) := by rw [neD_sh (by simp) (by simp)]; simp
@[simp] theorem eq_nilnil : eqD (.lst []) (.lst []) = some (.bl true) := eqD_same (by simp)
@[simp] theorem shB_oint {o : Option Int} {n : Nat} : shB (oint o) n = true := by cases o <;> simp
@[simp] theorem Kn_oint {o : Option Int} : Kn (oint o) := by cases o <;> simp
theorem kn_ints {l : List Int} : ∀ e ∈ l.map D.int, Kn e := fun e he => by
  obtain ⟨i, _, rfl⟩ := List.mem_map.mp he
  exact Kn_i
theorem knw_ints {l : List Int} : KnW (.tup (l.map D.int)) ∧ KnW (.lst (l.map D.int)) := KnW.row kn_ints
/-- a row that is let is a row of whole numbers -/
theorem word_of_due {q most : Int} {d : D} {ds : List D} (hr : rowD d = some ds) (h : dueW q most d = none) : ∃ w : List Int, ds = w.map D.int ∧ (∀ x ∈ w, 0 ≤ x ∧ x < q) ∧ (w.length : Int) ≤ most := by
  unfold dueW at h
  rw [hr] at h
  dsimp only at h
  split at h
  · cases h
  · rename_i hl
    have hb : badW q ds = none := by simpa using h
    have hb := firstN_none.mp hb
    have all : ∀ e ∈ ds, ∃ i : Int, e = .int i ∧ 0 ≤ i ∧ i < q := fun e he => by
      obtain ⟨i, hi, rfl⟩ := List.mem_iff_getElem.mp he
      have := hb i (Nat.zero_le _) (by omega)
      rw [getD_nat hi] at this
      have this : wholeB 0 (q - 1) ds[i] = true := by simpa using this
      cases hd : ds[i] with
      | int n => rw [hd] at this; have := (by simpa using this : 0 ≤ n ∧ n ≤ q - 1); exact ⟨n, rfl, this.1, by omega⟩
      | _ => rw [hd] at this; simp [wholeB] at this
    have gen : ∀ es : List D, (∀ e ∈ es, ∃ i : Int, e = .int i ∧ 0 ≤ i ∧ i < q) → ∃ w : List Int, es = w.map D.int ∧ ∀ x ∈ w, 0 ≤ x ∧ x < q := by
      intro es
      induction es with
      | nil => intro _; exact ⟨[], rfl, fun _ z => nomatch z⟩
      | cons e es ih =>
        intro hh
        obtain ⟨i, rfl, h0, h1⟩ := hh e (List.mem_cons_self ..)
        obtain ⟨w, rfl, hw⟩ := ih fun e he => hh e (List.mem_cons_of_mem _ he)
        exact ⟨i :: w, rfl, fun x hx => (List.mem_cons.mp hx).elim (fun e => by rw [e]; exact ⟨h0, h1⟩) (hw x)⟩
    obtain ⟨w, rfl, hw⟩ := gen ds all
    exact ⟨w, rfl, hw, by simpa using hl⟩
theorem due_word {q most : Int} {w : List Int} (hw : ∀ x ∈ w, 0 ≤ x ∧ x < q) (hl : (w.length : Int) ≤ most) : badW q (w.map D.int) = none := firstN_none.mpr fun j _ hj => by
  have hj : j < w.length := by simpa using hj
  rw [getD_nat (by simpa using hj), List.getElem_map]
  have := hw _ (List.getElem_mem hj)
  simp; omega
theorem due_t {q most : Int} {w : List Int} (hw : ∀ x ∈ w, 0 ≤ x ∧ x < q) (hl : (w.length : Int) ≤ most) : dueW q most (.tup (w.map D.int)) = none := by
  unfold dueW
  rw [rowD_t]
  dsimp only
  rw [if_neg (by simpa using hl), due_word hw hl]; rfl
theorem due_l {q most : Int} {w : List Int} (hw : ∀ x ∈ w, 0 ≤ x ∧ x < q) (hl : (w.length : Int) ≤ most) : dueW q most (.lst (w.map D.int)) = none := by
  unfold dueW
  rw [rowD_l]
  dsimp only
  rw [if_neg (by simpa using hl), due_word hw hl]; rfl
end DL
namespace DL
open PySem PySem.Spec PyProof.Rows L2
section
variable {m : Gm → R D} {ml mu : Gm → R (Option Int)} {Γ : Gm} {f : D → Option Int → Option Int → Option D} {xs : List D} {lo hi : Option Int}
@[simp] theorem mNoP_ap : mNoP Γ = .ok none Γ := (rfl)
@[simp] theorem mP_ap : mP m Γ = (m Γ).bind fun d Γ1 => R.of (toI d) Γ1 := (rfl)
@[simp] theorem toI_i {i : Int} : toI (.int i) = some (some i) := (rfl)
@[simp] theorem mSl_ap : mSl f m ml mu Γ = (m Γ).bind fun d Γ1 => (ml Γ1).bind fun l Γ2 => (mu Γ2).bind fun u Γ3 => R.of (f d l u) Γ3 := (rfl)
@[simp] theorem slD_t : slD (.tup xs) lo hi = some (.tup (cutL xs lo hi)) := (rfl)
@[simp] theorem slL_l : slL (.lst xs) lo hi = some (.lst (cutL xs lo hi)) := (rfl)
end
def cutG {α : Type} (xs : List α) (lo hi : Option Int) : List α := (xs.drop (HT.sIx xs.length 0 lo)).take (HT.sIx xs.length xs.length hi - HT.sIx xs.length 0 lo)
theorem cut_map {α : Type} {f : α → D} {xs : List α} {lo hi : Option Int} : cutL (xs.map f) lo hi = (cutG xs lo hi).map f := by
  unfold cutL cutG
  rw [List.length_map, ← List.map_drop, ← List.map_take]
theorem cut_g {xs : List D} {lo hi : Option Int} : cutL xs lo hi = cutG xs lo hi := rfl
theorem cut_to {α : Type} {xs : List α} {a : Int} (h : 0 ≤ a) : cutG xs none (some a) = xs.take a.toNat := by
  obtain ⟨k, rfl⟩ := Int.eq_ofNat_of_zero_le h
  unfold cutG
  rw [HT.sIx_none, HT.sIx_nat, List.drop_zero, Nat.sub_zero, Int.toNat_natCast]
  rcases Nat.le_total k xs.length with q | q
  · rw [Nat.min_eq_left q]
  · rw [Nat.min_eq_right q, List.take_of_length_le (Nat.le_refl _), List.take_of_length_le q]
theorem cut_from {α : Type} {xs : List α} {a : Int} (h : 0 ≤ a) : cutG xs (some a) none = xs.drop a.toNat := by
  obtain ⟨k, rfl⟩ := Int.eq_ofNat_of_zero_le h
  unfold cutG
  rw [HT.sIx_none, HT.sIx_nat, Int.toNat_natCast]
  rcases Nat.le_total k xs.length with q | q
  · rw [Nat.min_eq_left q, List.take_of_length_le (by rw [List.length_drop]; omega)]
  · rw [Nat.min_eq_right q, List.drop_of_length_le (Nat.le_refl _), List.drop_of_length_le q]; simp
theorem cut_len {α : Type} {xs : List α} {lo hi : Option Int} : (cutG xs lo hi).length ≤ xs.length := by
  unfold cutG
  rw [List.length_take, List.length_drop]; omega
theorem cut_mem {α : Type} {xs : List α} {lo hi : Option Int} {x : α} (h : x ∈ cutG xs lo hi) : x ∈ xs := List.mem_of_mem_drop (List.mem_of_mem_take h)
end DL
namespace DL
open PySem PySem.Spec PyProof.Rows L2
mutual
theorem sh_mono : ∀ {d : D} {n m : Nat}, shB d n = true → n ≤ m → shB d m = true
  | .non, _, _, _, _ => by simp
  | .bl _, _, _, _, _ => by simp
  | .int _, _, _, _, _ => by simp
  | .str s, _, _, h, _ => by simpa using h
  | .tup xs, n, m, h, hl => by
    cases n with
    | zero => simp [shB] at h
    | succ k =>
      obtain ⟨j, rfl⟩ : ∃ j, m = j + 1 := ⟨m - 1, by omega⟩
      rw [shB_t] at h ⊢
      exact shs_mono h (by omega)
  | .lst xs, n, m, h, hl => by
    cases n with
    | zero => simp [shB] at h
    | succ k =>
      obtain ⟨j, rfl⟩ : ∃ j, m = j + 1 := ⟨m - 1, by omega⟩
      rw [shB_l] at h ⊢
      exact shs_mono h (by omega)
  | .dct _, _, _, h, _ => by simp [shB] at h
  | .dtt _, _, _, h, _ => by simp [shB] at h
  | .set _, _, _, h, _ => by simp [shB] at h
  | .obj _ _, _, _, h, _ => by simp [shB] at h
  | .glo _, _, _, h, _ => by simp [shB] at h
theorem shs_mono : ∀ {ds : List D} {n m : Nat}, shBs ds n = true → n ≤ m → shBs ds m = true
  | [], _, _, _, _ => by simp
  | d :: ds, n, m, h, hl => by
    rw [shBs_cons, Bool.and_eq_true] at h ⊢
    exact ⟨sh_mono h.1 hl, shs_mono h.2 hl⟩
end
end DL
/-! DLM4: rows of ints by their places; sorted rows. -/
namespace DL
open PySem PySem.Spec PyProof.Rows L2
/-- the int at a place -/
def nI (w : List Int) (k : Nat) : Int := w.getD k 0
theorem nI_get {w : List Int} {k : Nat} (h : k < w.length) : nI w k = w[k] := by
  unfold nI
  rw [List.getD_eq_getElem?_getD, List.getElem?_eq_getElem h]; rfl
theorem nI_mem {w : List Int} {k : Nat} (h : k < w.length) : nI w k ∈ w := by rw [nI_get h]; exact List.getElem_mem h
theorem nI_0 (a : Int) (t : List Int) : nI (a :: t) 0 = a := rfl
theorem nI_s (a : Int) (t : List Int) (k : Nat) : nI (a :: t) (k + 1) = nI t k := rfl
theorem at_nI {w : List Int} {k : Nat} (h : k < w.length) : atI (w.map D.int) (k : Int) = some (.int (nI w k)) := by
  rw [atI_getD (by simpa using h), getD_int h]; rfl
theorem at_nI1 {w : List Int} {k : Nat} (h : k + 1 < w.length) : atI (w.map D.int) ((k : Int) + 1) = some (.int (nI w (k + 1))) := by
  have := at_nI (w := w) (k := k + 1) h
  rwa [Int.natCast_add] at this
theorem rg1_i {i : Int} (h1 : -4611686018427387904 ≤ i) (h2 : i < 4611686018427387904) : rg1 (.int i) = some (rangeD 0 i.toNat) := by
  show (if -two62 ≤ i ∧ i < two62 then some (rangeD 0 i.toNat) else none) = _
  rw [if_pos (by unfold two62; omega)]
theorem rangeD_map {n : Nat} : rangeD 0 n = (List.range n).map fun j : Nat => D.int (j : Int) := by
  rw [rangeD_range, List.range_eq_range']
theorem list_nI (w : List Int) : w = (List.range w.length).map (nI w) := by
  apply List.ext_getElem
  · simp
  · intro i h1 h2
    rw [List.getElem_map, List.getElem_range, nI_get h1]
/-- a good word -/
theorem due_good {q b : Int} {w : List Int} (hw : ∀ x ∈ w, 0 ≤ x ∧ x < q) (hl : (w.length : Int) ≤ b) : dueW q b (.tup (w.map D.int)) = none ∧ dueW q b (.lst (w.map D.int)) = none := by
  have h : badW q (w.map D.int) = none := firstN_none.mpr fun j _ hj => by
    have hj : j < w.length := by simpa using hj
    have := hw _ (nI_mem hj)
    have e : atD (w.map D.int) j = .int (nI w j) := getD_int hj
    rw [e]
    unfold wholeB
    simp; omega
  unfold dueW
  simp only [rowD_t, rowD_l, List.length_map]
  rw [if_neg (by omega), h]
  exact ⟨rfl, rfl⟩
theorem srtSet_tups {ks : List (List Int)} (h : ks.length < 64) (he : evenT ks = true) : srtSetD (.lst (ks.map tupI)) = some (.lst ((srtS ltL ks).map tupI)) := by
  cases ks with
  | nil => rfl
  | cons k ks =>
    have e1 : intsD ((k :: ks).map tupI) = none := rfl
    unfold srtSetD
    simp only [e1, tupsD_map]
    exact if_pos ⟨h, he⟩
theorem srtSet_ints {ns : List Int} (h : ns.length < 64) : srtSetD (.lst (ns.map D.int)) = some (.lst ((srtS ltI ns).map D.int)) := by
  unfold srtSetD
  simp only [intsD_map]
  exact if_pos h
/-- all of one length -/
theorem even_len {ks : List (List Int)} {n : Nat} (h : ∀ k ∈ ks, k.length = n) : evenT ks = true := by
  unfold evenT
  cases n with
  | zero =>
    rw [Bool.or_eq_true]
    refine .inr (List.all_eq_true.mpr fun k hk => ?_)
    rw [List.eq_nil_of_length_eq_zero (h k hk)]; rfl
  | succ n =>
    rw [Bool.or_eq_true]
    refine .inl (List.all_eq_true.mpr fun k hk => ?_)
    have := h k hk
    cases k with
    | nil => cases this
    | cons _ _ => rfl
theorem blsD_map (bs : List Bool) : blsD (bs.map D.bl) = some bs := by
  induction bs with
  | nil => rfl
  | cons n ns ih => rw [List.map_cons, blsD, ih]; rfl
theorem all_bls {bs : List Bool} : allD (.lst (bs.map D.bl)) = some (.bl (bs.all id)) := by
  unfold allD
  simp only [blsD_map]
  simp
theorem all_truth {α : Type} {l : List α} : allD (.lst (l.map fun _ => D.bl true)) = some (.bl true) := by
  have : (l.map fun _ => D.bl true) = (l.map fun _ => true).map D.bl := by rw [List.map_map]; rfl
  rw [this, all_bls]
  simp
theorem tupI_def (k : List Int) : tupI k = .tup (k.map D.int) := rfl
@[simp] theorem shB_tupI {k : List Int} {n : Nat} : shB (tupI k) (n + 2) = true := by rw [tupI_def]; simp
end DL
namespace DL
open PySem PySem.Spec PyProof.Rows L2
theorem deq_tupI {a b : List Int} : deq (tupI a) (tupI b) = decide (a = b) := by rw [tupI_def, tupI_def]; simp
theorem any_tups {ks : List (List Int)} {k : List Int} : ((ks.map tupI).any fun z => deq z (tupI k)) = decide (k ∈ ks) := by
  induction ks with
  | nil => rfl
  | cons a ks ih =>
    rw [List.map_cons, List.any_cons, ih, deq_tupI, Bool.eq_iff_iff, Bool.or_eq_true, decide_eq_true_iff, decide_eq_true_iff, decide_eq_true_iff, List.mem_cons]
    constructor
    · rintro (h | h)
      · exact .inl h.symm
      · exact .inr h
    · rintro (h | h)
      · exact .inl h.symm
      · exact .inr h
theorem shBs_tups {ks : List (List Int)} {n : Nat} : shBs (ks.map tupI) (n + 2) = true := shBs_map fun _ _ => shB_tupI
theorem in_tups {ks : List (List Int)} {k : List Int} : inA (tupI k) (.lst (ks.map tupI)) = some (.bl (decide (k ∈ ks))) := by
  rw [inA_l, inD_l (shB_tupI (n := 58)) (shBs_tups (n := 58)), any_tups]
theorem notin_tups {ks : List (List Int)} {k : List Int} : notinA (tupI k) (.lst (ks.map tupI)) = some (.bl (!decide (k ∈ ks))) := by
  rw [notinA_l, notinD_l (shB_tupI (n := 58)) (shBs_tups (n := 58)), any_tups]
theorem eq_tups {a : List (List Int)} : eqD (.lst (a.map tupI)) (.lst (a.map tupI)) = some (.bl true) := eqD_same (by rw [shB_l]; exact shBs_tups)
theorem ne_tups {a : List (List Int)} : neD (.lst (a.map tupI)) (.lst (a.map tupI)) = some (.bl false) := neD_same (by rw [shB_l]; exact shBs_tups)
end DL
namespace DL
open PySem PySem.Spec PyProof.Rows L2
@[simp] theorem mR3_ap {m1 m2 m3 : Gm → R D} {Γ : Gm} : mR3 m1 m2 m3 Γ = (m1 Γ).bind fun d Γ1 => (m2 Γ1).bind fun e Γ2 => (m3 Γ2).bind fun f Γ3 => R.of (rg3 d e f) Γ3 := (rfl)
theorem rg3_down {i j : Int} (h1 : -4611686018427387904 ≤ i) (h2 : i < 4611686018427387904) (h3 : -4611686018427387904 ≤ j) (h4 : j < 4611686018427387904) : rg3 (.int i) (.int j) (.int (-1)) = some (downD i (i - j).toNat) :=
  if_pos ⟨h1, h2, h3, h4, rfl⟩
theorem downD_range {n : Nat} {i : Int} : downD i n = (List.range' 0 n).map fun j : Nat => D.int (i + (j : Int) * (-1)) := by rw [downD, List.range_eq_range']
theorem mUnp_of {g : D → Gm → Option Gm} {m : Gm → R D} {Γ Γ1 Γ2 : Gm} {d : D} (h1 : m Γ = .ok d Γ1) (h2 : g d Γ1 = some Γ2) : mUnp g m Γ = .nx Γ2 := by
  unfold mUnp
  rw [h1]
  simp only [R.toS_ok, h2]
end DL
namespace DL
open PySem PySem.Spec PyProof.Rows L2
theorem ixN_neg {n : Nat} (h : 0 < n) : ixN n (-1) = some (n - 1) := by
  unfold ixN
  rw [if_neg (by omega), if_pos (by omega)]
  congr 1
  omega
@[simp] theorem atI_snoc {l : List D} {d : D} : atI (l ++ [d]) (-1) = some d := by
  unfold atI
  rw [ixN_neg (by simp)]
  simp
@[simp] theorem stS_snoc {s : Nat} {l : List D} {d e : D} {Γ : Gm} : stS s d (.int (-1)) Γ (some (some (.lst (l ++ [e])))) = .nx (Γ.set s (some (.lst (l ++ [d])))) := by
  rw [stS_l (ixN_neg (by simp))]
  simp
theorem stS_neg {s : Nat} {ds : List D} {d : D} {Γ : Gm} (h : 0 < ds.length) : stS s d (.int (-1)) Γ (some (some (.lst ds))) = .nx (Γ.set s (some (.lst (ds.set (ds.length - 1) d)))) := stS_l (ixN_neg h)
theorem stS_nat {s i : Nat} {ds : List D} {d : D} {Γ : Gm} (h : i < ds.length) : stS s d (.int (i : Int)) Γ (some (some (.lst ds))) = .nx (Γ.set s (some (.lst (ds.set i d)))) := stS_l (by unfold ixN; rw [if_pos (by omega), if_pos (by omega)]; simp)
end DL
namespace DL
open PySem PySem.Spec PyProof.Rows L2
@[simp] theorem slA_t {xs : List D} {lo hi : Option Int} : slA (.tup xs) lo hi = some (.tup (cutL xs lo hi)) := (rfl)
@[simp] theorem slA_l {xs : List D} {lo hi : Option Int} : slA (.lst xs) lo hi = some (.lst (cutL xs lo hi)) := (rfl)
@[simp] theorem slA_s {s : Str} {lo hi : Option Int} : slA (.str s) lo hi = slD (.str s) lo hi := (rfl)
end DL
/-! DLM5: meanings with objects run by simp. -/
namespace DL
open PySem L2
section
variable {Γ Γ1 : Gm} {d d0 : D} {ds dds : List D} {m m0 : Gm → R D} {as : List Am} {c f x : Str} {fs : List (Str × D)} {F : List D → FR} {dom : List Str} {tbl : List (Str × (List D → FR))}
def stF (dom : List Str) (f : Str) (s : Nat) (d : D) (Γ : Gm) : Option (Option D) → SE
  | some (some (.obj c fs)) => if dom.contains c = true ∧ fs.length < 1000 then .nx (Γ.set s (some (.obj c (putFD f d fs)))) else .no
  | _ => .no
theorem stF_o {s : Nat} (h : dom.contains c = true) (hl : fs.length < 1000) : stF dom f s d Γ (some (some (.obj c fs))) = .nx (Γ.set s (some (.obj c (putFD f d fs)))) := if_pos ⟨h, hl⟩
theorem stF_of {s : Nat} (h : dom.contains c = true) (hl : fs.length < 1000) {fs' : List (Str × D)} (hp : putFD f d fs = fs') : stF dom f s d Γ (some (some (.obj c fs))) = .nx (Γ.set s (some (.obj c fs'))) := by rw [stF_o h hl, hp]
@[simp] theorem mStF_ap {s : Nat} : mStF dom s f m Γ = (m Γ).toS fun d Γ1 => stF dom f s d Γ1 Γ1[s]? := (rfl)
def makeR (Γ : Gm) : FR → R D
  | .rt .non [o] => .ok o Γ
  | .ex x _ => .ex x Γ
  | _ => .no
@[simp] theorem makeR_rt {o : D} : makeR Γ (.rt .non [o]) = .ok o Γ := (rfl)
@[simp] theorem makeR_ex {x : Xd} {os : List D} : makeR Γ (.ex x os) = .ex x Γ := (rfl)
@[simp] theorem makeR_ite {c : Prop} [Decidable c] {a b : FR} : makeR Γ (if c then a else b) = if c then makeR Γ a else makeR Γ b := by split <;> rfl
def makeF (x : Str) (F : List D → FR) (dds : List D) (Γ : Gm) : Option (List D) → R D
  | some ds => makeR Γ (F (.obj x [] :: (ds ++ dds)))
  | none => .no
@[simp] theorem makeF_some : makeF x F dds Γ (some ds) = makeR Γ (F (.obj x [] :: (ds ++ dds))) := (rfl)
@[simp] theorem mMake_ap : mMake x F dds as Γ = (evA as Γ).bind fun xs Γ1 => makeF x F dds Γ1 (fillA Γ1 as xs) := (rfl)
def methR (Γ : Gm) : FR → R D
  | .rt d _ => .ok d Γ
  | .ex x _ => .ex x Γ
  | .no => .no
@[simp] theorem methR_rt {os : List D} : methR Γ (.rt d os) = .ok d Γ := (rfl)
@[simp] theorem methR_ex {x : Xd} {os : List D} : methR Γ (.ex x os) = .ex x Γ := (rfl)
@[simp] theorem methR_ite {c : Prop} [Decidable c] {a b : FR} : methR Γ (if c then a else b) = if c then methR Γ a else methR Γ b := by split <;> rfl
def methF (F : List D → FR) (d0 : D) (dds : List D) (Γ : Gm) : Option (List D) → R D
  | some ds => methR Γ (F (d0 :: (ds ++ dds)))
  | none => .no
@[simp] theorem methF_some : methF F d0 dds Γ (some ds) = methR Γ (F (d0 :: (ds ++ dds))) := (rfl)
def methO (q : Str) (tbl : List (Str × (List D → FR))) (dds : List D) (as : List Am) : D → Gm → R D
  | .obj c fs, Γ => match tbl.lookup c with
    | some F => if (fs.lookup q).isNone = true then (evA as Γ).bind fun xs Γ1 => methF F (.obj c fs) dds Γ1 (fillA Γ1 as xs) else .no
    | none => .no
  | _, _ => .no
theorem methO_c {q : Str} (h : tbl.lookup c = some F) (hl : fs.lookup q = none) : methO q tbl dds as (.obj c fs) Γ = (evA as Γ).bind fun xs Γ1 => methF F (.obj c fs) dds Γ1 (fillA Γ1 as xs) := by
  show (match tbl.lookup c with
    | some F => if (fs.lookup q).isNone = true then (evA as Γ).bind fun xs Γ1 => methF F (.obj c fs) dds Γ1 (fillA Γ1 as xs) else .no
    | none => .no) = _
  rw [h, hl]; rfl
@[simp] theorem mMeth_ap {q : Str} : mMeth q tbl dds m0 as Γ = (m0 Γ).bind fun d0 Γ0 => methO q tbl dds as d0 Γ0 := by
  unfold mMeth
  congr 1; funext d0 Γ0
  cases d0 <;> rfl
def propR (Γ : Gm) : FR → R D
  | .rt d _ => .ok d Γ
  | _ => .no
@[simp] theorem propR_rt {os : List D} : propR Γ (.rt d os) = .ok d Γ := (rfl)
@[simp] theorem propR_ite {c : Prop} [Decidable c] {a b : FR} : propR Γ (if c then a else b) = if c then propR Γ a else propR Γ b := by split <;> rfl
def propO (tbl : List (Str × (List D → FR))) : D → Gm → R D
  | .obj c fs, Γ => match tbl.lookup c with
    | some F => propR Γ (F [.obj c fs])
    | none => .no
  | _, _ => .no
theorem propO_c (h : tbl.lookup c = some F) : propO tbl (.obj c fs) Γ = propR Γ (F [.obj c fs]) := by
  show (match tbl.lookup c with
    | some F => propR Γ (F [.obj c fs])
    | none => .no) = _
  rw [h]
@[simp] theorem mProp_ap : mProp tbl m0 Γ = (m0 Γ).bind fun d0 Γ0 => propO tbl d0 Γ0 := by
  unfold mProp
  congr 1; funext d0 Γ0
  cases d0 <;> rfl
theorem fld_o {v : D} (h : dom.contains c = true) (hl : fs.lookup f = some v) : fldD dom f (.obj c fs) = some v := by
  show (if dom.contains c = true then fs.lookup f else none) = _
  rw [if_pos h, hl]
theorem iso_o (h : dom.contains c = true) : isoD dom x (.obj c fs) = some (.bl (decide (c = x))) := if_pos h
@[simp] theorem iso_n : isoD dom x .non = some (.bl false) := (rfl)
@[simp] theorem iso_b {b : Bool} : isoD dom x (.bl b) = some (.bl false) := (rfl)
@[simp] theorem iso_i {i : Int} : isoD dom x (.int i) = some (.bl false) := (rfl)
@[simp] theorem iso_s {s : Str} : isoD dom x (.str s) = some (.bl false) := (rfl)
@[simp] theorem iso_t : isoD dom x (.tup ds) = some (.bl false) := (rfl)
@[simp] theorem iso_l : isoD dom x (.lst ds) = some (.bl false) := (rfl)
@[simp] theorem iso_d {kvs : List (D × D)} : isoD dom x (.dct kvs) = some (.bl false) := (rfl)
end
end DL
/-! DLM6: dicts run by simp; dicts whose keys are words. -/
namespace DL
open PySem L2
section
variable {Γ Γ1 : Gm} {d k v x : D} {ds xs : List D} {kvs : List (D × D)} {m m1 m2 m3 : Gm → R D}
@[simp] theorem ixX_l {xs : List D} : ixX (.lst xs) k = ixD (.lst xs) k := (rfl)
@[simp] theorem ixX_t {xs : List D} : ixX (.tup xs) k = ixD (.tup xs) k := (rfl)
@[simp] theorem ixX_k : ixX (.dct kvs) k = dixD (.dct kvs) k := (rfl)
@[simp] theorem ixX_q : ixX (.dtt kvs) k = dixD (.dtt kvs) k := (rfl)
@[simp] theorem inX_l : inX k (.lst xs) = inA k (.lst xs) := (rfl)
@[simp] theorem inX_t : inX k (.tup xs) = inA k (.tup xs) := (rfl)
@[simp] theorem inX_k : inX k (.dct kvs) = dinD k (.dct kvs) := (rfl)
@[simp] theorem inX_q : inX k (.dtt kvs) = dinD k (.dtt kvs) := (rfl)
@[simp] theorem notinX_l : notinX k (.lst xs) = notinA k (.lst xs) := (rfl)
@[simp] theorem notinX_t : notinX k (.tup xs) = notinA k (.tup xs) := (rfl)
@[simp] theorem notinX_k : notinX k (.dct kvs) = dnotinD k (.dct kvs) := (rfl)
@[simp] theorem notinX_q : notinX k (.dtt kvs) = dnotinD k (.dtt kvs) := (rfl)
@[simp] theorem lenX_l : lenX (.lst xs) = lenD (.lst xs) := (rfl)
@[simp] theorem lenX_t : lenX (.tup xs) = lenD (.tup xs) := (rfl)
@[simp] theorem lenX_k : lenX (.dct kvs) = some (.int kvs.length) := (rfl)
@[simp] theorem lenX_q : lenX (.dtt kvs) = some (.int kvs.length) := (rfl)
@[simp] theorem isDct_k : isDct (.dct kvs) = true := (rfl)
@[simp] theorem isDct_q : isDct (.dtt kvs) = true := (rfl)
@[simp] theorem lkeys_q : lkeysD (.dtt kvs) = some (.lst (keysL kvs)) := (rfl)
def getIf (b : Bool) (r : R D) : R D := if b = true then r else .no
@[simp] theorem getIf_t {r : R D} : getIf true r = r := (rfl)
@[simp] theorem mGet1_ap : mGet1 m1 m2 Γ = (m1 Γ).bind fun d Γ1 => getIf (isDct d) ((m2 Γ1).bind fun k Γ2 => R.of (dget1D d k) Γ2) := (rfl)
@[simp] theorem mGet2_ap : mGet2' m1 m2 m3 Γ = (m1 Γ).bind fun d Γ1 => getIf (isDct d) ((m2 Γ1).bind fun k Γ2 => (m3 Γ2).bind fun x Γ3 => R.of (dget2D d k x) Γ3) := (rfl)
/-- d[k] = v where the slot's kind is known -/
def dputS (s : Nat) (Γ : Gm) : Option D → SE
  | some dd => .nx (Γ.set s (some dd))
  | none => .no
@[simp] theorem dputS_s {s : Nat} {dd : D} : dputS s Γ (some dd) = .nx (Γ.set s (some dd)) := (rfl)
theorem mStX_dict {s : Nat} {mi : Gm → R D} {dd q : D} {Γ2 : Gm} (h1 : m Γ = .ok d Γ1) (h2 : Γ1[s]? = some (some dd)) (hd : isDct dd = true) (h3 : mi Γ1 = .ok q Γ2) (h4 : Γ2[s]? = some (some dd)) : mStX s m mi Γ = dputS s Γ2 (dputD dd q d) := by
  have e : isDctO Γ1[s]? = true := by rw [h2]; exact hd
  unfold mStX
  rw [h1]
  dsimp only
  rw [if_pos e]
  unfold mDSt
  rw [h1]
  simp only [R.toS_ok, h2]
  rw [h3]
  simp only [R.toS_ok]
  unfold dstS
  rw [h4]
  dsimp only
  cases dputD dd q d <;> rfl
end
/-! keys that are words -/
def wkey (w : List Int) : List Key := w.map Sum.inl
theorem wkey_inj {u w : List Int} (h : wkey u = wkey w) : u = w := by
  have := congrArg (List.map fun k : Key => match k with | .inl i => i | .inr _ => 0) h
  simpa [wkey, Function.comp_def] using this
theorem keysD_w : ∀ w : List Int, keysD (w.map D.int) = some (wkey w)
  | [] => rfl
  | x :: w => by
    show keysD (.int x :: w.map D.int) = _
    unfold keysD
    rw [keysD_w w]; rfl
@[simp] theorem keysT_w (w : List Int) : keysT (.tup (w.map D.int)) = some (wkey w) := keysD_w w
theorem dlt_map {q q' : List Key} {d : D} : ∀ kvs : List (D × D), dlt (kvs.map fun p => if keysT p.1 = some q then (p.1, d) else p) q' = if q' = q then (dlt kvs q).map fun _ => d else dlt kvs q'
  | [] => by by_cases h : q' = q <;> simp [h, dlt]
  | (k, e) :: r => by
    rw [List.map_cons]
    by_cases c : keysT k = some q
    · rw [if_pos (show keysT (k, e).1 = some q from c)]
      show (if keysT k = some q' then some d else dlt (r.map _) q') = _
      rw [dlt_map r]
      by_cases h : q' = q
      · subst h
        rw [if_pos c, if_pos rfl]
        show _ = (if keysT k = some q' then some e else dlt r q').map fun _ => d
        rw [if_pos c]; rfl
      · rw [if_neg (by rw [c]; intro z; exact h (Option.some.inj z).symm), if_neg h, if_neg h]
        show _ = if keysT k = some q' then some e else dlt r q'
        rw [if_neg (by rw [c]; intro z; exact h (Option.some.inj z).symm)]
    · rw [if_neg (show ¬ keysT (k, e).1 = some q from c)]
      show (if keysT k = some q' then some e else dlt (r.map _) q') = _
      rw [dlt_map r]
      by_cases h : q' = q
      · subst h
        rw [if_neg c, if_pos rfl, if_pos rfl]
        show _ = (if keysT k = some q' then some e else dlt r q').map fun _ => d
        rw [if_neg c]
      · rw [if_neg h, if_neg h]
        rfl
theorem dlt_snoc {q q' : List Key} {k d : D} (hk : keysT k = some q) : ∀ kvs : List (D × D), dlt kvs q = none → dlt (kvs ++ [(k, d)]) q' = if q' = q then some d else dlt kvs q'
  | [], _ => by
    show (if keysT k = some q' then some d else none) = _
    by_cases h : q' = q
    · subst h; rw [if_pos hk, if_pos rfl]
    · rw [if_neg (by rw [hk]; intro z; exact h (Option.some.inj z).symm), if_neg h]; rfl
  | (k', e) :: r, h0 => by
    have h0 : (if keysT k' = some q then some e else dlt r q) = none := h0
    by_cases c : keysT k' = some q
    · rw [if_pos c] at h0; cases h0
    · rw [if_neg c] at h0
      show (if keysT k' = some q' then some e else dlt (r ++ [(k, d)]) q') = _
      rw [dlt_snoc hk r h0]
      by_cases h : q' = q
      · subst h; rw [if_neg c, if_pos rfl, if_pos rfl]
      · rw [if_neg h, if_neg h]; rfl
theorem dlt_any {q : List Key} : ∀ kvs : List (D × D), (kvs.any fun p => decide (keysT p.1 = some q)) = (dlt kvs q).isSome
  | [] => rfl
  | (k, e) :: r => by
    rw [List.any_cons, dlt_any r]
    show _ = (if keysT k = some q then some e else dlt r q).isSome
    by_cases c : keysT k = some q
    · simp [c]
    · simp [c]
theorem dlt_put {q : List Key} {k d : D} (hk : keysT k = some q) (kvs : List (D × D)) (q' : List Key) : dlt (putT1 kvs k q d) q' = if q' = q then some d else dlt kvs q' := by
  unfold putT1
  by_cases c : (kvs.any fun p => decide (keysT p.1 = some q)) = true
  · rw [if_pos c, dlt_map]
    rw [dlt_any] at c
    obtain ⟨e, he⟩ := Option.isSome_iff_exists.mp c
    rw [he]; rfl
  · rw [if_neg c]
    rw [dlt_any] at c
    exact dlt_snoc hk kvs (by simpa using c)
theorem putT1_len {q : List Key} {k d : D} (kvs : List (D × D)) : (putT1 kvs k q d).length ≤ kvs.length + 1 := by
  unfold putT1; split <;> simp
/-- a dict over words, by what it says of each -/
def dW (kvs : List (D × D)) (w : List Int) : Option D := dlt kvs (wkey w)
@[simp] theorem dW_nil (w : List Int) : dW [] w = none := rfl
theorem dW_put {w : List Int} {d : D} {kvs : List (D × D)} (hl : kvs.length < 16777216) : ∃ kvs', dputD (.dtt kvs) (.tup (w.map D.int)) d = some (.dtt kvs') ∧ kvs'.length ≤ kvs.length + 1 ∧ ∀ u, dW kvs' u = if u = w then some d else dW kvs u := by
  refine ⟨putT1 kvs (.tup (w.map D.int)) (wkey w) d, ?_, putT1_len kvs, fun u => ?_⟩
  · unfold dputD; simp only [keysT_w]; rw [if_pos hl]
  · unfold dW
    rw [dlt_put (keysT_w w)]
    by_cases h : u = w
    · rw [if_pos h, if_pos (by rw [h])]
    · rw [if_neg h, if_neg fun z => h (wkey_inj z)]
theorem dget_w {kvs : List (D × D)} {w : List Int} : dgetQ (.dtt kvs) (.tup (w.map D.int)) = some (dW kvs w) := by
  show (keysT (.tup (w.map D.int))).map (dlt kvs) = _
  rw [keysT_w]; rfl
theorem dix_w {kvs : List (D × D)} {w : List Int} {d : D} (h : dW kvs w = some d) : dixD (.dtt kvs) (.tup (w.map D.int)) = some d := by
  unfold dixD; rw [dget_w, h]; rfl
theorem din_w {kvs : List (D × D)} {w : List Int} : dinD (.tup (w.map D.int)) (.dtt kvs) = some (.bl (dW kvs w).isSome) := by
  unfold dinD; rw [dget_w]; rfl
theorem dget2_w {kvs : List (D × D)} {w : List Int} {x : D} : dget2D (.dtt kvs) (.tup (w.map D.int)) x = some ((dW kvs w).getD x) := by
  unfold dget2D; rw [dget_w]; rfl
end DL
noncomputable section
namespace Lk71
open PySem PySem.Spec PyProof.Rows L2 DL
abbrev prog : Program := PySem.Challenge.pw_lostplaces_k71_whole_moduli_that_bear_on
def top (i : Nat) : Stmt := prog.main.body.getD i (.Pass ⟨0, 0, 0, 0⟩)
/-- the i-th statement of a class -/
def inCls (i j : Nat) : Stmt := match top i with
  | .ClassDef _ _ _ b _ _ _ _ _ _ _ => b.getD j (.Pass ⟨0, 0, 0, 0⟩)
  | s => s
abbrev s_BadNumber_init : Stmt := inCls 3 0
abbrev s_BadWord_init : Stmt := inCls 4 0
abbrev s_BadModulus_init : Stmt := inCls 5 0
abbrev s_BadRest_init : Stmt := inCls 6 0
abbrev s_NotOneOff_init : Stmt := inCls 7 0
abbrev s__law_hand : Stmt := top 32
abbrev s__law_mixed : Stmt := top 33
abbrev s__law_take : Stmt := top 34
abbrev s_is_whole : Stmt := top 9
abbrev s_check_number : Stmt := top 10
abbrev s_check_modulus : Stmt := top 20
abbrev s_check_rest : Stmt := top 21
abbrev s_lifting_step : Stmt := top 18
abbrev s_lift_word : Stmt := top 19
abbrev s_NearPair___init__ : Stmt := inCls 13 0
abbrev s_modulus_clash : Stmt := top 23
abbrev s__law_refused : Stmt := top 49
abbrev s_SumBook_is_full : Stmt := inCls 22 2
abbrev s_word_of_sum : Stmt := top 29
abbrev s_unread_word : Stmt := top 30
abbrev s__law_odd : Stmt := top 41
abbrev s_SumBook___init__ : Stmt := inCls 22 0
abbrev s__law_refusals : Stmt := top 50
abbrev s__law_book_of : Stmt := top 42
abbrev s__law_whole : Stmt := top 35
abbrev s__law_is_word : Stmt := top 40
abbrev s__law_is_below : Stmt := top 37
abbrev s__law_sum : Stmt := top 39
abbrev s__law_clash_right : Stmt := top 43
abbrev s__law_modulus_right : Stmt := top 45
abbrev s_sum_places : Stmt := top 17
abbrev s_loss_amount : Stmt := top 26
abbrev s_member_above : Stmt := top 27
abbrev s_check_word : Stmt := top 11
abbrev s_check_read : Stmt := top 25
abbrev s_read_lost : Stmt := top 28
abbrev s__law_is_unread : Stmt := top 46
abbrev s__law_unread_right : Stmt := top 47
abbrev s__law_all_words : Stmt := top 36
abbrev s__law_has_clash : Stmt := top 44
abbrev s__law_more_one : Stmt := top 38
abbrev s__law_small_unread : Stmt := top 48
abbrev s_law : Stmt := top 51
def isaL : List (Str × Str × Bool) := [("BadModulus", "BadModulus", true), ("BadNumber", "BadModulus", false), ("BadRest", "BadModulus", false), ("BadWord", "BadModulus", false), ("NotOneOff", "BadModulus", false), ("PlaceError", "BadModulus", false), ("BadModulus", "BadNumber", false), ("BadNumber", "BadNumber", true), ("BadRest", "BadNumber", false), ("BadWord", "BadNumber", false), ("NotOneOff", "BadNumber", false), ("PlaceError", "BadNumber", false), ("BadModulus", "BadRest", false), ("BadNumber", "BadRest", false), ("BadRest", "BadRest", true), ("BadWord", "BadRest", false), ("NotOneOff", "BadRest", false), ("PlaceError", "BadRest", false)]
def isa : Str → Str → Option Bool := isaT isaL
def isiL : List (Str × Str × Bool) := []
def isi : Str → Str → Option Bool := isaT isiL
def domA : List Str := ["BadModulus", "BadNumber", "BadRest", "BadWord", "NotOneOff", "PlaceError"]
def dmAll : List Str := ["NearPair", "SumBook"]
def dm_above : List Str := ["NearPair"]
def dm_below : List Str := ["NearPair"]
def dm_length : List Str := ["SumBook"]
def dm_modulus : List Str := ["SumBook"]
def dm_one : List Str := ["NearPair"]
def dm_other : List Str := ["NearPair"]
def dm_rest : List Str := ["SumBook"]
def m__law_hand_b1 : Gm → SE := (mSeq (mSet 1 (mBin modD (mUn intS (mBin addA (mBin mulA (mVar 1) (mC (.int 2003))) (mUn intS (mVar 3)))) (mC (.int 2147483563)))) (mApp 2 (mUn absD (mUn intS (mVar 3)))))
def m__law_hand : Gm → SE := (mSeq (mSet 1 (mBin addA (mUn lenD (mVar 0)) (mC (.int 43)))) (mSeq (mSet 2 (mLst [])) (mSeq (mFor (mItX (mVar 0)) (gN 3) m__law_hand_b1) (mRet (mLst [(mVar 2), (mC (.int 0)), (mC (.int 0)), (mVar 1)])))))
def F__law_hand : List D → FR := mFn 4 [] true m__law_hand
def m__law_mixed : Gm → SE := (mSeq (mSet 2 (mBin modD (mUn intS (mBin addA (mBin addA (mBin mulA (mVar 0) (mC (.int 39373))) (mBin mulA (mVar 1) (mC (.int 6151)))) (mC (.int 50021)))) (mC (.int 2147483399)))) (mSeq (mSet 3 (mBin modD (mUn intS (mBin addA (mBin addA (mBin mulA (mVar 2) (mVar 2)) (mBin mulA (mVar 1) (mC (.int 81071)))) (mBin fdivD (mVar 2) (mC (.int 137))))) (mC (.int 2147483629)))) (mRet (mBin fdivD (mUn intS (mBin modD (mUn intS (mBin addA (mBin mulA (mVar 3) (mC (.int 62089))) (mBin fdivD (mVar 2) (mC (.int 11))))) (mC (.int 2147483587)))) (mC (.int 64))))))
def F__law_mixed : List D → FR := mFn 4 [] false m__law_mixed
def m__law_take : Gm → SE := (mSeq (mIf (mAndT (mTru (mBin eqD (mBin ixD (mVar 0) (mC (.int 2))) (mC (.int 0)))) (mTru (mBin ltD (mBin ixD (mVar 0) (mC (.int 1))) (mUn lenD (mBin ixD (mVar 0) (mC (.int 0))))))) (mSeq (mSet 2 (mBin ixD (mBin ixD (mVar 0) (mC (.int 0))) (mBin ixD (mVar 0) (mC (.int 1))))) (mSeq (mSt 0 (mBin addA (mBin ixD (mVar 0) (mC (.int 1))) (mC (.int 1))) (mC (.int 1))) (mSeq (mIf (mTru (mBin ltD (mVar 2) (mBin powD (mC (.int 10)) (mC (.int 18))))) (mRet (mBin modD (mUn intS (mCall F__law_mixed [] [.e (mBin modD (mUn intS (mVar 2)) (mC (.int 2147483399))), .e (mBin ixD (mVar 0) (mC (.int 1)))])) (mVar 1))) mNx) (mSt 0 (mVar 2) (mC (.int 2)))))) mNx) (mSeq (mIf (mTru (mBin gtD (mBin ixD (mVar 0) (mC (.int 2))) (mC (.int 0)))) (mSeq (mSet 3 (mBin ixD (mVar 0) (mC (.int 2)))) (mSeq (mSt 0 (mBin fdivD (mUn intS (mVar 3)) (mVar 1)) (mC (.int 2))) (mRet (mBin modD (mUn intS (mVar 3)) (mVar 1))))) mNx) (mSeq (mSt 0 (mBin modD (mUn intS (mBin addA (mBin ixD (mVar 0) (mC (.int 3))) (mC (.int 1)))) (mC (.int 2147483549))) (mC (.int 3))) (mRet (mBin modD (mUn intS (mCall F__law_mixed [] [.e (mBin ixD (mVar 0) (mC (.int 3))), .e (mBin ixD (mVar 0) (mC (.int 1)))])) (mVar 1))))))
def F__law_take : List D → FR := mFn 4 [0] false m__law_take
def m_is_whole : Gm → SE := (mSeq (mIf (mOrT (mNotT (mTru (mUn (isiD .int) (mVar 0)))) (mTru (mUn (isiD .bl) (mVar 0)))) (mRet (mC (.bl false))) mNx) (mSeq (mIf (mAndT (mTru (mBin isnotD (mVar 1) (mC .non))) (mTru (mBin ltD (mVar 0) (mVar 1)))) (mRet (mC (.bl false))) mNx) (mRet (mOrV (mBin isD (mVar 2) (mC .non)) (mBin leD (mVar 0) (mVar 2))))))
def F_is_whole : List D → FR := mFn 3 [] false m_is_whole
def m_check_number : Gm → SE := (mSeq (mIf (mNotT (mTru (mCall F_is_whole [] [.e (mVar 0), .e (mVar 1), .e (mVar 2)]))) (mRaise "BadNumber" [] []) mNx) (mRet (mVar 0)))
def F_check_number : List D → FR := mFn 3 [] false m_check_number
def m_check_modulus : Gm → SE := (mIf (mNotT (mTru (mCall F_is_whole [] [.e (mVar 0), .e (mVar 1), .e (mC (.int 1000000))]))) (mRaise "BadModulus" [] []) mNx)
def F_check_modulus : List D → FR := mFn 2 [] false m_check_modulus
def m_check_rest : Gm → SE := (mIf (mNotT (mTru (mCall F_is_whole [] [.e (mVar 0), .e (mC (.int 0)), .e (mBin subD (mVar 1) (mC (.int 1)))]))) (mRaise "BadRest" [] []) mNx)
def F_check_rest : List D → FR := mFn 2 [] false m_check_rest
def m_lifting_step_b1 : Gm → SE := (mSeq (mSet 3 (mBin subD (mVar 3) (mC (.int 1)))) (mSet 4 (mBin subD (mVar 4) (mBin ixD (mVar 0) (mVar 3)))))
def m_lifting_step_t2 : Gm → R Bool := (mTru (mBin gtD (mVar 4) (mC (.int 0))))
def m_lifting_step_b3 : Gm → SE := (mSeq (mSet 4 (mBin addA (mBin subD (mVar 4) (mC (.int 1))) (mBin ixD (mVar 0) (mVar 3)))) (mSet 3 (mBin addA (mVar 3) (mC (.int 1)))))
def m_lifting_step_t4 : Gm → R Bool := (mTru (mBin gtD (mVar 4) (mC (.int 0))))
def m_lifting_step : Gm → SE := (mSeq (mSet 2 (mUn sumD (mVar 0))) (mSeq (mIf (mTru (mBin leD (mVar 1) (mVar 2))) (mSeq (mSet 3 (mUn lenD (mVar 0))) (mSeq (mSet 4 (mVar 1)) (mSeq (mWhile m_lifting_step_t2 m_lifting_step_b1) (mRet (mTup [(mVar 3), (mC (.int 0))]))))) mNx) (mSeq (mSet 3 (mC (.int 0))) (mSeq (mSet 4 (mBin subD (mBin subD (mVar 1) (mVar 2)) (mC (.int 1)))) (mSeq (mWhile m_lifting_step_t4 m_lifting_step_b3) (mRet (mTup [(mVar 3), (mC (.int 1))])))))))
def F_lifting_step : List D → FR := mFn 5 [] false m_lifting_step
def m_lift_word : Gm → SE := (mSeq (mUnp (gT (gsCons (gN 2) (gsCons (gN 3) gsNil))) (mCall F_lifting_step [] [.e (mVar 0), .e (mVar 1)])) (mRet (mBin addA (mBin addA (mSl slA (mVar 0) mNoP (mP (mVar 2))) (mTup [(mVar 3)])) (mSl slA (mVar 0) (mP (mVar 2)) mNoP))))
def F_lift_word : List D → FR := mFn 4 [] false m_lift_word
def m_NearPair___init__ : Gm → SE := (mSeq (mStF dm_one 0 "one" (mVar 1)) (mSeq (mStF dm_other 0 "other" (mVar 2)) (mSeq (mStF dm_below 0 "below" (mVar 3)) (mStF dm_above 0 "above" (mVar 4)))))
def F_NearPair___init__ : List D → FR := mFn 5 [0] false m_NearPair___init__
def m_modulus_clash_ce1 : Gm → R D := (mIte (mTru (mBin eqD (mVar 5) (mVar 2))) (mC (.int 1)) (mC (.int 0)))
def m_modulus_clash : Gm → SE := (mSeq (mEx (mCall F_check_number [] [.e (mVar 0), .e (mC (.int 0)), .e (mC (.int 200))])) (mSeq (mEx (mCall F_check_modulus [] [.e (mVar 1), .e (mC (.int 1))])) (mSeq (mEx (mCall F_check_rest [] [.e (mVar 2), .e (mVar 1)])) (mSeq (mIf (mTru (mBin gtD (mVar 1) (mVar 0))) (mRet (mC .non)) mNx) (mSeq (mSet 3 (mUn tupleD (mLc [5] (mR2 (mC (.int 1)) (mVar 0)) (gN 5) mYes m_modulus_clash_ce1))) (mSeq (mSet 4 (mCall F_lift_word [] [.e (mVar 3), .e (mVar 1)])) (mRet (mMake "NearPair" F_NearPair___init__ [] [.e (mBin addA (mVar 3) (mTup [(mC (.int 0))])), .e (mVar 4), .e (mVar 3), .e (mBin addA (mVar 4) (mTup [(mC (.int 0))]))]))))))))
def F_modulus_clash : List D → FR := mFn 6 [] false m_modulus_clash
def m__law_refused_try1 : Gm → SE := (mEx (mCall F_modulus_clash [] [.e (mVar 0), .e (mVar 1), .e (mVar 2)]))
def m__law_refused : Gm → SE := (mSeq (mTry isa m__law_refused_try1 [("BadNumber", fun Γ => noEx ((mRet (mC (.str "number"))) Γ)), ("BadModulus", fun Γ => noEx ((mRet (mC (.str "modulus"))) Γ)), ("BadRest", fun Γ => noEx ((mRet (mC (.str "rest"))) Γ))]) (mRet (mC .non)))
def F__law_refused : List D → FR := mFn 3 [] false m__law_refused
def m_SumBook_is_full : Gm → SE := (mRet (mBin eqD (mUn (fldD dm_modulus "modulus") (mVar 0)) (mBin addA (mUn (fldD dm_length "length") (mVar 0)) (mC (.int 1)))))
def F_SumBook_is_full : List D → FR := mFn 1 [] false m_SumBook_is_full
def tp_is_full : List (Str × (List D → FR)) := [("SumBook", F_SumBook_is_full)]
def m_word_of_sum_b1 : Gm → SE := (mIf (mTru (mBin leD (mVar 3) (mVar 1))) (mSeq (mSt 2 (mC (.int 1)) (mBin subD (mVar 3) (mC (.int 1)))) (mSet 1 (mBin subD (mVar 1) (mVar 3)))) mNx)
def m_word_of_sum : Gm → SE := (mSeq (mSet 2 (mBin mulL (mLst [(mC (.int 0))]) (mVar 0))) (mSeq (mFor (mR3 (mVar 0) (mC (.int 0)) (mUn negD (mC (.int 1)))) (gN 3) m_word_of_sum_b1) (mRet (mUn tupleD (mVar 2)))))
def F_word_of_sum : List D → FR := mFn 4 [] false m_word_of_sum
def m_unread_word : Gm → SE := (mSeq (mEx (mCall F_check_number [] [.e (mUn (fldD dm_length "length") (mVar 0)), .e (mC (.int 1)), .e (mC (.int 200))])) (mSeq (mIf (mTru (mProp tp_is_full (mVar 0))) (mRet (mC .non)) mNx) (mSeq (mIf (mTru (mBin gtD (mUn (fldD dm_rest "rest") (mVar 0)) (mUn (fldD dm_length "length") (mVar 0)))) (mRet (mCall F_word_of_sum [] [.e (mBin subD (mUn (fldD dm_length "length") (mVar 0)) (mC (.int 1))), .e (mC (.int 0))])) mNx) (mSeq (mIf (mTru (mBin ltD (mUn (fldD dm_rest "rest") (mVar 0)) (mBin fdivD (mBin mulA (mUn (fldD dm_length "length") (mVar 0)) (mBin subD (mUn (fldD dm_length "length") (mVar 0)) (mC (.int 1)))) (mC (.int 2))))) (mRet (mCall F_word_of_sum [] [.e (mBin subD (mUn (fldD dm_length "length") (mVar 0)) (mC (.int 1))), .e (mBin addA (mUn (fldD dm_rest "rest") (mVar 0)) (mC (.int 1)))])) mNx) (mRet (mC .non))))))
def F_unread_word : List D → FR := mFn 1 [] false m_unread_word
def m__law_odd : Gm → SE := (mRet (mBin ixD (mLst [(mUn negD (mC (.int 1))), (mBin addA (mVar 1) (mC (.int 1))), (mC (.bl true)), (mC .non), (mC (.str "1")), (mTup [(mC (.int 0))]), (mBin subD (mUn negD (mC (.int 1))) (mCall F__law_take [] [.p 0, .e (mBin powD (mC (.int 10)) (mC (.int 6)))])), (mBin addA (mBin addA (mVar 1) (mC (.int 1))) (mCall F__law_take [] [.p 0, .e (mBin powD (mC (.int 10)) (mC (.int 6)))]))]) (mCall F__law_take [] [.p 0, .e (mC (.int 8))])))
def F__law_odd : List D → FR := mFn 2 [0] false m__law_odd
def m_SumBook___init__ : Gm → SE := (mSeq (mEx (mCall F_check_number [] [.e (mVar 1), .e (mC (.int 0)), .e (mC (.int 200))])) (mSeq (mEx (mCall F_check_modulus [] [.e (mVar 2), .e (mBin addA (mVar 1) (mC (.int 1)))])) (mSeq (mEx (mCall F_check_rest [] [.e (mVar 3), .e (mVar 2)])) (mSeq (mStF dm_length 0 "length" (mVar 1)) (mSeq (mStF dm_modulus 0 "modulus" (mVar 2)) (mStF dm_rest 0 "rest" (mVar 3)))))))
def F_SumBook___init__ : List D → FR := mFn 4 [0] false m_SumBook___init__
def m__law_refusals_try1 : Gm → SE := (mEx (mCall F_unread_word [] [.e (mMake "SumBook" F_SumBook___init__ [] [.e (mC (.int 0)), .e (mBin addA (mC (.int 1)) (mCall F__law_take [] [.p 0, .e (mC (.int 5))])), .e (mC (.int 0))])]))
def m__law_refusals : Gm → SE := (mSeq (mSet 2 (mBin addA (mC (.int 1)) (mCall F__law_take [] [.p 0, .e (mC (.int 300))]))) (mSeq (mSet 3 (mBin ixD (mLst [(mC (.int 0)), (mC (.bl true)), (mUn negD (mCall F__law_take [] [.p 0, .e (mBin powD (mC (.int 10)) (mC (.int 6)))])), (mBin addA (mBin powD (mC (.int 10)) (mC (.int 6))) (mC (.int 1))), (mC .non)]) (mCall F__law_take [] [.p 0, .e (mC (.int 5))]))) (mSeq (mSet 4 (mCall F__law_take [] [.p 0, .e (mC (.int 2))])) (mSeq (mIf (mTru (mBin neD (mCall F__law_refused [] [.e (mCall F__law_odd [] [.p 0, .e (mC (.int 200))]), .e (mBin ixD (mLst [(mVar 2), (mVar 3)]) (mVar 4)), .e (mBin ixD (mLst [(mC (.int 0)), (mUn negD (mC (.int 1)))]) (mCall F__law_take [] [.p 0, .e (mC (.int 2))]))]) (mC (.str "number")))) (mRet (mC (.bl false))) mNx) (mSeq (mIf (mOrT (mTru (mBin neD (mCall F__law_refused [] [.e (mVar 1), .e (mVar 3), .e (mBin ixD (mLst [(mC (.int 0)), (mC .non)]) (mVar 4))]) (mC (.str "modulus")))) (mTru (mBin neD (mCall F__law_refused [] [.e (mVar 1), .e (mVar 2), .e (mCall F__law_odd [] [.p 0, .e (mBin subD (mVar 2) (mC (.int 1)))])]) (mC (.str "rest"))))) (mRet (mC (.bl false))) mNx) (mSeq (mTry isa m__law_refusals_try1 [("BadNumber", fun Γ => noEx ((mRet (mC (.bl true))) Γ))]) (mRet (mC (.bl false)))))))))
def F__law_refusals : List D → FR := mFn 5 [0] false m__law_refusals
def m__law_book_of : Gm → SE := (mSeq (mSet 2 (mBin ixD (mLst [(mC (.int 0)), (mC (.int 0)), (mC (.int 0)), (mC (.int 0)), (mC (.int 1)), (mBin addA (mC (.int 1)) (mCall F__law_take [] [.p 0, .e (mBin addA (mVar 1) (mC (.int 2)))])), (mCall F__law_take [] [.p 0, .e (mBin subD (mBin powD (mC (.int 10)) (mC (.int 6))) (mVar 1))])]) (mCall F__law_take [] [.p 0, .e (mC (.int 7))]))) (mSeq (mSet 3 (mBin addA (mBin addA (mVar 1) (mC (.int 1))) (mVar 2))) (mSeq (mSet 4 (mCall F__law_take [] [.p 0, .e (mBin min2D (mVar 3) (mBin addA (mBin fdivD (mBin mulA (mVar 1) (mBin addA (mVar 1) (mC (.int 1)))) (mC (.int 2))) (mC (.int 1))))])) (mSeq (mIf (mTru (mBin eqD (mCall F__law_take [] [.p 0, .e (mC (.int 2))]) (mC (.int 0)))) (mSet 4 (mCall F__law_take [] [.p 0, .e (mVar 3)])) mNx) (mRet (mLst [(mVar 1), (mVar 3), (mVar 4)]))))))
def F__law_book_of : List D → FR := mFn 5 [0] false m__law_book_of
def m__law_whole : Gm → SE := (mRet (mAndV (mUn (isiD .int) (mVar 0)) (mNotV (mUn (isiD .bl) (mVar 0)))))
def F__law_whole : List D → FR := mFn 1 [] false m__law_whole
def m__law_is_word_ce1 : Gm → R D := (mAndV (mCall F__law_whole [] [.e (mVar 2)]) (mChain leD leD (mC (.int 0)) (mVar 2) (mC (.int 1))))
def m__law_is_word : Gm → SE := (mSeq (mIf (mOrT (mNotT (mTru (mUn (isiD .tup) (mVar 0)))) (mTru (mBin neD (mUn lenD (mVar 0)) (mVar 1)))) (mRet (mC (.bl false))) mNx) (mRet (mUn allD (mLc [2] (mItX (mVar 0)) (gN 2) mYes m__law_is_word_ce1))))
def F__law_is_word : List D → FR := mFn 3 [] false m__law_is_word
def m__law_is_below_b1 : Gm → SE := (mIf (mAndT (mTru (mBin ltD (mVar 2) (mUn lenD (mVar 0)))) (mTru (mBin eqD (mBin ixD (mVar 0) (mVar 2)) (mVar 3)))) (mSet 2 (mBin addA (mVar 2) (mC (.int 1)))) mNx)
def m__law_is_below : Gm → SE := (mSeq (mSet 2 (mC (.int 0))) (mSeq (mFor (mItX (mVar 1)) (gN 3) m__law_is_below_b1) (mRet (mBin eqD (mVar 2) (mUn lenD (mVar 0))))))
def F__law_is_below : List D → FR := mFn 4 [] false m__law_is_below
def m__law_sum_ce1 : Gm → R D := (mBin mulA (mBin addA (mVar 1) (mC (.int 1))) (mBin ixD (mVar 0) (mVar 1)))
def m__law_sum : Gm → SE := (mRet (mUn sumD (mLc [1] (mR1 (mUn lenD (mVar 0))) (gN 1) mYes m__law_sum_ce1)))
def F__law_sum : List D → FR := mFn 2 [] false m__law_sum
def m__law_clash_right_b1 : Gm → SE := (mIf (mOrT (mNotT (mTru (mCall F__law_is_word [] [.e (mVar 5), .e (mVar 0)]))) (mTru (mBin neD (mBin modD (mUn intS (mCall F__law_sum [] [.e (mVar 5)])) (mVar 1)) (mVar 2)))) (mRet (mC (.bl false))) mNx)
def m__law_clash_right_ce2 : Gm → R D := (mAndV (mCall F__law_is_below [] [.e (mUn (fldD dm_below "below") (mVar 3)), .e (mVar 5)]) (mCall F__law_is_below [] [.e (mVar 5), .e (mUn (fldD dm_above "above") (mVar 3))]))
def m__law_clash_right : Gm → SE := (mSeq (mIf (mNotT (mTru (mUn (isoD dmAll "NearPair") (mVar 3)))) (mRet (mC (.bl false))) mNx) (mSeq (mSet 4 (mLst [(mUn (fldD dm_one "one") (mVar 3)), (mUn (fldD dm_other "other") (mVar 3))])) (mSeq (mFor (mItX (mVar 4)) (gN 5) m__law_clash_right_b1) (mSeq (mIf (mOrT (mTru (mBin eqD (mUn (fldD dm_one "one") (mVar 3)) (mUn (fldD dm_other "other") (mVar 3)))) (mOrT (mNotT (mTru (mCall F__law_is_word [] [.e (mUn (fldD dm_below "below") (mVar 3)), .e (mBin subD (mVar 0) (mC (.int 1)))]))) (mNotT (mTru (mCall F__law_is_word [] [.e (mUn (fldD dm_above "above") (mVar 3)), .e (mBin addA (mVar 0) (mC (.int 1)))]))))) (mRet (mC (.bl false))) mNx) (mRet (mUn allD (mLc [5] (mItX (mVar 4)) (gN 5) mYes m__law_clash_right_ce2)))))))
def F__law_clash_right : List D → FR := mFn 6 [] false m__law_clash_right
def m__law_modulus_right : Gm → SE := (mSeq (mSet 3 (mCall F_modulus_clash [] [.e (mVar 0), .e (mVar 1), .e (mVar 2)])) (mSeq (mIf (mTru (mBin isD (mVar 3) (mC .non))) (mRet (mBin gtD (mVar 1) (mVar 0))) mNx) (mRet (mAndV (mBin leD (mVar 1) (mVar 0)) (mCall F__law_clash_right [] [.e (mVar 0), .e (mVar 1), .e (mVar 2), .e (mVar 3)])))))
def F__law_modulus_right : List D → FR := mFn 4 [] false m__law_modulus_right
def m_sum_places_b1 : Gm → SE := (mSet 1 (mBin addA (mVar 1) (mBin mulA (mBin addA (mVar 2) (mC (.int 1))) (mVar 3))))
def m_sum_places : Gm → SE := (mSeq (mSet 1 (mC (.int 0))) (mSeq (mFor (mEnumX (mVar 0)) (gT (gsCons (gN 2) (gsCons (gN 3) gsNil))) m_sum_places_b1) (mRet (mVar 1))))
def F_sum_places : List D → FR := mFn 4 [] false m_sum_places
def m_loss_amount : Gm → SE := (mSeq (mSet 2 (mBin modD (mBin subD (mUn (fldD dm_rest "rest") (mVar 0)) (mCall F_sum_places [] [.e (mVar 1)])) (mUn (fldD dm_modulus "modulus") (mVar 0)))) (mSeq (mIf (mTru (mBin gtD (mVar 2) (mUn (fldD dm_length "length") (mVar 0)))) (mRet (mC .non)) mNx) (mRet (mVar 2))))
def F_loss_amount : List D → FR := mFn 3 [] false m_loss_amount
def m_member_above : Gm → SE := (mSeq (mSet 2 (mCall F_loss_amount [] [.e (mVar 0), .e (mVar 1)])) (mSeq (mIf (mTru (mBin isD (mVar 2) (mC .non))) (mRet (mC .non)) mNx) (mRet (mCall F_lift_word [] [.e (mVar 1), .e (mVar 2)]))))
def F_member_above : List D → FR := mFn 3 [] false m_member_above
def m_check_word_b1 : Gm → SE := (mIf (mNotT (mTru (mCall F_is_whole [] [.e (mVar 4), .e (mC (.int 0)), .e (mBin subD (mVar 0) (mC (.int 1)))]))) (mRaise "BadWord" [("index", 0)] [(mVar 3)]) mNx)
def m_check_word : Gm → SE := (mSeq (mIf (mOrT (mNotT (mTru (mUn (isi2D .lst .tup) (mVar 1)))) (mTru (mBin gtD (mUn lenD (mVar 1)) (mVar 2)))) (mRaise "BadWord" [("index", 0)] [(mUn negD (mC (.int 1)))]) mNx) (mSeq (mFor (mEnumX (mVar 1)) (gT (gsCons (gN 3) (gsCons (gN 4) gsNil))) m_check_word_b1) (mRet (mUn tupleD (mVar 1)))))
def F_check_word : List D → FR := mFn 5 [] false m_check_word
def m_check_read : Gm → SE := (mSeq (mSet 0 (mCall F_check_word [] [.e (mC (.int 2)), .e (mVar 0), .e (mBin addA (mC (.int 200)) (mC (.int 1)))])) (mSeq (mIf (mTru (mBin neD (mUn lenD (mVar 0)) (mVar 1))) (mRaise "NotOneOff" [] []) mNx) (mRet (mVar 0))))
def F_check_read : List D → FR := mFn 2 [] false m_check_read
def m_read_lost : Gm → SE := (mRet (mCall F_member_above [] [.e (mVar 0), .e (mCall F_check_read [] [.e (mVar 1), .e (mBin subD (mUn (fldD dm_length "length") (mVar 0)) (mC (.int 1)))])]))
def F_read_lost : List D → FR := mFn 2 [] false m_read_lost
def m__law_is_unread : Gm → SE := (mRet (mBin gtD (mBin modD (mUn intS (mBin subD (mBin ixD (mVar 0) (mC (.int 2))) (mCall F__law_sum [] [.e (mVar 1)]))) (mBin ixD (mVar 0) (mC (.int 1)))) (mBin ixD (mVar 0) (mC (.int 0)))))
def F__law_is_unread : List D → FR := mFn 2 [] false m__law_is_unread
def m__law_unread_right : Gm → SE := (mSeq (mSet 2 (mBin ixD (mVar 1) (mC (.int 0)))) (mSeq (mSet 3 (mCall F_unread_word [] [.e (mVar 0)])) (mSeq (mSet 4 (mOrV (mBin eqD (mBin ixD (mVar 1) (mC (.int 1))) (mBin addA (mVar 2) (mC (.int 1)))) (mAndV (mBin ltD (mVar 2) (mC (.int 4))) (mChain leD leD (mBin fdivD (mBin mulA (mVar 2) (mBin subD (mVar 2) (mC (.int 1)))) (mC (.int 2))) (mBin ixD (mVar 1) (mC (.int 2))) (mVar 2))))) (mSeq (mIf (mTru (mBin isD (mVar 3) (mC .non))) (mRet (mVar 4)) mNx) (mSeq (mIf (mOrT (mTru (mVar 4)) (mOrT (mNotT (mTru (mCall F__law_is_word [] [.e (mVar 3), .e (mBin subD (mVar 2) (mC (.int 1)))]))) (mNotT (mTru (mCall F__law_is_unread [] [.e (mVar 1), .e (mVar 3)]))))) (mRet (mC (.bl false))) mNx) (mRet (mBin isD (mCall F_read_lost [] [.e (mVar 0), .e (mVar 3)]) (mC .non))))))))
def F__law_unread_right : List D → FR := mFn 5 [] false m__law_unread_right
def m__law_all_words_ce1 : Gm → R D := (mBin addA (mVar 5) (mTup [(mVar 6)]))
def m__law_all_words_b2 : Gm → SE := (mSet 4 (mBin addA (mVar 4) (mLc [6] (mR1 (mVar 0)) (gN 6) mYes m__law_all_words_ce1)))
def m__law_all_words_b3 : Gm → SE := (mSeq (mSet 4 (mLst [])) (mSeq (mFor (mItX (mVar 2)) (gN 5) m__law_all_words_b2) (mSet 2 (mVar 4))))
def m__law_all_words : Gm → SE := (mSeq (mSet 2 (mLst [(mTup [])])) (mSeq (mFor (mR1 (mVar 1)) (gN 3) m__law_all_words_b3) (mRet (mVar 2))))
def F__law_all_words : List D → FR := mFn 7 [] false m__law_all_words
def m__law_has_clash_b1 : Gm → SE := (mSeq (mSet 6 (mBin addA (mSl slA (mVar 4) mNoP (mP (mVar 5))) (mSl slA (mVar 4) (mP (mBin addA (mVar 5) (mC (.int 1)))) mNoP))) (mSeq (mIf (mTru (mBin neD (mGet2' (mVar 3) (mVar 6) (mVar 4)) (mVar 4))) (mRet (mC (.bl true))) mNx) (mStX 3 (mVar 4) (mVar 6))))
def m__law_has_clash_b2 : Gm → SE := (mIf (mTru (mBin eqD (mBin modD (mUn intS (mBin subD (mCall F__law_sum [] [.e (mVar 4)]) (mVar 2))) (mVar 1)) (mC (.int 0)))) (mFor (mR1 (mVar 0)) (gN 5) m__law_has_clash_b1) mNx)
def m__law_has_clash : Gm → SE := (mSeq (mSet 3 (mC (.dtt []))) (mSeq (mFor (mItX (mCall F__law_all_words [] [.e (mC (.int 2)), .e (mVar 0)])) (gN 4) m__law_has_clash_b2) (mRet (mC (.bl false)))))
def F__law_has_clash : List D → FR := mFn 7 [] false m__law_has_clash
def m__law_more_one_ce1 : Gm → R D := (mBin addA (mBin addA (mSl slA (mVar 1) mNoP (mP (mVar 3))) (mTup [(mVar 4)])) (mSl slA (mVar 1) (mP (mVar 3)) mNoP))
def m__law_more_one_b2 : Gm → SE := (mSet 2 (mBin addA (mVar 2) (mLc [4] (mR1 (mVar 0)) (gN 4) mYes m__law_more_one_ce1)))
def m__law_more_one : Gm → SE := (mSeq (mSet 2 (mLst [])) (mSeq (mFor (mR1 (mBin addA (mUn lenD (mVar 1)) (mC (.int 1)))) (gN 3) m__law_more_one_b2) (mRet (mUn srtSetD (mVar 2)))))
def F__law_more_one : List D → FR := mFn 5 [] false m__law_more_one
def m__law_small_unread_b1 : Gm → SE := (mIf (mTru (mBin eqD (mBin modD (mUn intS (mBin subD (mCall F__law_sum [] [.e (mVar 3)]) (mBin ixD (mVar 0) (mC (.int 2))))) (mBin ixD (mVar 0) (mC (.int 1)))) (mC (.int 0)))) (mStX 2 (mC (.bl true)) (mVar 3)) mNx)
def m__law_small_unread_ce2 : Gm → R D := (mBin notinX (mVar 3) (mVar 2))
def m__law_small_unread_b3 : Gm → SE := (mIf (mTru (mUn allD (mLc [3] (mItX (mCall F__law_more_one [] [.e (mC (.int 2)), .e (mVar 4)])) (gN 3) mYes m__law_small_unread_ce2))) (mRet (mC (.bl true))) mNx)
def m__law_small_unread : Gm → SE := (mSeq (mSet 1 (mBin ixD (mVar 0) (mC (.int 0)))) (mSeq (mSet 2 (mC (.dtt []))) (mSeq (mFor (mItX (mCall F__law_all_words [] [.e (mC (.int 2)), .e (mVar 1)])) (gN 3) m__law_small_unread_b1) (mSeq (mFor (mItX (mCall F__law_all_words [] [.e (mC (.int 2)), .e (mBin subD (mVar 1) (mC (.int 1)))])) (gN 4) m__law_small_unread_b3) (mRet (mC (.bl false)))))))
def F__law_small_unread : List D → FR := mFn 5 [] false m__law_small_unread
def m_law_b1 : Gm → SE := (mSeq (mSet 4 (mCall F__law_take [] [.p 1, .e (mVar 3)])) (mIf (mOrT (mTru (mBin neD (mCall F__law_has_clash [] [.e (mVar 2), .e (mVar 3), .e (mVar 4)]) (mBin leD (mVar 3) (mVar 2)))) (mNotT (mTru (mCall F__law_modulus_right [] [.e (mVar 2), .e (mVar 3), .e (mVar 4)])))) (mRet (mC (.bl false))) mNx))
def m_law_b2 : Gm → SE := (mSeq (mSet 2 (mCall F__law_take [] [.p 1, .e (mBin ixD (mLst [(mC (.int 9)), (mC (.int 201))]) (mBin fdivD (mVar 5) (mC (.int 2))))])) (mSeq (mSet 3 (mBin ixD (mLst [(mBin addA (mC (.int 1)) (mCall F__law_take [] [.p 1, .e (mBin addA (mVar 2) (mC (.int 2)))])), (mBin max2D (mC (.int 1)) (mVar 2)), (mBin addA (mVar 2) (mC (.int 1))), (mBin addA (mC (.int 1)) (mCall F__law_take [] [.p 1, .e (mBin powD (mC (.int 10)) (mC (.int 6)))]))]) (mCall F__law_take [] [.p 1, .e (mC (.int 4))]))) (mSeq (mSet 4 (mBin ixD (mLst [(mC (.int 0)), (mBin subD (mVar 3) (mC (.int 1))), (mCall F__law_take [] [.p 1, .e (mVar 3)])]) (mCall F__law_take [] [.p 1, .e (mC (.int 3))]))) (mSeq (mIf (mNotT (mTru (mCall F__law_modulus_right [] [.e (mVar 2), .e (mVar 3), .e (mVar 4)]))) (mRet (mC (.bl false))) mNx) (mSeq (mSet 6 (mCall F__law_book_of [] [.p 1, .e (mBin addA (mC (.int 1)) (mCall F__law_take [] [.p 1, .e (mBin ixD (mLst [(mC (.int 5)), (mC (.int 200))]) (mBin fdivD (mVar 5) (mC (.int 2))))]))])) (mSeq (mSet 7 (mMake "SumBook" F_SumBook___init__ [] [.e (mBin ixD (mVar 6) (mC (.int 0))), .e (mBin ixD (mVar 6) (mC (.int 1))), .e (mBin ixD (mVar 6) (mC (.int 2)))])) (mSeq (mIf (mNotT (mTru (mCall F__law_unread_right [] [.e (mVar 7), .e (mVar 6)]))) (mRet (mC (.bl false))) mNx) (mIf (mAndT (mTru (mBin ltD (mVar 5) (mC (.int 2)))) (mTru (mBin neD (mCall F__law_small_unread [] [.e (mVar 6)]) (mBin isnotD (mCall F_unread_word [] [.e (mVar 7)]) (mC .non))))) (mRet (mC (.bl false))) mNx))))))))
def m_law : Gm → SE := (mSeq (mSet 1 (mCall F__law_hand [] [.e (mVar 0)])) (mSeq (mSet 2 (mCall F__law_take [] [.p 1, .e (mC (.int 7))])) (mSeq (mFor (mR2 (mC (.int 1)) (mBin addA (mVar 2) (mC (.int 3)))) (gN 3) m_law_b1) (mSeq (mFor (mR1 (mC (.int 4))) (gN 5) m_law_b2) (mRet (mCall F__law_refusals [] [.p 1, .e (mVar 2)]))))))
def F_law : List D → FR := mFn 8 [] false m_law
structure Wd (K : PySem.W.Frag) (mg : Str → Option Value) : Prop where
  n_abs : mg "abs" = none
  n_all : mg "all" = none
  n_bool : mg "bool" = none
  n_enumerate : mg "enumerate" = none
  n_int : mg "int" = none
  n_isinstance : mg "isinstance" = none
  n_len : mg "len" = none
  n_list : mg "list" = none
  n_max : mg "max" = none
  n_min : mg "min" = none
  n_range : mg "range" = none
  n_set : mg "set" = none
  n_sorted : mg "sorted" = none
  n_sum : mg "sum" = none
  n_tuple : mg "tuple" = none
  i_MOST_LENGTH : ∃ t, mg "MOST_LENGTH" = some (.int 200 t)
  i_MOST_MODULUS : ∃ t, mg "MOST_MODULUS" = some (.int 1000000 t)
  m_BadModulus : mg "BadModulus" = some (.ref (He.ga K "BadModulus"))
  isa_BadModulus : IsaC K mg isa "BadModulus" (.ref (He.ga K "BadModulus"))
  m_BadNumber : mg "BadNumber" = some (.ref (He.ga K "BadNumber"))
  isa_BadNumber : IsaC K mg isa "BadNumber" (.ref (He.ga K "BadNumber"))
  m_BadRest : mg "BadRest" = some (.ref (He.ga K "BadRest"))
  isa_BadRest : IsaC K mg isa "BadRest" (.ref (He.ga K "BadRest"))
  f_above : FldD K mg dm_above "above"
  f_below : FldD K mg dm_below "below"
  f_length : FldD K mg dm_length "length"
  f_modulus : FldD K mg dm_modulus "modulus"
  f_one : FldD K mg dm_one "one"
  f_other : FldD K mg dm_other "other"
  f_rest : FldD K mg dm_rest "rest"
  o_NearPair : ∃ C, IsoK K mg dmAll "NearPair" C
  z : True
theorem sc_BadNumber_init : FnScope ["self"] ["self"] (defScope s_BadNumber_init) := ⟨rfl, rfl, rfl, by decide +kernel, rfl, by decide +kernel, by decide +kernel⟩
theorem x_BadNumber {P : Program} {w : World} {K : PySem.W.Frag} {mg : Str → Option Value} {base : Heap} {f : Addr} {fd : FuncData} (b : BaseC K mg "PlaceError") (o : OexC K (He.ga K "BadNumber")) (fr : FreeF K (He.ga K "BadNumber") []) (hm : mg "BadNumber" = some (.ref (He.ga K "BadNumber"))) (iC : PySem.W.findIn K (.ref (He.ga K "BadNumber")) "__init__" = some (some (.ref f))) (tI : PySem.W.typeIn K (.ref f) = some (.type "function"))
    (F : FunD K "__init__" "BadNumber.__init__" (defArgs s_BadNumber_init) (defBody s_BadNumber_init) (defScope s_BadNumber_init) [] [] f fd) : ExK P w K mg base 1 "BadNumber" 0 [] := by
  refine ⟨_, f, fd, ["self"], o, hm, iC, tI, ?_, F.bindsN (fun _ _ _ _ _ _ us hl => match us, hl with | [_], _ => rfl)⟩
  exact init_okD o fr F sc_BadNumber_init rfl (fun cdv A outer s H E => (ini_cons (ini_call b) ini_nil))
theorem sc_BadWord_init : FnScope ["self", "index"] ["self", "index"] (defScope s_BadWord_init) := ⟨rfl, rfl, rfl, by decide +kernel, rfl, by decide +kernel, by decide +kernel⟩
theorem x_BadWord {P : Program} {w : World} {K : PySem.W.Frag} {mg : Str → Option Value} {base : Heap} {f : Addr} {fd : FuncData} (b : BaseC K mg "PlaceError") (o : OexC K (He.ga K "BadWord")) (fr : FreeF K (He.ga K "BadWord") ["index"]) (hm : mg "BadWord" = some (.ref (He.ga K "BadWord"))) (iC : PySem.W.findIn K (.ref (He.ga K "BadWord")) "__init__" = some (some (.ref f))) (tI : PySem.W.typeIn K (.ref f) = some (.type "function"))
    (F : FunD K "__init__" "BadWord.__init__" (defArgs s_BadWord_init) (defBody s_BadWord_init) (defScope s_BadWord_init) [] [] f fd) : ExK P w K mg base 1 "BadWord" 1 [("index", 0)] := by
  refine ⟨_, f, fd, ["self", "index"], o, hm, iC, tI, ?_, F.bindsN (fun _ _ _ _ _ _ us hl => match us, hl with | [_, _], _ => rfl)⟩
  exact init_okD o fr F sc_BadWord_init rfl (fun cdv A outer s H E => (ini_cons (ini_call b) (ini_cons (ini_fld 0) ini_nil)))
theorem sc_BadModulus_init : FnScope ["self"] ["self"] (defScope s_BadModulus_init) := ⟨rfl, rfl, rfl, by decide +kernel, rfl, by decide +kernel, by decide +kernel⟩
theorem x_BadModulus {P : Program} {w : World} {K : PySem.W.Frag} {mg : Str → Option Value} {base : Heap} {f : Addr} {fd : FuncData} (b : BaseC K mg "PlaceError") (o : OexC K (He.ga K "BadModulus")) (fr : FreeF K (He.ga K "BadModulus") []) (hm : mg "BadModulus" = some (.ref (He.ga K "BadModulus"))) (iC : PySem.W.findIn K (.ref (He.ga K "BadModulus")) "__init__" = some (some (.ref f))) (tI : PySem.W.typeIn K (.ref f) = some (.type "function"))
    (F : FunD K "__init__" "BadModulus.__init__" (defArgs s_BadModulus_init) (defBody s_BadModulus_init) (defScope s_BadModulus_init) [] [] f fd) : ExK P w K mg base 1 "BadModulus" 0 [] := by
  refine ⟨_, f, fd, ["self"], o, hm, iC, tI, ?_, F.bindsN (fun _ _ _ _ _ _ us hl => match us, hl with | [_], _ => rfl)⟩
  exact init_okD o fr F sc_BadModulus_init rfl (fun cdv A outer s H E => (ini_cons (ini_call b) ini_nil))
theorem sc_BadRest_init : FnScope ["self"] ["self"] (defScope s_BadRest_init) := ⟨rfl, rfl, rfl, by decide +kernel, rfl, by decide +kernel, by decide +kernel⟩
theorem x_BadRest {P : Program} {w : World} {K : PySem.W.Frag} {mg : Str → Option Value} {base : Heap} {f : Addr} {fd : FuncData} (b : BaseC K mg "PlaceError") (o : OexC K (He.ga K "BadRest")) (fr : FreeF K (He.ga K "BadRest") []) (hm : mg "BadRest" = some (.ref (He.ga K "BadRest"))) (iC : PySem.W.findIn K (.ref (He.ga K "BadRest")) "__init__" = some (some (.ref f))) (tI : PySem.W.typeIn K (.ref f) = some (.type "function"))
    (F : FunD K "__init__" "BadRest.__init__" (defArgs s_BadRest_init) (defBody s_BadRest_init) (defScope s_BadRest_init) [] [] f fd) : ExK P w K mg base 1 "BadRest" 0 [] := by
  refine ⟨_, f, fd, ["self"], o, hm, iC, tI, ?_, F.bindsN (fun _ _ _ _ _ _ us hl => match us, hl with | [_], _ => rfl)⟩
  exact init_okD o fr F sc_BadRest_init rfl (fun cdv A outer s H E => (ini_cons (ini_call b) ini_nil))
theorem sc_NotOneOff_init : FnScope ["self"] ["self"] (defScope s_NotOneOff_init) := ⟨rfl, rfl, rfl, by decide +kernel, rfl, by decide +kernel, by decide +kernel⟩
theorem x_NotOneOff {P : Program} {w : World} {K : PySem.W.Frag} {mg : Str → Option Value} {base : Heap} {f : Addr} {fd : FuncData} (b : BaseC K mg "PlaceError") (o : OexC K (He.ga K "NotOneOff")) (fr : FreeF K (He.ga K "NotOneOff") []) (hm : mg "NotOneOff" = some (.ref (He.ga K "NotOneOff"))) (iC : PySem.W.findIn K (.ref (He.ga K "NotOneOff")) "__init__" = some (some (.ref f))) (tI : PySem.W.typeIn K (.ref f) = some (.type "function"))
    (F : FunD K "__init__" "NotOneOff.__init__" (defArgs s_NotOneOff_init) (defBody s_NotOneOff_init) (defScope s_NotOneOff_init) [] [] f fd) : ExK P w K mg base 1 "NotOneOff" 0 [] := by
  refine ⟨_, f, fd, ["self"], o, hm, iC, tI, ?_, F.bindsN (fun _ _ _ _ _ _ us hl => match us, hl with | [_], _ => rfl)⟩
  exact init_okD o fr F sc_NotOneOff_init rfl (fun cdv A outer s H E => (ini_cons (ini_call b) ini_nil))
abbrev N__law_hand : List Str := ["_law_script", "_law_total", "_law_cells", "_law_cell"]
theorem sc__law_hand : FnScope N__law_hand ["_law_script"] (defScope s__law_hand) := ⟨rfl, rfl, rfl, by decide +kernel, rfl, by decide +kernel, by decide +kernel⟩
set_option maxRecDepth 100000 in
theorem d__law_hand {P : Program} {w : World} {K : PySem.W.Frag} {mg : Str → Option Value} {base : Heap} (G : Wd K mg) {f : Addr} {cdv : Value} {A : Around} {outer : List Env} {s : Shared} {H : Hp} {E : XK} {S : Sx} {C : Xd → Gm → Prop}
    (bd : Body (cxOf (L2.CX P w) P w K mg base N__law_hand "_law_hand" (defScope s__law_hand) f cdv A outer s H E) ⟨S, C, [], 4, [false, false, false, false], true, [], []⟩ 0) : DSs (cxOf (L2.CX P w) P w K mg base N__law_hand "_law_hand" (defScope s__law_hand) f cdv A outer s H E) ⟨S, C, [], 4, [false, false, false, false], true, [], []⟩ [false, false, false, false] (defBody s__law_hand) m__law_hand [false, false, false, false] := by
  have nd := sc__law_hand.nd
  exact (ss_cons (Δ1 := [false, false, false, false]) (ds_set bd.ob 1 nd (bo := false) (de_bin (bo := false) od_addA (de_call1 (bo := false) cd_len G.n_len Boot.«len» (de_var 0)) de_int (kim _)))
    (ss_cons (Δ1 := [false, false, true, false]) (ds_set bd.ob 2 nd (bo := true) (de_lst dl_nil))
    (ss_cons (Δ1 := [false, false, true, false]) (ds_for (Δ1 := [false, false, true, false]) (Δ2 := [false, false, true, false]) (mb := m__law_hand_b1) bd.hp (di_seqX (de_var 0)) (dg_n (bd.lp [false, false, true, false]).ob 3 nd) (ss_cons (Δ1 := [false, false, true, false]) (ds_set (bd.lp [false, false, true, false]).ob 1 nd (bo := false) (de_bin (bo := false) od_mod (de_ty1 (bo := false) cd_intS G.n_int Boot.«int» (de_bin (bo := false) od_addA (de_bin (bo := false) od_mulA (de_var 1) de_int (kim _)) (de_ty1 (bo := false) cd_intS G.n_int Boot.«int» (de_var 3)) (kim _))) de_int (kim _)))
    (ss_one (ds_app 2 (de_call1 (bo := false) cd_abs G.n_abs Boot.«abs» (de_ty1 (bo := false) cd_intS G.n_int Boot.«int» (de_var 3)))))))
    (ss_one (ds_retOw bd.ob rfl (de_lst (dl_cons (de_fz (Δ2 := [false, false, false, false]) (de_sl 2) rfl (by decide) (bd.ob.pm.own rfl)) (dl_cons de_int (dl_cons de_int (dl_cons (de_var 1) dl_nil))))))))))
abbrev N__law_mixed : List Str := ["_law_number", "_law_turn", "_law_once", "_law_twice"]
theorem sc__law_mixed : FnScope N__law_mixed ["_law_number", "_law_turn"] (defScope s__law_mixed) := ⟨rfl, rfl, rfl, by decide +kernel, rfl, by decide +kernel, by decide +kernel⟩
set_option maxRecDepth 100000 in
theorem d__law_mixed {P : Program} {w : World} {K : PySem.W.Frag} {mg : Str → Option Value} {base : Heap} (G : Wd K mg) {f : Addr} {cdv : Value} {A : Around} {outer : List Env} {s : Shared} {H : Hp} {E : XK} {S : Sx} {C : Xd → Gm → Prop}
    (bd : Body (cxOf (L2.CX P w) P w K mg base N__law_mixed "_law_mixed" (defScope s__law_mixed) f cdv A outer s H E) ⟨S, C, [], 4, [false, false, false, false], false, [], []⟩ 0) : DSs (cxOf (L2.CX P w) P w K mg base N__law_mixed "_law_mixed" (defScope s__law_mixed) f cdv A outer s H E) ⟨S, C, [], 4, [false, false, false, false], false, [], []⟩ [false, false, false, false] (defBody s__law_mixed) m__law_mixed [false, false, false, false] := by
  have nd := sc__law_mixed.nd
  exact (ss_cons (Δ1 := [false, false, false, false]) (ds_set bd.ob 2 nd (bo := false) (de_bin (bo := false) od_mod (de_ty1 (bo := false) cd_intS G.n_int Boot.«int» (de_bin (bo := false) od_addA (de_bin (bo := false) od_addA (de_bin (bo := false) od_mulA (de_var 0) de_int (kim _)) (de_bin (bo := false) od_mulA (de_var 1) de_int (kim _)) (kim _)) de_int (kim _))) de_int (kim _)))
    (ss_cons (Δ1 := [false, false, false, false]) (ds_set bd.ob 3 nd (bo := false) (de_bin (bo := false) od_mod (de_ty1 (bo := false) cd_intS G.n_int Boot.«int» (de_bin (bo := false) od_addA (de_bin (bo := false) od_addA (de_bin (bo := false) od_mulA (de_var 2) (de_var 2) (kim _)) (de_bin (bo := false) od_mulA (de_var 1) de_int (kim _)) (kim _)) (de_bin (bo := false) od_fdiv (de_var 2) de_int (kim _)) (kim _))) de_int (kim _)))
    (ss_one (ds_ret bd.ob rfl (de_bin (bo := false) od_fdiv (de_ty1 (bo := false) cd_intS G.n_int Boot.«int» (de_bin (bo := false) od_mod (de_ty1 (bo := false) cd_intS G.n_int Boot.«int» (de_bin (bo := false) od_addA (de_bin (bo := false) od_mulA (de_var 3) de_int (kim _)) (de_bin (bo := false) od_fdiv (de_var 2) de_int (kim _)) (kim _))) de_int (kim _))) de_int (kim _))))))
abbrev N__law_take : List Str := ["_law_hand_here", "_law_many", "_law_cell", "_law_rest"]
theorem sc__law_take : FnScope N__law_take ["_law_hand_here", "_law_many"] (defScope s__law_take) := ⟨rfl, rfl, rfl, by decide +kernel, rfl, by decide +kernel, by decide +kernel⟩
set_option maxRecDepth 100000 in
theorem d__law_take {P : Program} {w : World} {K : PySem.W.Frag} {mg : Str → Option Value} {base : Heap} (G : Wd K mg) (c__law_mixed_2 : Cal P w K mg base 1 "_law_mixed" F__law_mixed 2 [] false []) {f : Addr} {cdv : Value} {A : Around} {outer : List Env} {s : Shared} {H : Hp} {E : XK} {S : Sx} {C : Xd → Gm → Prop}
    (bd : Body (cxOf (L2.CX P w) P w K mg base N__law_take "_law_take" (defScope s__law_take) f cdv A outer s H E) ⟨S, C, [0], 4, [true, false, false, false], false, [], []⟩ 1) : DSs (cxOf (L2.CX P w) P w K mg base N__law_take "_law_take" (defScope s__law_take) f cdv A outer s H E) ⟨S, C, [0], 4, [true, false, false, false], false, [], []⟩ [true, false, false, false] (defBody s__law_take) m__law_take [true, false, false, false] := by
  have nd := sc__law_take.nd
  exact (ss_cons (Δ1 := [true, false, false, false]) (ds_if (dt_bool (dw_and (dt_cmp blf_eq (od_eq (by exact bd.hu)) (nomark _) (de_ix (bo := false) xd_ix (de_sl 0) de_int (kps (kp_c _))) de_int (kim _)) (dw_and1 (dt_cmp blf_cmp od_lt (nomark _) (de_ix (bo := false) xd_ix (de_sl 0) de_int (kps (kp_c _))) (de_call1 (bo := false) cd_len G.n_len Boot.«len» (de_ix (bo := false) xd_ix (de_sl 0) de_int (kps (kp_c _)))) (kim _))))) (ss_cons (Δ1 := [true, false, false, false]) (ds_set bd.ob 2 nd (bo := false) (de_ix (bo := false) xd_ix (de_ix (bo := false) xd_ix (de_sl 0) de_int (kps (kp_c _))) (de_ix (bo := false) xd_ix (de_sl 0) de_int (kps (kp_c _))) (kim _)))
    (ss_cons (Δ1 := [true, false, false, false]) (ds_st 0 (de_bin (bo := false) od_addA (de_ix (bo := false) xd_ix (de_sl 0) de_int (kps (kp_c _))) de_int (kim _)) de_int)
    (ss_cons (Δ1 := [true, false, false, false]) (ds_if (dt_cmp blf_cmp od_lt (nomark _) (de_var 2) (de_bin (bo := false) od_pow de_int de_int (kim _)) (kim _)) (ss_one (ds_ret bd.ob rfl (de_bin (bo := false) od_mod (de_ty1 (bo := false) cd_intS G.n_int Boot.«int» (de_callB bd c__law_mixed_2 (da_e (de_bin (bo := false) od_mod (de_ty1 (bo := false) cd_intS G.n_int Boot.«int» (de_var 2)) de_int (kim _)) (da_e (de_ix (bo := false) xd_ix (de_sl 0) de_int (kps (kp_c _))) da_nil)))) (de_var 1) (kim _)))) ss_nil)
    (ss_one (ds_st 0 (de_var 2) de_int))))) ss_nil)
    (ss_cons (Δ1 := [true, false, false, false]) (ds_if (dt_cmp blf_cmp od_gt (nomark _) (de_ix (bo := false) xd_ix (de_sl 0) de_int (kps (kp_c _))) de_int (kim _)) (ss_cons (Δ1 := [true, false, false, false]) (ds_set bd.ob 3 nd (bo := false) (de_ix (bo := false) xd_ix (de_sl 0) de_int (kps (kp_c _))))
    (ss_cons (Δ1 := [true, false, false, false]) (ds_st 0 (de_bin (bo := false) od_fdiv (de_ty1 (bo := false) cd_intS G.n_int Boot.«int» (de_var 3)) (de_var 1) (kim _)) de_int)
    (ss_one (ds_ret bd.ob rfl (de_bin (bo := false) od_mod (de_ty1 (bo := false) cd_intS G.n_int Boot.«int» (de_var 3)) (de_var 1) (kim _)))))) ss_nil)
    (ss_cons (Δ1 := [true, false, false, false]) (ds_st 0 (de_bin (bo := false) od_mod (de_ty1 (bo := false) cd_intS G.n_int Boot.«int» (de_bin (bo := false) od_addA (de_ix (bo := false) xd_ix (de_sl 0) de_int (kps (kp_c _))) de_int (kim _))) de_int (kim _)) de_int)
    (ss_one (ds_ret bd.ob rfl (de_bin (bo := false) od_mod (de_ty1 (bo := false) cd_intS G.n_int Boot.«int» (de_callB bd c__law_mixed_2 (da_e (de_ix (bo := false) xd_ix (de_sl 0) de_int (kps (kp_c _))) (da_e (de_ix (bo := false) xd_ix (de_sl 0) de_int (kps (kp_c _))) da_nil)))) (de_var 1) (kim _)))))))
abbrev N_is_whole : List Str := ["thing", "low", "high"]
theorem sc_is_whole : FnScope N_is_whole ["thing", "low", "high"] (defScope s_is_whole) := ⟨rfl, rfl, rfl, by decide +kernel, rfl, by decide +kernel, by decide +kernel⟩
set_option maxRecDepth 100000 in
theorem d_is_whole {P : Program} {w : World} {K : PySem.W.Frag} {mg : Str → Option Value} {base : Heap} (G : Wd K mg) {f : Addr} {cdv : Value} {A : Around} {outer : List Env} {s : Shared} {H : Hp} {E : XK} {S : Sx} {C : Xd → Gm → Prop}
    (bd : Body (cxOf (L2.CX P w) P w K mg base N_is_whole "is_whole" (defScope s_is_whole) f cdv A outer s H E) ⟨S, C, [], 3, [false, false, false], false, [], []⟩ 0) : DSs (cxOf (L2.CX P w) P w K mg base N_is_whole "is_whole" (defScope s_is_whole) f cdv A outer s H E) ⟨S, C, [], 3, [false, false, false], false, [], []⟩ [false, false, false] (defBody s_is_whole) m_is_whole [false, false, false] := by
  have nd := sc_is_whole.nd
  exact (ss_cons (Δ1 := [false, false, false]) (ds_if (dt_bool (dw_or (dt_not (dt_val (de_isi .int G.n_isinstance G.n_int (de_var 0)))) (dw_or1 (dt_val (de_isi .bl G.n_isinstance G.n_bool (de_var 0)))))) (ss_one (ds_ret bd.ob rfl de_bl)) ss_nil)
    (ss_cons (Δ1 := [false, false, false]) (ds_if (dt_bool (dw_and (dt_cmp blf_isnot od_isnot (nomark _) (de_var 1) de_non (kim _)) (dw_and1 (dt_cmp blf_cmp od_lt (nomark _) (de_var 0) (de_var 1) (kim _))))) (ss_one (ds_ret bd.ob rfl de_bl)) ss_nil)
    (ss_one (ds_ret bd.ob rfl (de_or (de_cmp od_is (nomark _) (de_var 2) de_non (kim _)) (de_one (de_cmp od_le (nomark _) (de_var 0) (de_var 2) (kim _))))))))
abbrev N_check_number : List Str := ["thing", "low", "high"]
theorem sc_check_number : FnScope N_check_number ["thing", "low", "high"] (defScope s_check_number) := ⟨rfl, rfl, rfl, by decide +kernel, rfl, by decide +kernel, by decide +kernel⟩
set_option maxRecDepth 100000 in
theorem d_check_number {P : Program} {w : World} {K : PySem.W.Frag} {mg : Str → Option Value} {base : Heap} (G : Wd K mg) (c_is_whole_3 : Cal P w K mg base 1 "is_whole" F_is_whole 3 [] false []) (x_BadNumber : ExK P w K mg base 1 "BadNumber" 0 []) {f : Addr} {cdv : Value} {A : Around} {outer : List Env} {s : Shared} {H : Hp} {E : XK} {S : Sx} {C : Xd → Gm → Prop}
    (bd : Body (cxOf (L2.CX P w) P w K mg base N_check_number "check_number" (defScope s_check_number) f cdv A outer s H E) ⟨S, C, [], 3, [false, false, false], false, [], []⟩ 2) : DSs (cxOf (L2.CX P w) P w K mg base N_check_number "check_number" (defScope s_check_number) f cdv A outer s H E) ⟨S, C, [], 3, [false, false, false], false, [], []⟩ [false, false, false] (defBody s_check_number) m_check_number [false, false, false] := by
  have nd := sc_check_number.nd
  exact (ss_cons (Δ1 := [false, false, false]) (ds_if (dt_not (dt_val (de_callB bd c_is_whole_3 (da_e (de_var 0) (da_e (de_var 1) (da_e (de_var 2) da_nil)))))) (ss_one (ds_raise0 bd x_BadNumber)) ss_nil)
    (ss_one (ds_ret bd.ob rfl (de_var 0))))
abbrev N_check_modulus : List Str := ["modulus", "low"]
theorem sc_check_modulus : FnScope N_check_modulus ["modulus", "low"] (defScope s_check_modulus) := ⟨rfl, rfl, rfl, by decide +kernel, rfl, by decide +kernel, by decide +kernel⟩
set_option maxRecDepth 100000 in
theorem d_check_modulus {P : Program} {w : World} {K : PySem.W.Frag} {mg : Str → Option Value} {base : Heap} (G : Wd K mg) (c_is_whole_3 : Cal P w K mg base 1 "is_whole" F_is_whole 3 [] false []) (x_BadModulus : ExK P w K mg base 1 "BadModulus" 0 []) {f : Addr} {cdv : Value} {A : Around} {outer : List Env} {s : Shared} {H : Hp} {E : XK} {S : Sx} {C : Xd → Gm → Prop}
    (bd : Body (cxOf (L2.CX P w) P w K mg base N_check_modulus "check_modulus" (defScope s_check_modulus) f cdv A outer s H E) ⟨S, C, [], 2, [false, false], false, [], []⟩ 2) : DSs (cxOf (L2.CX P w) P w K mg base N_check_modulus "check_modulus" (defScope s_check_modulus) f cdv A outer s H E) ⟨S, C, [], 2, [false, false], false, [], []⟩ [false, false] (defBody s_check_modulus) m_check_modulus [false, false] := by
  have nd := sc_check_modulus.nd
  exact (ss_one (ds_if (dt_not (dt_val (de_callB bd c_is_whole_3 (da_e (de_var 0) (da_e (de_var 1) (da_e (de_gintE G.i_MOST_MODULUS) da_nil)))))) (ss_one (ds_raise0 bd x_BadModulus)) ss_nil))
abbrev N_check_rest : List Str := ["rest", "modulus"]
theorem sc_check_rest : FnScope N_check_rest ["rest", "modulus"] (defScope s_check_rest) := ⟨rfl, rfl, rfl, by decide +kernel, rfl, by decide +kernel, by decide +kernel⟩
set_option maxRecDepth 100000 in
theorem d_check_rest {P : Program} {w : World} {K : PySem.W.Frag} {mg : Str → Option Value} {base : Heap} (G : Wd K mg) (c_is_whole_3 : Cal P w K mg base 1 "is_whole" F_is_whole 3 [] false []) (x_BadRest : ExK P w K mg base 1 "BadRest" 0 []) {f : Addr} {cdv : Value} {A : Around} {outer : List Env} {s : Shared} {H : Hp} {E : XK} {S : Sx} {C : Xd → Gm → Prop}
    (bd : Body (cxOf (L2.CX P w) P w K mg base N_check_rest "check_rest" (defScope s_check_rest) f cdv A outer s H E) ⟨S, C, [], 2, [false, false], false, [], []⟩ 2) : DSs (cxOf (L2.CX P w) P w K mg base N_check_rest "check_rest" (defScope s_check_rest) f cdv A outer s H E) ⟨S, C, [], 2, [false, false], false, [], []⟩ [false, false] (defBody s_check_rest) m_check_rest [false, false] := by
  have nd := sc_check_rest.nd
  exact (ss_one (ds_if (dt_not (dt_val (de_callB bd c_is_whole_3 (da_e (de_var 0) (da_e de_int (da_e (de_bin (bo := false) od_sub (de_var 1) de_int (kim _)) da_nil)))))) (ss_one (ds_raise0 bd x_BadRest)) ss_nil))
abbrev N_lifting_step : List Str := ["word", "amount", "ones", "at", "left"]
theorem sc_lifting_step : FnScope N_lifting_step ["word", "amount"] (defScope s_lifting_step) := ⟨rfl, rfl, rfl, by decide +kernel, rfl, by decide +kernel, by decide +kernel⟩
set_option maxRecDepth 100000 in
theorem d_lifting_step {P : Program} {w : World} {K : PySem.W.Frag} {mg : Str → Option Value} {base : Heap} (G : Wd K mg) {f : Addr} {cdv : Value} {A : Around} {outer : List Env} {s : Shared} {H : Hp} {E : XK} {S : Sx} {C : Xd → Gm → Prop}
    (bd : Body (cxOf (L2.CX P w) P w K mg base N_lifting_step "lifting_step" (defScope s_lifting_step) f cdv A outer s H E) ⟨S, C, [], 5, [false, false, false, false, false], false, [], []⟩ 0) : DSs (cxOf (L2.CX P w) P w K mg base N_lifting_step "lifting_step" (defScope s_lifting_step) f cdv A outer s H E) ⟨S, C, [], 5, [false, false, false, false, false], false, [], []⟩ [false, false, false, false, false] (defBody s_lifting_step) m_lifting_step [false, false, false, false, false] := by
  have nd := sc_lifting_step.nd
  exact (ss_cons (Δ1 := [false, false, false, false, false]) (ds_set bd.ob 2 nd (bo := false) (de_call1 (bo := false) (cd_sum rfl) G.n_sum Boot.«sum» (de_var 0)))
    (ss_cons (Δ1 := [false, false, false, false, false]) (ds_if (dt_cmp blf_cmp od_le (nomark _) (de_var 1) (de_var 2) (kim _)) (ss_cons (Δ1 := [false, false, false, false, false]) (ds_set bd.ob 3 nd (bo := false) (de_call1 (bo := false) cd_len G.n_len Boot.«len» (de_var 0)))
    (ss_cons (Δ1 := [false, false, false, false, false]) (ds_set bd.ob 4 nd (bo := false) (de_var 1))
    (ss_cons (Δ1 := [false, false, false, false, false]) (ds_while (t := m_lifting_step_t2) (mb := m_lifting_step_b1) bd.hp (dt_cmp blf_cmp od_gt (nomark _) (de_var 4) de_int (kim _)) (ss_cons (Δ1 := [false, false, false, false, false]) (ds_set (bd.lp [false, false, false, false, false]).ob 3 nd (bo := false) (de_bin (bo := false) od_sub (de_var 3) de_int (kim _)))
    (ss_one (ds_set (bd.lp [false, false, false, false, false]).ob 4 nd (bo := false) (de_bin (bo := false) od_sub (de_var 4) (de_ix (bo := false) xd_ix (de_var 0) (de_var 3) (kim _)) (kim _))))))
    (ss_one (ds_ret bd.ob rfl (de_tup (dl_cons (de_var 3) (dl_cons de_int dl_nil)))))))) ss_nil)
    (ss_cons (Δ1 := [false, false, false, false, false]) (ds_set bd.ob 3 nd (bo := false) de_int)
    (ss_cons (Δ1 := [false, false, false, false, false]) (ds_set bd.ob 4 nd (bo := false) (de_bin (bo := false) od_sub (de_bin (bo := false) od_sub (de_var 1) (de_var 2) (kim _)) de_int (kim _)))
    (ss_cons (Δ1 := [false, false, false, false, false]) (ds_while (t := m_lifting_step_t4) (mb := m_lifting_step_b3) bd.hp (dt_cmp blf_cmp od_gt (nomark _) (de_var 4) de_int (kim _)) (ss_cons (Δ1 := [false, false, false, false, false]) (ds_set (bd.lp [false, false, false, false, false]).ob 4 nd (bo := false) (de_bin (bo := false) od_addA (de_bin (bo := false) od_sub (de_var 4) de_int (kim _)) (de_ix (bo := false) xd_ix (de_var 0) (de_var 3) (kim _)) (kim _)))
    (ss_one (ds_set (bd.lp [false, false, false, false, false]).ob 3 nd (bo := false) (de_bin (bo := false) od_addA (de_var 3) de_int (kim _))))))
    (ss_one (ds_ret bd.ob rfl (de_tup (dl_cons (de_var 3) (dl_cons de_int dl_nil))))))))))
abbrev N_lift_word : List Str := ["word", "amount", "at", "letter"]
theorem sc_lift_word : FnScope N_lift_word ["word", "amount"] (defScope s_lift_word) := ⟨rfl, rfl, rfl, by decide +kernel, rfl, by decide +kernel, by decide +kernel⟩
set_option maxRecDepth 100000 in
theorem d_lift_word {P : Program} {w : World} {K : PySem.W.Frag} {mg : Str → Option Value} {base : Heap} (G : Wd K mg) (c_lifting_step_2 : Cal P w K mg base 1 "lifting_step" F_lifting_step 2 [] false []) {f : Addr} {cdv : Value} {A : Around} {outer : List Env} {s : Shared} {H : Hp} {E : XK} {S : Sx} {C : Xd → Gm → Prop}
    (bd : Body (cxOf (L2.CX P w) P w K mg base N_lift_word "lift_word" (defScope s_lift_word) f cdv A outer s H E) ⟨S, C, [], 4, [false, false, false, false], false, [], []⟩ 1) : DSs (cxOf (L2.CX P w) P w K mg base N_lift_word "lift_word" (defScope s_lift_word) f cdv A outer s H E) ⟨S, C, [], 4, [false, false, false, false], false, [], []⟩ [false, false, false, false] (defBody s_lift_word) m_lift_word [false, false, false, false] := by
  have nd := sc_lift_word.nd
  exact (ss_cons (Δ1 := [false, false, false, false]) (ds_unp (de_callB bd c_lifting_step_2 (da_e (de_var 0) (da_e (de_var 1) da_nil))) (dg_tup (dgs_cons (dg_n bd.ob 2 nd) (dgs_cons (dg_n bd.ob 3 nd) dgs_nil)) (gLen_cons (gLen_cons gLen_nil))))
    (ss_one (ds_ret bd.ob rfl (de_bin (bo := false) od_addA (de_bin (bo := false) od_addA (de_sl_ (bo := false) sd_slA (de_var 0) do_no (do_p (de_var 2)) (ko_no _) (koim _)) (de_tup (dl_cons (de_var 3) dl_nil)) (kim _)) (de_sl_ (bo := false) sd_slA (de_var 0) (do_p (de_var 2)) do_no (koim _) (ko_no _)) (kim _)))))
abbrev N_NearPair___init__ : List Str := ["self", "one", "other", "below", "above"]
theorem sc_NearPair___init__ : FnScope N_NearPair___init__ ["self", "one", "other", "below", "above"] (defScope s_NearPair___init__) := ⟨rfl, rfl, rfl, by decide +kernel, rfl, by decide +kernel, by decide +kernel⟩
set_option maxRecDepth 100000 in
theorem d_NearPair___init__ {P : Program} {w : World} {K : PySem.W.Frag} {mg : Str → Option Value} {base : Heap} (G : Wd K mg) {f : Addr} {cdv : Value} {A : Around} {outer : List Env} {s : Shared} {H : Hp} {E : XK} {S : Sx} {C : Xd → Gm → Prop}
    (bd : Body (cxOf (L2.CX P w) P w K mg base N_NearPair___init__ "NearPair.__init__" (defScope s_NearPair___init__) f cdv A outer s H E) ⟨S, C, [0], 5, [true, false, false, false, false], false, [], []⟩ 0) : DSs (cxOf (L2.CX P w) P w K mg base N_NearPair___init__ "NearPair.__init__" (defScope s_NearPair___init__) f cdv A outer s H E) ⟨S, C, [0], 5, [true, false, false, false, false], false, [], []⟩ [true, false, false, false, false] (defBody s_NearPair___init__) m_NearPair___init__ [true, false, false, false, false] := by
  have nd := sc_NearPair___init__.nd
  exact (ss_cons (Δ1 := [true, false, false, false, false]) (ds_stF 0 G.f_one (de_var 1))
    (ss_cons (Δ1 := [true, false, false, false, false]) (ds_stF 0 G.f_other (de_var 2))
    (ss_cons (Δ1 := [true, false, false, false, false]) (ds_stF 0 G.f_below (de_var 3))
    (ss_one (ds_stF 0 G.f_above (de_var 4))))))
abbrev N_modulus_clash : List Str := ["length", "modulus", "rest", "below", "other", "place"]
theorem sc_modulus_clash : FnScope N_modulus_clash ["length", "modulus", "rest"] (defScope s_modulus_clash) := ⟨rfl, rfl, rfl, by decide +kernel, rfl, by decide +kernel, by decide +kernel⟩
set_option maxRecDepth 100000 in
theorem d_modulus_clash {P : Program} {w : World} {K : PySem.W.Frag} {mg : Str → Option Value} {base : Heap} (G : Wd K mg) (c_check_modulus_2 : Cal P w K mg base 3 "check_modulus" F_check_modulus 2 [] false []) (c_check_number_3 : Cal P w K mg base 3 "check_number" F_check_number 3 [] false []) (c_check_rest_2 : Cal P w K mg base 3 "check_rest" F_check_rest 2 [] false []) (c_lift_word_2 : Cal P w K mg base 2 "lift_word" F_lift_word 2 [] false []) (i_NearPair_4 : CalI P w K mg base 1 "NearPair" F_NearPair___init__ 4 []) {f : Addr} {cdv : Value} {A : Around} {outer : List Env} {s : Shared} {H : Hp} {E : XK} {S : Sx} {C : Xd → Gm → Prop}
    (bd : Body (cxOf (L2.CX P w) P w K mg base N_modulus_clash "modulus_clash" (defScope s_modulus_clash) f cdv A outer s H E) ⟨S, C, [], 6, [false, false, false, false, false, false], false, [], []⟩ 3) : DSs (cxOf (L2.CX P w) P w K mg base N_modulus_clash "modulus_clash" (defScope s_modulus_clash) f cdv A outer s H E) ⟨S, C, [], 6, [false, false, false, false, false, false], false, [], []⟩ [false, false, false, false, false, false] (defBody s_modulus_clash) m_modulus_clash [false, false, false, false, false, false] := by
  have nd := sc_modulus_clash.nd
  exact (ss_cons (Δ1 := [false, false, false, false, false, false]) (ds_expr (de_callB bd c_check_number_3 (da_e (de_var 0) (da_e de_int (da_e (de_gintE G.i_MOST_LENGTH) da_nil)))))
    (ss_cons (Δ1 := [false, false, false, false, false, false]) (ds_expr (de_callB bd c_check_modulus_2 (da_e (de_var 1) (da_e de_int da_nil))))
    (ss_cons (Δ1 := [false, false, false, false, false, false]) (ds_expr (de_callB bd c_check_rest_2 (da_e (de_var 2) (da_e (de_var 1) da_nil))))
    (ss_cons (Δ1 := [false, false, false, false, false, false]) (ds_if (dt_cmp blf_cmp od_gt (nomark _) (de_var 1) (de_var 0) (kim _)) (ss_one (ds_ret bd.ob rfl de_non)) ss_nil)
    (ss_cons (Δ1 := [false, false, false, false, false, false]) (ds_set bd.ob 3 nd (bo := false) (de_ty1 (bo := false) cd_tuple G.n_tuple Boot.«tuple» (de_lc bd.ob [("place", 5)] (di_range2 G.n_range de_int (de_var 0)) nd (blkOk_by (show blkC N_modulus_clash (defScope s_modulus_clash) _ _ = true by decide +kernel)) (fun _ _ _ _ _ => (dg_n (bd.obh [false, false, false, false, false, false]) 5 nd)) (fun _ _ _ _ _ => dts_nil) (fun _ _ _ _ _ => (de_ite (dt_cmp blf_eq (od_eq (by exact bd.hu)) (nomark _) (de_var 5) (de_var 2) (kim _)) de_int de_int)))))
    (ss_cons (Δ1 := [false, false, false, false, false, false]) (ds_set bd.ob 4 nd (bo := false) (de_callB bd c_lift_word_2 (da_e (de_var 3) (da_e (de_var 1) da_nil))))
    (ss_one (ds_ret bd.ob rfl (de_im (de_makeB bd i_NearPair_4 (da_e (de_bin (bo := false) od_addA (de_var 3) (de_tup (dl_cons de_int dl_nil)) (kim _)) (da_e (de_var 4) (da_e (de_var 3) (da_e (de_bin (bo := false) od_addA (de_var 4) (de_tup (dl_cons de_int dl_nil)) (kim _)) da_nil))))))))))))))
abbrev N__law_refused : List Str := ["_law_n", "_law_modulus", "_law_rest"]
theorem sc__law_refused : FnScope N__law_refused ["_law_n", "_law_modulus", "_law_rest"] (defScope s__law_refused) := ⟨rfl, rfl, rfl, by decide +kernel, rfl, by decide +kernel, by decide +kernel⟩
set_option maxRecDepth 100000 in
theorem d__law_refused {P : Program} {w : World} {K : PySem.W.Frag} {mg : Str → Option Value} {base : Heap} (G : Wd K mg) (c_modulus_clash_3 : Cal P w K mg base 4 "modulus_clash" F_modulus_clash 3 [] false []) {f : Addr} {cdv : Value} {A : Around} {outer : List Env} {s : Shared} {H : Hp} {E : XK} {S : Sx} {C : Xd → Gm → Prop}
    (bd : Body (cxOf (L2.CX P w) P w K mg base N__law_refused "_law_refused" (defScope s__law_refused) f cdv A outer s H E) ⟨S, C, [], 3, [false, false, false], false, [], []⟩ 4) : DSs (cxOf (L2.CX P w) P w K mg base N__law_refused "_law_refused" (defScope s__law_refused) f cdv A outer s H E) ⟨S, C, [], 3, [false, false, false], false, [], []⟩ [false, false, false] (defBody s__law_refused) m__law_refused [false, false, false] := by
  have nd := sc__law_refused.nd
  exact (ss_cons (Δ1 := [false, false, false]) (ds_try (isa := isa) (Δx := [false, false, false]) (m := m__law_refused_try1) bd rfl rfl (fun pn xe S C bd1 => (ss_one (ds_expr (de_callB bd1 c_modulus_clash_3 (da_e (de_var 0) (da_e (de_var 1) (da_e (de_var 2) da_nil))))))) (.cons ⟨rfl, by decide, .inl G.m_BadNumber⟩ (G.isa_BadNumber) (fun _ _ _ => (ss_one (ds_ret (bd.obh [false, false, false]) rfl de_str))) (.cons ⟨rfl, by decide, .inl G.m_BadModulus⟩ (G.isa_BadModulus) (fun _ _ _ => (ss_one (ds_ret (bd.obh [false, false, false]) rfl de_str))) (.cons ⟨rfl, by decide, .inl G.m_BadRest⟩ (G.isa_BadRest) (fun _ _ _ => (ss_one (ds_ret (bd.obh [false, false, false]) rfl de_str))) .nil))))
    (ss_one (ds_ret bd.ob rfl de_non)))
abbrev N_SumBook_is_full : List Str := ["self"]
theorem sc_SumBook_is_full : FnScope N_SumBook_is_full ["self"] (defScope s_SumBook_is_full) := ⟨rfl, rfl, rfl, by decide +kernel, rfl, by decide +kernel, by decide +kernel⟩
set_option maxRecDepth 100000 in
theorem d_SumBook_is_full {P : Program} {w : World} {K : PySem.W.Frag} {mg : Str → Option Value} {base : Heap} (G : Wd K mg) {f : Addr} {cdv : Value} {A : Around} {outer : List Env} {s : Shared} {H : Hp} {E : XK} {S : Sx} {C : Xd → Gm → Prop}
    (bd : Body (cxOf (L2.CX P w) P w K mg base N_SumBook_is_full "SumBook.is_full" (defScope s_SumBook_is_full) f cdv A outer s H E) ⟨S, C, [], 1, [false], false, [], []⟩ 0) : DSs (cxOf (L2.CX P w) P w K mg base N_SumBook_is_full "SumBook.is_full" (defScope s_SumBook_is_full) f cdv A outer s H E) ⟨S, C, [], 1, [false], false, [], []⟩ [false] (defBody s_SumBook_is_full) m_SumBook_is_full [false] := by
  have nd := sc_SumBook_is_full.nd
  exact (ss_one (ds_ret bd.ob rfl (de_cmp (od_eq (by exact bd.hu)) (nomark _) (de_fld G.f_modulus (de_var 0)) (de_bin (bo := false) od_addA (de_fld G.f_length (de_var 0)) de_int (kim _)) (kim _))))
abbrev N_word_of_sum : List Str := ["length", "total", "word", "place"]
theorem sc_word_of_sum : FnScope N_word_of_sum ["length", "total"] (defScope s_word_of_sum) := ⟨rfl, rfl, rfl, by decide +kernel, rfl, by decide +kernel, by decide +kernel⟩
set_option maxRecDepth 100000 in
theorem d_word_of_sum {P : Program} {w : World} {K : PySem.W.Frag} {mg : Str → Option Value} {base : Heap} (G : Wd K mg) {f : Addr} {cdv : Value} {A : Around} {outer : List Env} {s : Shared} {H : Hp} {E : XK} {S : Sx} {C : Xd → Gm → Prop}
    (bd : Body (cxOf (L2.CX P w) P w K mg base N_word_of_sum "word_of_sum" (defScope s_word_of_sum) f cdv A outer s H E) ⟨S, C, [], 4, [false, false, false, false], false, [], []⟩ 0) : DSs (cxOf (L2.CX P w) P w K mg base N_word_of_sum "word_of_sum" (defScope s_word_of_sum) f cdv A outer s H E) ⟨S, C, [], 4, [false, false, false, false], false, [], []⟩ [false, false, false, false] (defBody s_word_of_sum) m_word_of_sum [false, false, true, false] := by
  have nd := sc_word_of_sum.nd
  exact (ss_cons (Δ1 := [false, false, true, false]) (ds_set bd.ob 2 nd (bo := true) (de_mulL (de_lst (dl_cons de_int dl_nil)) (de_var 0)))
    (ss_cons (Δ1 := [false, false, true, false]) (ds_for (Δ1 := [false, false, true, false]) (Δ2 := [false, false, true, false]) (mb := m_word_of_sum_b1) bd.hp (di_range3 G.n_range (de_var 0) de_int (de_un ud_neg de_int)) (dg_n (bd.lp [false, false, true, false]).ob 3 nd) (ss_one (ds_if (dt_cmp blf_cmp od_le (nomark _) (de_var 3) (de_var 1) (kim _)) (ss_cons (Δ1 := [false, false, true, false]) (ds_st 2 de_int (de_bin (bo := false) od_sub (de_var 3) de_int (kim _)))
    (ss_one (ds_set (bd.lp [false, false, true, false]).ob 1 nd (bo := false) (de_bin (bo := false) od_sub (de_var 1) (de_var 3) (kim _))))) ss_nil)))
    (ss_one (ds_ret bd.ob rfl (de_ty1 (bo := false) cd_tuple G.n_tuple Boot.«tuple» (de_sl 2))))))
abbrev N_unread_word : List Str := ["book"]
theorem sc_unread_word : FnScope N_unread_word ["book"] (defScope s_unread_word) := ⟨rfl, rfl, rfl, by decide +kernel, rfl, by decide +kernel, by decide +kernel⟩
set_option maxRecDepth 100000 in
theorem d_unread_word {P : Program} {w : World} {K : PySem.W.Frag} {mg : Str → Option Value} {base : Heap} (G : Wd K mg) (c_check_number_3 : Cal P w K mg base 3 "check_number" F_check_number 3 [] false []) (c_word_of_sum_2 : Cal P w K mg base 1 "word_of_sum" F_word_of_sum 2 [] false []) (p_is_full : PropT P w K mg base 1 "is_full" tp_is_full) {f : Addr} {cdv : Value} {A : Around} {outer : List Env} {s : Shared} {H : Hp} {E : XK} {S : Sx} {C : Xd → Gm → Prop}
    (bd : Body (cxOf (L2.CX P w) P w K mg base N_unread_word "unread_word" (defScope s_unread_word) f cdv A outer s H E) ⟨S, C, [], 1, [false], false, [], []⟩ 3) : DSs (cxOf (L2.CX P w) P w K mg base N_unread_word "unread_word" (defScope s_unread_word) f cdv A outer s H E) ⟨S, C, [], 1, [false], false, [], []⟩ [false] (defBody s_unread_word) m_unread_word [false] := by
  have nd := sc_unread_word.nd
  exact (ss_cons (Δ1 := [false]) (ds_expr (de_callB bd c_check_number_3 (da_e (de_fld G.f_length (de_var 0)) (da_e de_int (da_e (de_gintE G.i_MOST_LENGTH) da_nil)))))
    (ss_cons (Δ1 := [false]) (ds_if (dt_val (de_propB bd p_is_full (de_var 0))) (ss_one (ds_ret bd.ob rfl de_non)) ss_nil)
    (ss_cons (Δ1 := [false]) (ds_if (dt_cmp blf_cmp od_gt (nomark _) (de_fld G.f_rest (de_var 0)) (de_fld G.f_length (de_var 0)) (kim _)) (ss_one (ds_ret bd.ob rfl (de_callB bd c_word_of_sum_2 (da_e (de_bin (bo := false) od_sub (de_fld G.f_length (de_var 0)) de_int (kim _)) (da_e de_int da_nil))))) ss_nil)
    (ss_cons (Δ1 := [false]) (ds_if (dt_cmp blf_cmp od_lt (nomark _) (de_fld G.f_rest (de_var 0)) (de_bin (bo := false) od_fdiv (de_bin (bo := false) od_mulA (de_fld G.f_length (de_var 0)) (de_bin (bo := false) od_sub (de_fld G.f_length (de_var 0)) de_int (kim _)) (kim _)) de_int (kim _)) (kim _)) (ss_one (ds_ret bd.ob rfl (de_callB bd c_word_of_sum_2 (da_e (de_bin (bo := false) od_sub (de_fld G.f_length (de_var 0)) de_int (kim _)) (da_e (de_bin (bo := false) od_addA (de_fld G.f_rest (de_var 0)) de_int (kim _)) da_nil))))) ss_nil)
    (ss_one (ds_ret bd.ob rfl de_non))))))
abbrev N__law_odd : List Str := ["_law_hand_here", "_law_good"]
theorem sc__law_odd : FnScope N__law_odd ["_law_hand_here", "_law_good"] (defScope s__law_odd) := ⟨rfl, rfl, rfl, by decide +kernel, rfl, by decide +kernel, by decide +kernel⟩
set_option maxRecDepth 100000 in
theorem d__law_odd {P : Program} {w : World} {K : PySem.W.Frag} {mg : Str → Option Value} {base : Heap} (G : Wd K mg) (c__law_take_2 : Cal P w K mg base 2 "_law_take" F__law_take 2 [0] false []) {f : Addr} {cdv : Value} {A : Around} {outer : List Env} {s : Shared} {H : Hp} {E : XK} {S : Sx} {C : Xd → Gm → Prop}
    (bd : Body (cxOf (L2.CX P w) P w K mg base N__law_odd "_law_odd" (defScope s__law_odd) f cdv A outer s H E) ⟨S, C, [0], 2, [true, false], false, [], []⟩ 2) : DSs (cxOf (L2.CX P w) P w K mg base N__law_odd "_law_odd" (defScope s__law_odd) f cdv A outer s H E) ⟨S, C, [0], 2, [true, false], false, [], []⟩ [true, false] (defBody s__law_odd) m__law_odd [true, false] := by
  have nd := sc__law_odd.nd
  exact (ss_one (ds_ret bd.ob rfl (de_ix (bo := false) xd_ix (de_lst (dl_cons (de_un ud_neg de_int) (dl_cons (de_bin (bo := false) od_addA (de_var 1) de_int (kim _)) (dl_cons de_bl (dl_cons de_non (dl_cons de_str (dl_cons (de_tup (dl_cons de_int dl_nil)) (dl_cons (de_bin (bo := false) od_sub (de_un ud_neg de_int) (de_callB bd c__law_take_2 (da_p 0 (da_e (de_bin (bo := false) od_pow de_int de_int (kim _)) da_nil))) (kim _)) (dl_cons (de_bin (bo := false) od_addA (de_bin (bo := false) od_addA (de_var 1) de_int (kim _)) (de_callB bd c__law_take_2 (da_p 0 (da_e (de_bin (bo := false) od_pow de_int de_int (kim _)) da_nil))) (kim _)) dl_nil))))))))) (de_callB bd c__law_take_2 (da_p 0 (da_e de_int da_nil))) (kow _))))
abbrev N_SumBook___init__ : List Str := ["self", "length", "modulus", "rest"]
theorem sc_SumBook___init__ : FnScope N_SumBook___init__ ["self", "length", "modulus", "rest"] (defScope s_SumBook___init__) := ⟨rfl, rfl, rfl, by decide +kernel, rfl, by decide +kernel, by decide +kernel⟩
set_option maxRecDepth 100000 in
theorem d_SumBook___init__ {P : Program} {w : World} {K : PySem.W.Frag} {mg : Str → Option Value} {base : Heap} (G : Wd K mg) (c_check_modulus_2 : Cal P w K mg base 3 "check_modulus" F_check_modulus 2 [] false []) (c_check_number_3 : Cal P w K mg base 3 "check_number" F_check_number 3 [] false []) (c_check_rest_2 : Cal P w K mg base 3 "check_rest" F_check_rest 2 [] false []) {f : Addr} {cdv : Value} {A : Around} {outer : List Env} {s : Shared} {H : Hp} {E : XK} {S : Sx} {C : Xd → Gm → Prop}
    (bd : Body (cxOf (L2.CX P w) P w K mg base N_SumBook___init__ "SumBook.__init__" (defScope s_SumBook___init__) f cdv A outer s H E) ⟨S, C, [0], 4, [true, false, false, false], false, [], []⟩ 3) : DSs (cxOf (L2.CX P w) P w K mg base N_SumBook___init__ "SumBook.__init__" (defScope s_SumBook___init__) f cdv A outer s H E) ⟨S, C, [0], 4, [true, false, false, false], false, [], []⟩ [true, false, false, false] (defBody s_SumBook___init__) m_SumBook___init__ [true, false, false, false] := by
  have nd := sc_SumBook___init__.nd
  exact (ss_cons (Δ1 := [true, false, false, false]) (ds_expr (de_callB bd c_check_number_3 (da_e (de_var 1) (da_e de_int (da_e (de_gintE G.i_MOST_LENGTH) da_nil)))))
    (ss_cons (Δ1 := [true, false, false, false]) (ds_expr (de_callB bd c_check_modulus_2 (da_e (de_var 2) (da_e (de_bin (bo := false) od_addA (de_var 1) de_int (kim _)) da_nil))))
    (ss_cons (Δ1 := [true, false, false, false]) (ds_expr (de_callB bd c_check_rest_2 (da_e (de_var 3) (da_e (de_var 2) da_nil))))
    (ss_cons (Δ1 := [true, false, false, false]) (ds_stF 0 G.f_length (de_var 1))
    (ss_cons (Δ1 := [true, false, false, false]) (ds_stF 0 G.f_modulus (de_var 2))
    (ss_one (ds_stF 0 G.f_rest (de_var 3))))))))
abbrev N__law_refusals : List Str := ["_law_hand_here", "_law_n", "_law_modulus", "_law_odds", "_law_wild"]
theorem sc__law_refusals : FnScope N__law_refusals ["_law_hand_here", "_law_n"] (defScope s__law_refusals) := ⟨rfl, rfl, rfl, by decide +kernel, rfl, by decide +kernel, by decide +kernel⟩
set_option maxRecDepth 100000 in
theorem d__law_refusals {P : Program} {w : World} {K : PySem.W.Frag} {mg : Str → Option Value} {base : Heap} (G : Wd K mg) (c__law_odd_2 : Cal P w K mg base 3 "_law_odd" F__law_odd 2 [0] false []) (c__law_refused_3 : Cal P w K mg base 5 "_law_refused" F__law_refused 3 [] false []) (c__law_take_2 : Cal P w K mg base 2 "_law_take" F__law_take 2 [0] false []) (c_unread_word_1 : Cal P w K mg base 4 "unread_word" F_unread_word 1 [] false []) (i_SumBook_3 : CalI P w K mg base 4 "SumBook" F_SumBook___init__ 3 []) {f : Addr} {cdv : Value} {A : Around} {outer : List Env} {s : Shared} {H : Hp} {E : XK} {S : Sx} {C : Xd → Gm → Prop}
    (bd : Body (cxOf (L2.CX P w) P w K mg base N__law_refusals "_law_refusals" (defScope s__law_refusals) f cdv A outer s H E) ⟨S, C, [0], 5, [true, false, false, false, false], false, [], []⟩ 5) : DSs (cxOf (L2.CX P w) P w K mg base N__law_refusals "_law_refusals" (defScope s__law_refusals) f cdv A outer s H E) ⟨S, C, [0], 5, [true, false, false, false, false], false, [], []⟩ [true, false, false, false, false] (defBody s__law_refusals) m__law_refusals [true, false, false, false, false] := by
  have nd := sc__law_refusals.nd
  exact (ss_cons (Δ1 := [true, false, false, false, false]) (ds_set bd.ob 2 nd (bo := false) (de_bin (bo := false) od_addA de_int (de_callB bd c__law_take_2 (da_p 0 (da_e de_int da_nil))) (kim _)))
    (ss_cons (Δ1 := [true, false, false, false, false]) (ds_set bd.ob 3 nd (bo := false) (de_ix (bo := false) xd_ix (de_lst (dl_cons de_int (dl_cons de_bl (dl_cons (de_un ud_neg (de_callB bd c__law_take_2 (da_p 0 (da_e (de_bin (bo := false) od_pow de_int de_int (kim _)) da_nil)))) (dl_cons (de_bin (bo := false) od_addA (de_bin (bo := false) od_pow de_int de_int (kim _)) de_int (kim _)) (dl_cons de_non dl_nil)))))) (de_callB bd c__law_take_2 (da_p 0 (da_e de_int da_nil))) (kow _)))
    (ss_cons (Δ1 := [true, false, false, false, false]) (ds_set bd.ob 4 nd (bo := false) (de_callB bd c__law_take_2 (da_p 0 (da_e de_int da_nil))))
    (ss_cons (Δ1 := [true, false, false, false, false]) (ds_if (dt_cmp blf_ne (od_ne (by exact bd.hu)) (nomark _) (de_callB bd c__law_refused_3 (da_e (de_callB bd c__law_odd_2 (da_p 0 (da_e de_int da_nil))) (da_e (de_ix (bo := false) xd_ix (de_lst (dl_cons (de_var 2) (dl_cons (de_var 3) dl_nil))) (de_var 4) (kow _)) (da_e (de_ix (bo := false) xd_ix (de_lst (dl_cons de_int (dl_cons (de_un ud_neg de_int) dl_nil))) (de_callB bd c__law_take_2 (da_p 0 (da_e de_int da_nil))) (kow _)) da_nil)))) de_str (kim _)) (ss_one (ds_ret bd.ob rfl de_bl)) ss_nil)
    (ss_cons (Δ1 := [true, false, false, false, false]) (ds_if (dt_bool (dw_or (dt_cmp blf_ne (od_ne (by exact bd.hu)) (nomark _) (de_callB bd c__law_refused_3 (da_e (de_var 1) (da_e (de_var 3) (da_e (de_ix (bo := false) xd_ix (de_lst (dl_cons de_int (dl_cons de_non dl_nil))) (de_var 4) (kow _)) da_nil)))) de_str (kim _)) (dw_or1 (dt_cmp blf_ne (od_ne (by exact bd.hu)) (nomark _) (de_callB bd c__law_refused_3 (da_e (de_var 1) (da_e (de_var 2) (da_e (de_callB bd c__law_odd_2 (da_p 0 (da_e (de_bin (bo := false) od_sub (de_var 2) de_int (kim _)) da_nil))) da_nil)))) de_str (kim _))))) (ss_one (ds_ret bd.ob rfl de_bl)) ss_nil)
    (ss_cons (Δ1 := [true, false, false, false, false]) (ds_try (isa := isa) (Δx := [true, false, false, false, false]) (m := m__law_refusals_try1) bd rfl rfl (fun pn xe S C bd1 => (ss_one (ds_expr (de_callB bd1 c_unread_word_1 (da_e (de_im (de_makeB bd1 i_SumBook_3 (da_e de_int (da_e (de_bin (bo := false) od_addA de_int (de_callB bd1 c__law_take_2 (da_p 0 (da_e de_int da_nil))) (kim _)) (da_e de_int da_nil))))) da_nil))))) (.cons ⟨rfl, by decide, .inl G.m_BadNumber⟩ (G.isa_BadNumber) (fun _ _ _ => (ss_one (ds_ret (bd.obh [true, false, false, false, false]) rfl de_bl))) .nil))
    (ss_one (ds_ret bd.ob rfl de_bl))))))))
abbrev N__law_book_of : List Str := ["_law_hand_here", "_law_n", "_law_extra", "_law_modulus", "_law_rest"]
theorem sc__law_book_of : FnScope N__law_book_of ["_law_hand_here", "_law_n"] (defScope s__law_book_of) := ⟨rfl, rfl, rfl, by decide +kernel, rfl, by decide +kernel, by decide +kernel⟩
set_option maxRecDepth 100000 in
theorem d__law_book_of {P : Program} {w : World} {K : PySem.W.Frag} {mg : Str → Option Value} {base : Heap} (G : Wd K mg) (c__law_take_2 : Cal P w K mg base 2 "_law_take" F__law_take 2 [0] false []) {f : Addr} {cdv : Value} {A : Around} {outer : List Env} {s : Shared} {H : Hp} {E : XK} {S : Sx} {C : Xd → Gm → Prop}
    (bd : Body (cxOf (L2.CX P w) P w K mg base N__law_book_of "_law_book_of" (defScope s__law_book_of) f cdv A outer s H E) ⟨S, C, [0], 5, [true, false, false, false, false], false, [], []⟩ 2) : DSs (cxOf (L2.CX P w) P w K mg base N__law_book_of "_law_book_of" (defScope s__law_book_of) f cdv A outer s H E) ⟨S, C, [0], 5, [true, false, false, false, false], false, [], []⟩ [true, false, false, false, false] (defBody s__law_book_of) m__law_book_of [true, false, false, false, false] := by
  have nd := sc__law_book_of.nd
  exact (ss_cons (Δ1 := [true, false, false, false, false]) (ds_set bd.ob 2 nd (bo := false) (de_ix (bo := false) xd_ix (de_lst (dl_cons de_int (dl_cons de_int (dl_cons de_int (dl_cons de_int (dl_cons de_int (dl_cons (de_bin (bo := false) od_addA de_int (de_callB bd c__law_take_2 (da_p 0 (da_e (de_bin (bo := false) od_addA (de_var 1) de_int (kim _)) da_nil))) (kim _)) (dl_cons (de_callB bd c__law_take_2 (da_p 0 (da_e (de_bin (bo := false) od_sub (de_bin (bo := false) od_pow de_int de_int (kim _)) (de_var 1) (kim _)) da_nil))) dl_nil)))))))) (de_callB bd c__law_take_2 (da_p 0 (da_e de_int da_nil))) (kow _)))
    (ss_cons (Δ1 := [true, false, false, false, false]) (ds_set bd.ob 3 nd (bo := false) (de_bin (bo := false) od_addA (de_bin (bo := false) od_addA (de_var 1) de_int (kim _)) (de_var 2) (kim _)))
    (ss_cons (Δ1 := [true, false, false, false, false]) (ds_set bd.ob 4 nd (bo := false) (de_callB bd c__law_take_2 (da_p 0 (da_e (de_min2 G.n_min (de_var 3) (de_bin (bo := false) od_addA (de_bin (bo := false) od_fdiv (de_bin (bo := false) od_mulA (de_var 1) (de_bin (bo := false) od_addA (de_var 1) de_int (kim _)) (kim _)) de_int (kim _)) de_int (kim _))) da_nil))))
    (ss_cons (Δ1 := [true, false, false, false, false]) (ds_if (dt_cmp blf_eq (od_eq (by exact bd.hu)) (nomark _) (de_callB bd c__law_take_2 (da_p 0 (da_e de_int da_nil))) de_int (kim _)) (ss_one (ds_set bd.ob 4 nd (bo := false) (de_callB bd c__law_take_2 (da_p 0 (da_e (de_var 3) da_nil))))) ss_nil)
    (ss_one (ds_ret bd.ob rfl (de_im (de_lst (dl_cons (de_var 1) (dl_cons (de_var 3) (dl_cons (de_var 4) dl_nil)))))))))))
abbrev N__law_whole : List Str := ["_law_thing"]
theorem sc__law_whole : FnScope N__law_whole ["_law_thing"] (defScope s__law_whole) := ⟨rfl, rfl, rfl, by decide +kernel, rfl, by decide +kernel, by decide +kernel⟩
set_option maxRecDepth 100000 in
theorem d__law_whole {P : Program} {w : World} {K : PySem.W.Frag} {mg : Str → Option Value} {base : Heap} (G : Wd K mg) {f : Addr} {cdv : Value} {A : Around} {outer : List Env} {s : Shared} {H : Hp} {E : XK} {S : Sx} {C : Xd → Gm → Prop}
    (bd : Body (cxOf (L2.CX P w) P w K mg base N__law_whole "_law_whole" (defScope s__law_whole) f cdv A outer s H E) ⟨S, C, [], 1, [false], false, [], []⟩ 0) : DSs (cxOf (L2.CX P w) P w K mg base N__law_whole "_law_whole" (defScope s__law_whole) f cdv A outer s H E) ⟨S, C, [], 1, [false], false, [], []⟩ [false] (defBody s__law_whole) m__law_whole [false] := by
  have nd := sc__law_whole.nd
  exact (ss_one (ds_ret bd.ob rfl (de_and (de_isi .int G.n_isinstance G.n_int (de_var 0)) (de_one (de_not (de_isi .bl G.n_isinstance G.n_bool (de_var 0)))))))
abbrev N__law_is_word : List Str := ["_law_thing", "_law_n", "_law_letter"]
theorem sc__law_is_word : FnScope N__law_is_word ["_law_thing", "_law_n"] (defScope s__law_is_word) := ⟨rfl, rfl, rfl, by decide +kernel, rfl, by decide +kernel, by decide +kernel⟩
set_option maxRecDepth 100000 in
theorem d__law_is_word {P : Program} {w : World} {K : PySem.W.Frag} {mg : Str → Option Value} {base : Heap} (G : Wd K mg) (c__law_whole_1 : Cal P w K mg base 1 "_law_whole" F__law_whole 1 [] false []) {f : Addr} {cdv : Value} {A : Around} {outer : List Env} {s : Shared} {H : Hp} {E : XK} {S : Sx} {C : Xd → Gm → Prop}
    (bd : Body (cxOf (L2.CX P w) P w K mg base N__law_is_word "_law_is_word" (defScope s__law_is_word) f cdv A outer s H E) ⟨S, C, [], 3, [false, false, false], false, [], []⟩ 1) : DSs (cxOf (L2.CX P w) P w K mg base N__law_is_word "_law_is_word" (defScope s__law_is_word) f cdv A outer s H E) ⟨S, C, [], 3, [false, false, false], false, [], []⟩ [false, false, false] (defBody s__law_is_word) m__law_is_word [false, false, false] := by
  have nd := sc__law_is_word.nd
  exact (ss_cons (Δ1 := [false, false, false]) (ds_if (dt_bool (dw_or (dt_not (dt_val (de_isi .tup G.n_isinstance G.n_tuple (de_var 0)))) (dw_or1 (dt_cmp blf_ne (od_ne (by exact bd.hu)) (nomark _) (de_call1 (bo := false) cd_len G.n_len Boot.«len» (de_var 0)) (de_var 1) (kim _))))) (ss_one (ds_ret bd.ob rfl de_bl)) ss_nil)
    (ss_one (ds_ret bd.ob rfl (de_call1 (bo := false) (cd_all rfl) G.n_all Boot.«all» (de_lc bd.ob [("_law_letter", 2)] (di_seqX (de_var 0)) nd (blkOk_by (show blkC N__law_is_word (defScope s__law_is_word) _ _ = true by decide +kernel)) (fun _ _ _ _ _ => (dg_n (bd.obh [false, false, false]) 2 nd)) (fun _ _ _ _ _ => dts_nil) (fun _ _ _ _ _ => (de_and (de_callB (bd.blk [false, false, false]) c__law_whole_1 (da_e (de_var 2) da_nil)) (de_one (de_chain od_le od_le de_int (de_var 2) de_int)))))))))
abbrev N__law_is_below : List Str := ["_law_short", "_law_long", "_law_at", "_law_letter"]
theorem sc__law_is_below : FnScope N__law_is_below ["_law_short", "_law_long"] (defScope s__law_is_below) := ⟨rfl, rfl, rfl, by decide +kernel, rfl, by decide +kernel, by decide +kernel⟩
set_option maxRecDepth 100000 in
theorem d__law_is_below {P : Program} {w : World} {K : PySem.W.Frag} {mg : Str → Option Value} {base : Heap} (G : Wd K mg) {f : Addr} {cdv : Value} {A : Around} {outer : List Env} {s : Shared} {H : Hp} {E : XK} {S : Sx} {C : Xd → Gm → Prop}
    (bd : Body (cxOf (L2.CX P w) P w K mg base N__law_is_below "_law_is_below" (defScope s__law_is_below) f cdv A outer s H E) ⟨S, C, [], 4, [false, false, false, false], false, [], []⟩ 0) : DSs (cxOf (L2.CX P w) P w K mg base N__law_is_below "_law_is_below" (defScope s__law_is_below) f cdv A outer s H E) ⟨S, C, [], 4, [false, false, false, false], false, [], []⟩ [false, false, false, false] (defBody s__law_is_below) m__law_is_below [false, false, false, false] := by
  have nd := sc__law_is_below.nd
  exact (ss_cons (Δ1 := [false, false, false, false]) (ds_set bd.ob 2 nd (bo := false) de_int)
    (ss_cons (Δ1 := [false, false, false, false]) (ds_for (Δ1 := [false, false, false, false]) (Δ2 := [false, false, false, false]) (mb := m__law_is_below_b1) bd.hp (di_seqX (de_var 1)) (dg_n (bd.lp [false, false, false, false]).ob 3 nd) (ss_one (ds_if (dt_bool (dw_and (dt_cmp blf_cmp od_lt (nomark _) (de_var 2) (de_call1 (bo := false) cd_len G.n_len Boot.«len» (de_var 0)) (kim _)) (dw_and1 (dt_cmp blf_eq (od_eq (by exact bd.hu)) (nomark _) (de_ix (bo := false) xd_ix (de_var 0) (de_var 2) (kim _)) (de_var 3) (kim _))))) (ss_one (ds_set (bd.lp [false, false, false, false]).ob 2 nd (bo := false) (de_bin (bo := false) od_addA (de_var 2) de_int (kim _)))) ss_nil)))
    (ss_one (ds_ret bd.ob rfl (de_cmp (od_eq (by exact bd.hu)) (nomark _) (de_var 2) (de_call1 (bo := false) cd_len G.n_len Boot.«len» (de_var 0)) (kim _))))))
abbrev N__law_sum : List Str := ["_law_word", "_law_k"]
theorem sc__law_sum : FnScope N__law_sum ["_law_word"] (defScope s__law_sum) := ⟨rfl, rfl, rfl, by decide +kernel, rfl, by decide +kernel, by decide +kernel⟩
set_option maxRecDepth 100000 in
theorem d__law_sum {P : Program} {w : World} {K : PySem.W.Frag} {mg : Str → Option Value} {base : Heap} (G : Wd K mg) {f : Addr} {cdv : Value} {A : Around} {outer : List Env} {s : Shared} {H : Hp} {E : XK} {S : Sx} {C : Xd → Gm → Prop}
    (bd : Body (cxOf (L2.CX P w) P w K mg base N__law_sum "_law_sum" (defScope s__law_sum) f cdv A outer s H E) ⟨S, C, [], 2, [false, false], false, [], []⟩ 0) : DSs (cxOf (L2.CX P w) P w K mg base N__law_sum "_law_sum" (defScope s__law_sum) f cdv A outer s H E) ⟨S, C, [], 2, [false, false], false, [], []⟩ [false, false] (defBody s__law_sum) m__law_sum [false, false] := by
  have nd := sc__law_sum.nd
  exact (ss_one (ds_ret bd.ob rfl (de_call1 (bo := false) (cd_sum rfl) G.n_sum Boot.«sum» (de_lc bd.ob [("_law_k", 1)] (di_range1 G.n_range (de_call1 (bo := false) cd_len G.n_len Boot.«len» (de_var 0))) nd (blkOk_by (show blkC N__law_sum (defScope s__law_sum) _ _ = true by decide +kernel)) (fun _ _ _ _ _ => (dg_n (bd.obh [false, false]) 1 nd)) (fun _ _ _ _ _ => dts_nil) (fun _ _ _ _ _ => (de_bin (bo := false) od_mulA (de_bin (bo := false) od_addA (de_var 1) de_int (kim _)) (de_ix (bo := false) xd_ix (de_var 0) (de_var 1) (kim _)) (kim _)))))))
abbrev N__law_clash_right : List Str := ["_law_n", "_law_modulus", "_law_rest", "_law_pair", "_law_words", "_law_word"]
theorem sc__law_clash_right : FnScope N__law_clash_right ["_law_n", "_law_modulus", "_law_rest", "_law_pair"] (defScope s__law_clash_right) := ⟨rfl, rfl, rfl, by decide +kernel, rfl, by decide +kernel, by decide +kernel⟩
set_option maxRecDepth 100000 in
theorem d__law_clash_right {P : Program} {w : World} {K : PySem.W.Frag} {mg : Str → Option Value} {base : Heap} (G : Wd K mg) (c__law_is_below_2 : Cal P w K mg base 1 "_law_is_below" F__law_is_below 2 [] false []) (c__law_is_word_2 : Cal P w K mg base 2 "_law_is_word" F__law_is_word 2 [] false []) (c__law_sum_1 : Cal P w K mg base 1 "_law_sum" F__law_sum 1 [] false []) {f : Addr} {cdv : Value} {A : Around} {outer : List Env} {s : Shared} {H : Hp} {E : XK} {S : Sx} {C : Xd → Gm → Prop}
    (bd : Body (cxOf (L2.CX P w) P w K mg base N__law_clash_right "_law_clash_right" (defScope s__law_clash_right) f cdv A outer s H E) ⟨S, C, [], 6, [false, false, false, false, false, false], false, [], []⟩ 2) : DSs (cxOf (L2.CX P w) P w K mg base N__law_clash_right "_law_clash_right" (defScope s__law_clash_right) f cdv A outer s H E) ⟨S, C, [], 6, [false, false, false, false, false, false], false, [], []⟩ [false, false, false, false, false, false] (defBody s__law_clash_right) m__law_clash_right [false, false, false, false, false, false] := by
  have nd := sc__law_clash_right.nd
  exact (ss_cons (Δ1 := [false, false, false, false, false, false]) (ds_if (dt_not (dt_val (de_iso G.o_NearPair G.n_isinstance (de_var 3)))) (ss_one (ds_ret bd.ob rfl de_bl)) ss_nil)
    (ss_cons (Δ1 := [false, false, false, false, false, false]) (ds_set bd.ob 4 nd (bo := false) (de_im (de_lst (dl_cons (de_fld G.f_one (de_var 3)) (dl_cons (de_fld G.f_other (de_var 3)) dl_nil)))))
    (ss_cons (Δ1 := [false, false, false, false, false, false]) (ds_for (Δ1 := [false, false, false, false, false, false]) (Δ2 := [false, false, false, false, false, false]) (mb := m__law_clash_right_b1) bd.hp (di_seqX (de_var 4)) (dg_n (bd.lp [false, false, false, false, false, false]).ob 5 nd) (ss_one (ds_if (dt_bool (dw_or (dt_not (dt_val (de_callB (bd.lp [false, false, false, false, false, false]) c__law_is_word_2 (da_e (de_var 5) (da_e (de_var 0) da_nil))))) (dw_or1 (dt_cmp blf_ne (od_ne (by exact bd.hu)) (nomark _) (de_bin (bo := false) od_mod (de_ty1 (bo := false) cd_intS G.n_int Boot.«int» (de_callB (bd.lp [false, false, false, false, false, false]) c__law_sum_1 (da_e (de_var 5) da_nil))) (de_var 1) (kim _)) (de_var 2) (kim _))))) (ss_one (ds_ret (bd.lp [false, false, false, false, false, false]).ob rfl de_bl)) ss_nil)))
    (ss_cons (Δ1 := [false, false, false, false, false, false]) (ds_if (dt_bool (dw_or (dt_cmp blf_eq (od_eq (by exact bd.hu)) (nomark _) (de_fld G.f_one (de_var 3)) (de_fld G.f_other (de_var 3)) (kim _)) (dw_or (dt_not (dt_val (de_callB bd c__law_is_word_2 (da_e (de_fld G.f_below (de_var 3)) (da_e (de_bin (bo := false) od_sub (de_var 0) de_int (kim _)) da_nil))))) (dw_or1 (dt_not (dt_val (de_callB bd c__law_is_word_2 (da_e (de_fld G.f_above (de_var 3)) (da_e (de_bin (bo := false) od_addA (de_var 0) de_int (kim _)) da_nil))))))))) (ss_one (ds_ret bd.ob rfl de_bl)) ss_nil)
    (ss_one (ds_ret bd.ob rfl (de_call1 (bo := false) (cd_all rfl) G.n_all Boot.«all» (de_lc bd.ob [("_law_word", 5)] (di_seqX (de_var 4)) nd (blkOk_by (show blkC N__law_clash_right (defScope s__law_clash_right) _ _ = true by decide +kernel)) (fun _ _ _ _ _ => (dg_n (bd.obh [false, false, false, false, false, false]) 5 nd)) (fun _ _ _ _ _ => dts_nil) (fun _ _ _ _ _ => (de_and (de_callB (bd.blk [false, false, false, false, false, false]) c__law_is_below_2 (da_e (de_fld G.f_below (de_var 3)) (da_e (de_var 5) da_nil))) (de_one (de_callB (bd.blk [false, false, false, false, false, false]) c__law_is_below_2 (da_e (de_var 5) (da_e (de_fld G.f_above (de_var 3)) da_nil))))))))))))))
abbrev N__law_modulus_right : List Str := ["_law_n", "_law_modulus", "_law_rest", "_law_pair"]
theorem sc__law_modulus_right : FnScope N__law_modulus_right ["_law_n", "_law_modulus", "_law_rest"] (defScope s__law_modulus_right) := ⟨rfl, rfl, rfl, by decide +kernel, rfl, by decide +kernel, by decide +kernel⟩
set_option maxRecDepth 100000 in
theorem d__law_modulus_right {P : Program} {w : World} {K : PySem.W.Frag} {mg : Str → Option Value} {base : Heap} (G : Wd K mg) (c__law_clash_right_4 : Cal P w K mg base 3 "_law_clash_right" F__law_clash_right 4 [] false []) (c_modulus_clash_3 : Cal P w K mg base 4 "modulus_clash" F_modulus_clash 3 [] false []) {f : Addr} {cdv : Value} {A : Around} {outer : List Env} {s : Shared} {H : Hp} {E : XK} {S : Sx} {C : Xd → Gm → Prop}
    (bd : Body (cxOf (L2.CX P w) P w K mg base N__law_modulus_right "_law_modulus_right" (defScope s__law_modulus_right) f cdv A outer s H E) ⟨S, C, [], 4, [false, false, false, false], false, [], []⟩ 4) : DSs (cxOf (L2.CX P w) P w K mg base N__law_modulus_right "_law_modulus_right" (defScope s__law_modulus_right) f cdv A outer s H E) ⟨S, C, [], 4, [false, false, false, false], false, [], []⟩ [false, false, false, false] (defBody s__law_modulus_right) m__law_modulus_right [false, false, false, false] := by
  have nd := sc__law_modulus_right.nd
  exact (ss_cons (Δ1 := [false, false, false, false]) (ds_set bd.ob 3 nd (bo := false) (de_callB bd c_modulus_clash_3 (da_e (de_var 0) (da_e (de_var 1) (da_e (de_var 2) da_nil)))))
    (ss_cons (Δ1 := [false, false, false, false]) (ds_if (dt_cmp blf_is od_is (nomark _) (de_var 3) de_non (kim _)) (ss_one (ds_ret bd.ob rfl (de_cmp od_gt (nomark _) (de_var 1) (de_var 0) (kim _)))) ss_nil)
    (ss_one (ds_ret bd.ob rfl (de_and (de_cmp od_le (nomark _) (de_var 1) (de_var 0) (kim _)) (de_one (de_callB bd c__law_clash_right_4 (da_e (de_var 0) (da_e (de_var 1) (da_e (de_var 2) (da_e (de_var 3) da_nil)))))))))))
abbrev N_sum_places : List Str := ["word", "total", "at", "letter"]
theorem sc_sum_places : FnScope N_sum_places ["word"] (defScope s_sum_places) := ⟨rfl, rfl, rfl, by decide +kernel, rfl, by decide +kernel, by decide +kernel⟩
set_option maxRecDepth 100000 in
theorem d_sum_places {P : Program} {w : World} {K : PySem.W.Frag} {mg : Str → Option Value} {base : Heap} (G : Wd K mg) {f : Addr} {cdv : Value} {A : Around} {outer : List Env} {s : Shared} {H : Hp} {E : XK} {S : Sx} {C : Xd → Gm → Prop}
    (bd : Body (cxOf (L2.CX P w) P w K mg base N_sum_places "sum_places" (defScope s_sum_places) f cdv A outer s H E) ⟨S, C, [], 4, [false, false, false, false], false, [], []⟩ 0) : DSs (cxOf (L2.CX P w) P w K mg base N_sum_places "sum_places" (defScope s_sum_places) f cdv A outer s H E) ⟨S, C, [], 4, [false, false, false, false], false, [], []⟩ [false, false, false, false] (defBody s_sum_places) m_sum_places [false, false, false, false] := by
  have nd := sc_sum_places.nd
  exact (ss_cons (Δ1 := [false, false, false, false]) (ds_set bd.ob 1 nd (bo := false) de_int)
    (ss_cons (Δ1 := [false, false, false, false]) (ds_for (Δ1 := [false, false, false, false]) (Δ2 := [false, false, false, false]) (mb := m_sum_places_b1) bd.hp (di_enumX G.n_enumerate (de_var 0)) (dg_tup (dgs_cons (dg_n (bd.lp [false, false, false, false]).ob 2 nd) (dgs_cons (dg_n (bd.lp [false, false, false, false]).ob 3 nd) dgs_nil)) (gLen_cons (gLen_cons gLen_nil))) (ss_one (ds_set (bd.lp [false, false, false, false]).ob 1 nd (bo := false) (de_bin (bo := false) od_addA (de_var 1) (de_bin (bo := false) od_mulA (de_bin (bo := false) od_addA (de_var 2) de_int (kim _)) (de_var 3) (kim _)) (kim _)))))
    (ss_one (ds_ret bd.ob rfl (de_var 1)))))
abbrev N_loss_amount : List Str := ["book", "word", "amount"]
theorem sc_loss_amount : FnScope N_loss_amount ["book", "word"] (defScope s_loss_amount) := ⟨rfl, rfl, rfl, by decide +kernel, rfl, by decide +kernel, by decide +kernel⟩
set_option maxRecDepth 100000 in
theorem d_loss_amount {P : Program} {w : World} {K : PySem.W.Frag} {mg : Str → Option Value} {base : Heap} (G : Wd K mg) (c_sum_places_1 : Cal P w K mg base 1 "sum_places" F_sum_places 1 [] false []) {f : Addr} {cdv : Value} {A : Around} {outer : List Env} {s : Shared} {H : Hp} {E : XK} {S : Sx} {C : Xd → Gm → Prop}
    (bd : Body (cxOf (L2.CX P w) P w K mg base N_loss_amount "loss_amount" (defScope s_loss_amount) f cdv A outer s H E) ⟨S, C, [], 3, [false, false, false], false, [], []⟩ 1) : DSs (cxOf (L2.CX P w) P w K mg base N_loss_amount "loss_amount" (defScope s_loss_amount) f cdv A outer s H E) ⟨S, C, [], 3, [false, false, false], false, [], []⟩ [false, false, false] (defBody s_loss_amount) m_loss_amount [false, false, false] := by
  have nd := sc_loss_amount.nd
  exact (ss_cons (Δ1 := [false, false, false]) (ds_set bd.ob 2 nd (bo := false) (de_bin (bo := false) od_mod (de_bin (bo := false) od_sub (de_fld G.f_rest (de_var 0)) (de_callB bd c_sum_places_1 (da_e (de_var 1) da_nil)) (kim _)) (de_fld G.f_modulus (de_var 0)) (kim _)))
    (ss_cons (Δ1 := [false, false, false]) (ds_if (dt_cmp blf_cmp od_gt (nomark _) (de_var 2) (de_fld G.f_length (de_var 0)) (kim _)) (ss_one (ds_ret bd.ob rfl de_non)) ss_nil)
    (ss_one (ds_ret bd.ob rfl (de_var 2)))))
abbrev N_member_above : List Str := ["book", "word", "amount"]
theorem sc_member_above : FnScope N_member_above ["book", "word"] (defScope s_member_above) := ⟨rfl, rfl, rfl, by decide +kernel, rfl, by decide +kernel, by decide +kernel⟩
set_option maxRecDepth 100000 in
theorem d_member_above {P : Program} {w : World} {K : PySem.W.Frag} {mg : Str → Option Value} {base : Heap} (G : Wd K mg) (c_lift_word_2 : Cal P w K mg base 2 "lift_word" F_lift_word 2 [] false []) (c_loss_amount_2 : Cal P w K mg base 2 "loss_amount" F_loss_amount 2 [] false []) {f : Addr} {cdv : Value} {A : Around} {outer : List Env} {s : Shared} {H : Hp} {E : XK} {S : Sx} {C : Xd → Gm → Prop}
    (bd : Body (cxOf (L2.CX P w) P w K mg base N_member_above "member_above" (defScope s_member_above) f cdv A outer s H E) ⟨S, C, [], 3, [false, false, false], false, [], []⟩ 2) : DSs (cxOf (L2.CX P w) P w K mg base N_member_above "member_above" (defScope s_member_above) f cdv A outer s H E) ⟨S, C, [], 3, [false, false, false], false, [], []⟩ [false, false, false] (defBody s_member_above) m_member_above [false, false, false] := by
  have nd := sc_member_above.nd
  exact (ss_cons (Δ1 := [false, false, false]) (ds_set bd.ob 2 nd (bo := false) (de_callB bd c_loss_amount_2 (da_e (de_var 0) (da_e (de_var 1) da_nil))))
    (ss_cons (Δ1 := [false, false, false]) (ds_if (dt_cmp blf_is od_is (nomark _) (de_var 2) de_non (kim _)) (ss_one (ds_ret bd.ob rfl de_non)) ss_nil)
    (ss_one (ds_ret bd.ob rfl (de_callB bd c_lift_word_2 (da_e (de_var 1) (da_e (de_var 2) da_nil)))))))
abbrev N_check_word : List Str := ["letters", "word", "most", "at", "letter"]
theorem sc_check_word : FnScope N_check_word ["letters", "word", "most"] (defScope s_check_word) := ⟨rfl, rfl, rfl, by decide +kernel, rfl, by decide +kernel, by decide +kernel⟩
set_option maxRecDepth 100000 in
theorem d_check_word {P : Program} {w : World} {K : PySem.W.Frag} {mg : Str → Option Value} {base : Heap} (G : Wd K mg) (c_is_whole_3 : Cal P w K mg base 1 "is_whole" F_is_whole 3 [] false []) (x_BadWord : ExK P w K mg base 1 "BadWord" 1 [("index", 0)]) {f : Addr} {cdv : Value} {A : Around} {outer : List Env} {s : Shared} {H : Hp} {E : XK} {S : Sx} {C : Xd → Gm → Prop}
    (bd : Body (cxOf (L2.CX P w) P w K mg base N_check_word "check_word" (defScope s_check_word) f cdv A outer s H E) ⟨S, C, [], 5, [false, false, false, false, false], false, [], []⟩ 2) : DSs (cxOf (L2.CX P w) P w K mg base N_check_word "check_word" (defScope s_check_word) f cdv A outer s H E) ⟨S, C, [], 5, [false, false, false, false, false], false, [], []⟩ [false, false, false, false, false] (defBody s_check_word) m_check_word [false, false, false, false, false] := by
  have nd := sc_check_word.nd
  exact (ss_cons (Δ1 := [false, false, false, false, false]) (ds_if (dt_bool (dw_or (dt_not (dt_val (de_isi2 .lst .tup G.n_isinstance G.n_list G.n_tuple (de_var 1)))) (dw_or1 (dt_cmp blf_cmp od_gt (nomark _) (de_call1 (bo := false) cd_len G.n_len Boot.«len» (de_var 1)) (de_var 2) (kim _))))) (ss_one (ds_raise bd x_BadWord (dl_cons (de_un ud_neg de_int) dl_nil))) ss_nil)
    (ss_cons (Δ1 := [false, false, false, false, false]) (ds_for (Δ1 := [false, false, false, false, false]) (Δ2 := [false, false, false, false, false]) (mb := m_check_word_b1) bd.hp (di_enumX G.n_enumerate (de_var 1)) (dg_tup (dgs_cons (dg_n (bd.lp [false, false, false, false, false]).ob 3 nd) (dgs_cons (dg_n (bd.lp [false, false, false, false, false]).ob 4 nd) dgs_nil)) (gLen_cons (gLen_cons gLen_nil))) (ss_one (ds_if (dt_not (dt_val (de_callB (bd.lp [false, false, false, false, false]) c_is_whole_3 (da_e (de_var 4) (da_e de_int (da_e (de_bin (bo := false) od_sub (de_var 0) de_int (kim _)) da_nil)))))) (ss_one (ds_raise (bd.lp [false, false, false, false, false]) x_BadWord (dl_cons (de_var 3) dl_nil))) ss_nil)))
    (ss_one (ds_ret bd.ob rfl (de_ty1 (bo := false) cd_tuple G.n_tuple Boot.«tuple» (de_var 1))))))
abbrev N_check_read : List Str := ["word", "length"]
theorem sc_check_read : FnScope N_check_read ["word", "length"] (defScope s_check_read) := ⟨rfl, rfl, rfl, by decide +kernel, rfl, by decide +kernel, by decide +kernel⟩
set_option maxRecDepth 100000 in
theorem d_check_read {P : Program} {w : World} {K : PySem.W.Frag} {mg : Str → Option Value} {base : Heap} (G : Wd K mg) (c_check_word_3 : Cal P w K mg base 3 "check_word" F_check_word 3 [] false []) (x_NotOneOff : ExK P w K mg base 1 "NotOneOff" 0 []) {f : Addr} {cdv : Value} {A : Around} {outer : List Env} {s : Shared} {H : Hp} {E : XK} {S : Sx} {C : Xd → Gm → Prop}
    (bd : Body (cxOf (L2.CX P w) P w K mg base N_check_read "check_read" (defScope s_check_read) f cdv A outer s H E) ⟨S, C, [], 2, [false, false], false, [], []⟩ 3) : DSs (cxOf (L2.CX P w) P w K mg base N_check_read "check_read" (defScope s_check_read) f cdv A outer s H E) ⟨S, C, [], 2, [false, false], false, [], []⟩ [false, false] (defBody s_check_read) m_check_read [false, false] := by
  have nd := sc_check_read.nd
  exact (ss_cons (Δ1 := [false, false]) (ds_set bd.ob 0 nd (bo := false) (de_callB bd c_check_word_3 (da_e de_int (da_e (de_var 0) (da_e (de_bin (bo := false) od_addA (de_gintE G.i_MOST_LENGTH) de_int (kim _)) da_nil)))))
    (ss_cons (Δ1 := [false, false]) (ds_if (dt_cmp blf_ne (od_ne (by exact bd.hu)) (nomark _) (de_call1 (bo := false) cd_len G.n_len Boot.«len» (de_var 0)) (de_var 1) (kim _)) (ss_one (ds_raise0 bd x_NotOneOff)) ss_nil)
    (ss_one (ds_ret bd.ob rfl (de_var 0)))))
abbrev N_read_lost : List Str := ["book", "word"]
theorem sc_read_lost : FnScope N_read_lost ["book", "word"] (defScope s_read_lost) := ⟨rfl, rfl, rfl, by decide +kernel, rfl, by decide +kernel, by decide +kernel⟩
set_option maxRecDepth 100000 in
theorem d_read_lost {P : Program} {w : World} {K : PySem.W.Frag} {mg : Str → Option Value} {base : Heap} (G : Wd K mg) (c_check_read_2 : Cal P w K mg base 4 "check_read" F_check_read 2 [] false []) (c_member_above_2 : Cal P w K mg base 3 "member_above" F_member_above 2 [] false []) {f : Addr} {cdv : Value} {A : Around} {outer : List Env} {s : Shared} {H : Hp} {E : XK} {S : Sx} {C : Xd → Gm → Prop}
    (bd : Body (cxOf (L2.CX P w) P w K mg base N_read_lost "read_lost" (defScope s_read_lost) f cdv A outer s H E) ⟨S, C, [], 2, [false, false], false, [], []⟩ 4) : DSs (cxOf (L2.CX P w) P w K mg base N_read_lost "read_lost" (defScope s_read_lost) f cdv A outer s H E) ⟨S, C, [], 2, [false, false], false, [], []⟩ [false, false] (defBody s_read_lost) m_read_lost [false, false] := by
  have nd := sc_read_lost.nd
  exact (ss_one (ds_ret bd.ob rfl (de_callB bd c_member_above_2 (da_e (de_var 0) (da_e (de_callB bd c_check_read_2 (da_e (de_var 1) (da_e (de_bin (bo := false) od_sub (de_fld G.f_length (de_var 0)) de_int (kim _)) da_nil))) da_nil)))))
abbrev N__law_is_unread : List Str := ["_law_facts", "_law_word"]
theorem sc__law_is_unread : FnScope N__law_is_unread ["_law_facts", "_law_word"] (defScope s__law_is_unread) := ⟨rfl, rfl, rfl, by decide +kernel, rfl, by decide +kernel, by decide +kernel⟩
set_option maxRecDepth 100000 in
theorem d__law_is_unread {P : Program} {w : World} {K : PySem.W.Frag} {mg : Str → Option Value} {base : Heap} (G : Wd K mg) (c__law_sum_1 : Cal P w K mg base 1 "_law_sum" F__law_sum 1 [] false []) {f : Addr} {cdv : Value} {A : Around} {outer : List Env} {s : Shared} {H : Hp} {E : XK} {S : Sx} {C : Xd → Gm → Prop}
    (bd : Body (cxOf (L2.CX P w) P w K mg base N__law_is_unread "_law_is_unread" (defScope s__law_is_unread) f cdv A outer s H E) ⟨S, C, [], 2, [false, false], false, [], []⟩ 1) : DSs (cxOf (L2.CX P w) P w K mg base N__law_is_unread "_law_is_unread" (defScope s__law_is_unread) f cdv A outer s H E) ⟨S, C, [], 2, [false, false], false, [], []⟩ [false, false] (defBody s__law_is_unread) m__law_is_unread [false, false] := by
  have nd := sc__law_is_unread.nd
  exact (ss_one (ds_ret bd.ob rfl (de_cmp od_gt (nomark _) (de_bin (bo := false) od_mod (de_ty1 (bo := false) cd_intS G.n_int Boot.«int» (de_bin (bo := false) od_sub (de_ix (bo := false) xd_ix (de_var 0) de_int (kim _)) (de_callB bd c__law_sum_1 (da_e (de_var 1) da_nil)) (kim _))) (de_ix (bo := false) xd_ix (de_var 0) de_int (kim _)) (kim _)) (de_ix (bo := false) xd_ix (de_var 0) de_int (kim _)) (kim _))))
abbrev N__law_unread_right : List Str := ["_law_book", "_law_facts", "_law_n", "_law_word", "_law_none"]
theorem sc__law_unread_right : FnScope N__law_unread_right ["_law_book", "_law_facts"] (defScope s__law_unread_right) := ⟨rfl, rfl, rfl, by decide +kernel, rfl, by decide +kernel, by decide +kernel⟩
set_option maxRecDepth 100000 in
theorem d__law_unread_right {P : Program} {w : World} {K : PySem.W.Frag} {mg : Str → Option Value} {base : Heap} (G : Wd K mg) (c__law_is_unread_2 : Cal P w K mg base 2 "_law_is_unread" F__law_is_unread 2 [] false []) (c__law_is_word_2 : Cal P w K mg base 2 "_law_is_word" F__law_is_word 2 [] false []) (c_read_lost_2 : Cal P w K mg base 5 "read_lost" F_read_lost 2 [] false []) (c_unread_word_1 : Cal P w K mg base 4 "unread_word" F_unread_word 1 [] false []) {f : Addr} {cdv : Value} {A : Around} {outer : List Env} {s : Shared} {H : Hp} {E : XK} {S : Sx} {C : Xd → Gm → Prop}
    (bd : Body (cxOf (L2.CX P w) P w K mg base N__law_unread_right "_law_unread_right" (defScope s__law_unread_right) f cdv A outer s H E) ⟨S, C, [], 5, [false, false, false, false, false], false, [], []⟩ 5) : DSs (cxOf (L2.CX P w) P w K mg base N__law_unread_right "_law_unread_right" (defScope s__law_unread_right) f cdv A outer s H E) ⟨S, C, [], 5, [false, false, false, false, false], false, [], []⟩ [false, false, false, false, false] (defBody s__law_unread_right) m__law_unread_right [false, false, false, false, false] := by
  have nd := sc__law_unread_right.nd
  exact (ss_cons (Δ1 := [false, false, false, false, false]) (ds_set bd.ob 2 nd (bo := false) (de_ix (bo := false) xd_ix (de_var 1) de_int (kim _)))
    (ss_cons (Δ1 := [false, false, false, false, false]) (ds_set bd.ob 3 nd (bo := false) (de_callB bd c_unread_word_1 (da_e (de_var 0) da_nil)))
    (ss_cons (Δ1 := [false, false, false, false, false]) (ds_set bd.ob 4 nd (bo := false) (de_or (de_cmp (od_eq (by exact bd.hu)) (nomark _) (de_ix (bo := false) xd_ix (de_var 1) de_int (kim _)) (de_bin (bo := false) od_addA (de_var 2) de_int (kim _)) (kim _)) (de_one (de_and (de_cmp od_lt (nomark _) (de_var 2) de_int (kim _)) (de_one (de_chain od_le od_le (de_bin (bo := false) od_fdiv (de_bin (bo := false) od_mulA (de_var 2) (de_bin (bo := false) od_sub (de_var 2) de_int (kim _)) (kim _)) de_int (kim _)) (de_ix (bo := false) xd_ix (de_var 1) de_int (kim _)) (de_var 2)))))))
    (ss_cons (Δ1 := [false, false, false, false, false]) (ds_if (dt_cmp blf_is od_is (nomark _) (de_var 3) de_non (kim _)) (ss_one (ds_ret bd.ob rfl (de_var 4))) ss_nil)
    (ss_cons (Δ1 := [false, false, false, false, false]) (ds_if (dt_bool (dw_or (dt_val (de_var 4)) (dw_or (dt_not (dt_val (de_callB bd c__law_is_word_2 (da_e (de_var 3) (da_e (de_bin (bo := false) od_sub (de_var 2) de_int (kim _)) da_nil))))) (dw_or1 (dt_not (dt_val (de_callB bd c__law_is_unread_2 (da_e (de_var 1) (da_e (de_var 3) da_nil))))))))) (ss_one (ds_ret bd.ob rfl de_bl)) ss_nil)
    (ss_one (ds_ret bd.ob rfl (de_cmp od_is (nomark _) (de_callB bd c_read_lost_2 (da_e (de_var 0) (da_e (de_var 3) da_nil))) de_non (kim _)))))))))
abbrev N__law_all_words : List Str := ["_law_q", "_law_n", "_law_told", "_law_k", "_law_longer", "_law_word", "_law_letter"]
theorem sc__law_all_words : FnScope N__law_all_words ["_law_q", "_law_n"] (defScope s__law_all_words) := ⟨rfl, rfl, rfl, by decide +kernel, rfl, by decide +kernel, by decide +kernel⟩
set_option maxRecDepth 100000 in
theorem d__law_all_words {P : Program} {w : World} {K : PySem.W.Frag} {mg : Str → Option Value} {base : Heap} (G : Wd K mg) {f : Addr} {cdv : Value} {A : Around} {outer : List Env} {s : Shared} {H : Hp} {E : XK} {S : Sx} {C : Xd → Gm → Prop}
    (bd : Body (cxOf (L2.CX P w) P w K mg base N__law_all_words "_law_all_words" (defScope s__law_all_words) f cdv A outer s H E) ⟨S, C, [], 7, [false, false, false, false, false, false, false], false, [], []⟩ 0) : DSs (cxOf (L2.CX P w) P w K mg base N__law_all_words "_law_all_words" (defScope s__law_all_words) f cdv A outer s H E) ⟨S, C, [], 7, [false, false, false, false, false, false, false], false, [], []⟩ [false, false, false, false, false, false, false] (defBody s__law_all_words) m__law_all_words [false, false, false, false, false, false, false] := by
  have nd := sc__law_all_words.nd
  exact (ss_cons (Δ1 := [false, false, false, false, false, false, false]) (ds_set bd.ob 2 nd (bo := false) (de_im (de_lst (dl_cons (de_tup dl_nil) dl_nil))))
    (ss_cons (Δ1 := [false, false, false, false, false, false, false]) (ds_for (Δ1 := [false, false, false, false, false, false, false]) (Δ2 := [false, false, false, false, false, false, false]) (mb := m__law_all_words_b3) bd.hp (di_range1 G.n_range (de_var 1)) (dg_n (bd.lp [false, false, false, false, false, false, false]).ob 3 nd) (ss_cons (Δ1 := [false, false, false, false, false, false, false]) (ds_set (bd.lp [false, false, false, false, false, false, false]).ob 4 nd (bo := false) (de_im (de_lst dl_nil)))
    (ss_cons (Δ1 := [false, false, false, false, false, false, false]) (ds_for (Δ1 := [false, false, false, false, false, false, false]) (Δ2 := [false, false, false, false, false, false, false]) (mb := m__law_all_words_b2) (bd.lp [false, false, false, false, false, false, false]).hp (di_seqX (de_var 2)) (dg_n ((bd.lp [false, false, false, false, false, false, false]).lp [false, false, false, false, false, false, false]).ob 5 nd) (ss_one (ds_set ((bd.lp [false, false, false, false, false, false, false]).lp [false, false, false, false, false, false, false]).ob 4 nd (bo := false) (de_bin (bo := false) od_addA (de_var 4) (de_lc ((bd.lp [false, false, false, false, false, false, false]).lp [false, false, false, false, false, false, false]).ob [("_law_letter", 6)] (di_range1 G.n_range (de_var 0)) nd (blkOk_by (show blkC N__law_all_words (defScope s__law_all_words) _ _ = true by decide +kernel)) (fun _ _ _ _ _ => (dg_n (((bd.lp [false, false, false, false, false, false, false]).lp [false, false, false, false, false, false, false]).obh [false, false, false, false, false, false, false]) 6 nd)) (fun _ _ _ _ _ => dts_nil) (fun _ _ _ _ _ => (de_bin (bo := false) od_addA (de_var 5) (de_tup (dl_cons (de_var 6) dl_nil)) (kim _)))) (kim _)))))
    (ss_one (ds_set (bd.lp [false, false, false, false, false, false, false]).ob 2 nd (bo := false) (de_var 4))))))
    (ss_one (ds_ret bd.ob rfl (de_var 2)))))
abbrev N__law_has_clash : List Str := ["_law_n", "_law_modulus", "_law_rest", "_law_met", "_law_word", "_law_k", "_law_less"]
theorem sc__law_has_clash : FnScope N__law_has_clash ["_law_n", "_law_modulus", "_law_rest"] (defScope s__law_has_clash) := ⟨rfl, rfl, rfl, by decide +kernel, rfl, by decide +kernel, by decide +kernel⟩
set_option maxRecDepth 100000 in
theorem d__law_has_clash {P : Program} {w : World} {K : PySem.W.Frag} {mg : Str → Option Value} {base : Heap} (G : Wd K mg) (c__law_all_words_2 : Cal P w K mg base 1 "_law_all_words" F__law_all_words 2 [] false []) (c__law_sum_1 : Cal P w K mg base 1 "_law_sum" F__law_sum 1 [] false []) {f : Addr} {cdv : Value} {A : Around} {outer : List Env} {s : Shared} {H : Hp} {E : XK} {S : Sx} {C : Xd → Gm → Prop}
    (bd : Body (cxOf (L2.CX P w) P w K mg base N__law_has_clash "_law_has_clash" (defScope s__law_has_clash) f cdv A outer s H E) ⟨S, C, [], 7, [false, false, false, false, false, false, false], false, [], []⟩ 1) : DSs (cxOf (L2.CX P w) P w K mg base N__law_has_clash "_law_has_clash" (defScope s__law_has_clash) f cdv A outer s H E) ⟨S, C, [], 7, [false, false, false, false, false, false, false], false, [], []⟩ [false, false, false, false, false, false, false] (defBody s__law_has_clash) m__law_has_clash [false, false, false, true, false, false, false] := by
  have nd := sc__law_has_clash.nd
  exact (ss_cons (Δ1 := [false, false, false, true, false, false, false]) (ds_set bd.ob 3 nd (bo := true) de_dctT)
    (ss_cons (Δ1 := [false, false, false, true, false, false, false]) (ds_for (Δ1 := [false, false, false, true, false, false, false]) (Δ2 := [false, false, false, true, false, false, false]) (mb := m__law_has_clash_b2) bd.hp (di_seqX (de_callB bd c__law_all_words_2 (da_e de_int (da_e (de_var 0) da_nil)))) (dg_n (bd.lp [false, false, false, true, false, false, false]).ob 4 nd) (ss_one (ds_if (dt_cmp blf_eq (od_eq (by exact bd.hu)) (nomark _) (de_bin (bo := false) od_mod (de_ty1 (bo := false) cd_intS G.n_int Boot.«int» (de_bin (bo := false) od_sub (de_callB (bd.lp [false, false, false, true, false, false, false]) c__law_sum_1 (da_e (de_var 4) da_nil)) (de_var 2) (kim _))) (de_var 1) (kim _)) de_int (kim _)) (ss_one (ds_for (Δ1 := [false, false, false, true, false, false, false]) (Δ2 := [false, false, false, true, false, false, false]) (mb := m__law_has_clash_b1) (bd.lp [false, false, false, true, false, false, false]).hp (di_range1 G.n_range (de_var 0)) (dg_n ((bd.lp [false, false, false, true, false, false, false]).lp [false, false, false, true, false, false, false]).ob 5 nd) (ss_cons (Δ1 := [false, false, false, true, false, false, false]) (ds_set ((bd.lp [false, false, false, true, false, false, false]).lp [false, false, false, true, false, false, false]).ob 6 nd (bo := false) (de_bin (bo := false) od_addA (de_sl_ (bo := false) sd_slA (de_var 4) do_no (do_p (de_var 5)) (ko_no _) (koim _)) (de_sl_ (bo := false) sd_slA (de_var 4) (do_p (de_bin (bo := false) od_addA (de_var 5) de_int (kim _))) do_no (koim _) (ko_no _)) (kim _)))
    (ss_cons (Δ1 := [false, false, false, true, false, false, false]) (ds_if (dt_cmp blf_ne (od_ne (by exact bd.hu)) (nomark _) (de_dget2 (by exact bd.hu) (de_sl 3) (de_var 6) (de_var 4) (kps (kp_var _)) (kps (kp_var _))) (de_var 4) (kim _)) (ss_one (ds_ret ((bd.lp [false, false, false, true, false, false, false]).lp [false, false, false, true, false, false, false]).ob rfl de_bl)) ss_nil)
    (ss_one (ds_or2 (ds_dst (by exact bd.hu) 3 (de_var 4) (de_var 6)) (ds_st 3 (de_var 4) (de_var 6)) mStX_m)))))) ss_nil)))
    (ss_one (ds_ret bd.ob rfl de_bl))))
abbrev N__law_more_one : List Str := ["_law_q", "_law_word", "_law_told", "_law_k", "_law_letter"]
theorem sc__law_more_one : FnScope N__law_more_one ["_law_q", "_law_word"] (defScope s__law_more_one) := ⟨rfl, rfl, rfl, by decide +kernel, rfl, by decide +kernel, by decide +kernel⟩
set_option maxRecDepth 100000 in
theorem d__law_more_one {P : Program} {w : World} {K : PySem.W.Frag} {mg : Str → Option Value} {base : Heap} (G : Wd K mg) {f : Addr} {cdv : Value} {A : Around} {outer : List Env} {s : Shared} {H : Hp} {E : XK} {S : Sx} {C : Xd → Gm → Prop}
    (bd : Body (cxOf (L2.CX P w) P w K mg base N__law_more_one "_law_more_one" (defScope s__law_more_one) f cdv A outer s H E) ⟨S, C, [], 5, [false, false, false, false, false], false, [], []⟩ 0) : DSs (cxOf (L2.CX P w) P w K mg base N__law_more_one "_law_more_one" (defScope s__law_more_one) f cdv A outer s H E) ⟨S, C, [], 5, [false, false, false, false, false], false, [], []⟩ [false, false, false, false, false] (defBody s__law_more_one) m__law_more_one [false, false, false, false, false] := by
  have nd := sc__law_more_one.nd
  exact (ss_cons (Δ1 := [false, false, false, false, false]) (ds_set bd.ob 2 nd (bo := false) (de_im (de_lst dl_nil)))
    (ss_cons (Δ1 := [false, false, false, false, false]) (ds_for (Δ1 := [false, false, false, false, false]) (Δ2 := [false, false, false, false, false]) (mb := m__law_more_one_b2) bd.hp (di_range1 G.n_range (de_bin (bo := false) od_addA (de_call1 (bo := false) cd_len G.n_len Boot.«len» (de_var 1)) de_int (kim _))) (dg_n (bd.lp [false, false, false, false, false]).ob 3 nd) (ss_one (ds_set (bd.lp [false, false, false, false, false]).ob 2 nd (bo := false) (de_bin (bo := false) od_addA (de_var 2) (de_lc (bd.lp [false, false, false, false, false]).ob [("_law_letter", 4)] (di_range1 G.n_range (de_var 0)) nd (blkOk_by (show blkC N__law_more_one (defScope s__law_more_one) _ _ = true by decide +kernel)) (fun _ _ _ _ _ => (dg_n ((bd.lp [false, false, false, false, false]).obh [false, false, false, false, false]) 4 nd)) (fun _ _ _ _ _ => dts_nil) (fun _ _ _ _ _ => (de_bin (bo := false) od_addA (de_bin (bo := false) od_addA (de_sl_ (bo := false) sd_slA (de_var 1) do_no (do_p (de_var 3)) (ko_no _) (koim _)) (de_tup (dl_cons (de_var 4) dl_nil)) (kim _)) (de_sl_ (bo := false) sd_slA (de_var 1) (do_p (de_var 3)) do_no (koim _) (ko_no _)) (kim _)))) (kim _)))))
    (ss_one (ds_ret bd.ob rfl (de_im (de_srtSet (by exact bd.hu5) G.n_sorted G.n_set (de_var 2)))))))
abbrev N__law_small_unread : List Str := ["_law_facts", "_law_n", "_law_members", "_law_word", "_law_row"]
theorem sc__law_small_unread : FnScope N__law_small_unread ["_law_facts"] (defScope s__law_small_unread) := ⟨rfl, rfl, rfl, by decide +kernel, rfl, by decide +kernel, by decide +kernel⟩
set_option maxRecDepth 100000 in
theorem d__law_small_unread {P : Program} {w : World} {K : PySem.W.Frag} {mg : Str → Option Value} {base : Heap} (G : Wd K mg) (c__law_all_words_2 : Cal P w K mg base 1 "_law_all_words" F__law_all_words 2 [] false []) (c__law_more_one_2 : Cal P w K mg base 1 "_law_more_one" F__law_more_one 2 [] false []) (c__law_sum_1 : Cal P w K mg base 1 "_law_sum" F__law_sum 1 [] false []) {f : Addr} {cdv : Value} {A : Around} {outer : List Env} {s : Shared} {H : Hp} {E : XK} {S : Sx} {C : Xd → Gm → Prop}
    (bd : Body (cxOf (L2.CX P w) P w K mg base N__law_small_unread "_law_small_unread" (defScope s__law_small_unread) f cdv A outer s H E) ⟨S, C, [], 5, [false, false, false, false, false], false, [], []⟩ 1) : DSs (cxOf (L2.CX P w) P w K mg base N__law_small_unread "_law_small_unread" (defScope s__law_small_unread) f cdv A outer s H E) ⟨S, C, [], 5, [false, false, false, false, false], false, [], []⟩ [false, false, false, false, false] (defBody s__law_small_unread) m__law_small_unread [false, false, true, false, false] := by
  have nd := sc__law_small_unread.nd
  exact (ss_cons (Δ1 := [false, false, false, false, false]) (ds_set bd.ob 1 nd (bo := false) (de_ix (bo := false) xd_ix (de_var 0) de_int (kim _)))
    (ss_cons (Δ1 := [false, false, true, false, false]) (ds_set bd.ob 2 nd (bo := true) de_dctT)
    (ss_cons (Δ1 := [false, false, true, false, false]) (ds_for (Δ1 := [false, false, true, false, false]) (Δ2 := [false, false, true, false, false]) (mb := m__law_small_unread_b1) bd.hp (di_seqX (de_callB bd c__law_all_words_2 (da_e de_int (da_e (de_var 1) da_nil)))) (dg_n (bd.lp [false, false, true, false, false]).ob 3 nd) (ss_one (ds_if (dt_cmp blf_eq (od_eq (by exact bd.hu)) (nomark _) (de_bin (bo := false) od_mod (de_ty1 (bo := false) cd_intS G.n_int Boot.«int» (de_bin (bo := false) od_sub (de_callB (bd.lp [false, false, true, false, false]) c__law_sum_1 (da_e (de_var 3) da_nil)) (de_ix (bo := false) xd_ix (de_var 0) de_int (kim _)) (kim _))) (de_ix (bo := false) xd_ix (de_var 0) de_int (kim _)) (kim _)) de_int (kim _)) (ss_one (ds_or2 (ds_dst (by exact bd.hu) 2 de_bl (de_var 3)) (ds_st 2 de_bl (de_var 3)) mStX_m)) ss_nil)))
    (ss_cons (Δ1 := [false, false, true, false, false]) (ds_for (Δ1 := [false, false, true, false, false]) (Δ2 := [false, false, true, false, false]) (mb := m__law_small_unread_b3) bd.hp (di_seqX (de_callB bd c__law_all_words_2 (da_e de_int (da_e (de_bin (bo := false) od_sub (de_var 1) de_int (kim _)) da_nil)))) (dg_n (bd.lp [false, false, true, false, false]).ob 4 nd) (ss_one (ds_if (dt_val (de_call1 (bo := false) (cd_all rfl) G.n_all Boot.«all» (de_lc (bd.lp [false, false, true, false, false]).ob [("_law_word", 3)] (di_seqX (de_callB (bd.lp [false, false, true, false, false]) c__law_more_one_2 (da_e de_int (da_e (de_var 4) da_nil)))) nd (blkOk_by (show blkC N__law_small_unread (defScope s__law_small_unread) _ _ = true by decide +kernel)) (fun _ _ _ _ _ => (dg_n ((bd.lp [false, false, true, false, false]).obh [false, false, true, false, false]) 3 nd)) (fun _ _ _ _ _ => dts_nil) (fun _ _ _ _ _ => (de_or2 (de_dnotin (by exact bd.hu) (de_var 3) (de_sl 2) (kim _)) (de_cmp (od_notinA (by exact bd.hu5)) rfl (de_var 3) (de_sl 2) (kim _)) pickR_m))))) (ss_one (ds_ret (bd.lp [false, false, true, false, false]).ob rfl de_bl)) ss_nil)))
    (ss_one (ds_ret bd.ob rfl de_bl))))))
abbrev N_law : List Str := ["_law_script", "_law_hand_here", "_law_n", "_law_modulus", "_law_rest", "_law_turn", "_law_facts", "_law_book"]
theorem sc_law : FnScope N_law ["_law_script"] (defScope s_law) := ⟨rfl, rfl, rfl, by decide +kernel, rfl, by decide +kernel, by decide +kernel⟩
set_option maxRecDepth 100000 in
theorem d_law {P : Program} {w : World} {K : PySem.W.Frag} {mg : Str → Option Value} {base : Heap} (G : Wd K mg) (c__law_book_of_2 : Cal P w K mg base 3 "_law_book_of" F__law_book_of 2 [0] false []) (c__law_hand_1 : Cal P w K mg base 1 "_law_hand" F__law_hand 1 [] true []) (c__law_has_clash_3 : Cal P w K mg base 2 "_law_has_clash" F__law_has_clash 3 [] false []) (c__law_modulus_right_3 : Cal P w K mg base 5 "_law_modulus_right" F__law_modulus_right 3 [] false []) (c__law_refusals_2 : Cal P w K mg base 6 "_law_refusals" F__law_refusals 2 [0] false []) (c__law_small_unread_1 : Cal P w K mg base 2 "_law_small_unread" F__law_small_unread 1 [] false []) (c__law_take_2 : Cal P w K mg base 2 "_law_take" F__law_take 2 [0] false []) (c__law_unread_right_2 : Cal P w K mg base 6 "_law_unread_right" F__law_unread_right 2 [] false []) (c_unread_word_1 : Cal P w K mg base 4 "unread_word" F_unread_word 1 [] false []) (i_SumBook_3 : CalI P w K mg base 4 "SumBook" F_SumBook___init__ 3 []) {f : Addr} {cdv : Value} {A : Around} {outer : List Env} {s : Shared} {H : Hp} {E : XK} {S : Sx} {C : Xd → Gm → Prop}
    (bd : Body (cxOf (L2.CX P w) P w K mg base N_law "law" (defScope s_law) f cdv A outer s H E) ⟨S, C, [], 8, [false, false, false, false, false, false, false, false], false, [], []⟩ 6) : DSs (cxOf (L2.CX P w) P w K mg base N_law "law" (defScope s_law) f cdv A outer s H E) ⟨S, C, [], 8, [false, false, false, false, false, false, false, false], false, [], []⟩ [false, false, false, false, false, false, false, false] (defBody s_law) m_law [false, true, false, false, false, false, false, false] := by
  have nd := sc_law.nd
  exact (ss_cons (Δ1 := [false, true, false, false, false, false, false, false]) (ds_set bd.ob 1 nd (bo := true) (de_callB bd c__law_hand_1 (da_e (de_var 0) da_nil)))
    (ss_cons (Δ1 := [false, true, false, false, false, false, false, false]) (ds_set bd.ob 2 nd (bo := false) (de_callB bd c__law_take_2 (da_p 1 (da_e de_int da_nil))))
    (ss_cons (Δ1 := [false, true, false, false, false, false, false, false]) (ds_for (Δ1 := [false, true, false, false, false, false, false, false]) (Δ2 := [false, true, false, false, false, false, false, false]) (mb := m_law_b1) bd.hp (di_range2 G.n_range de_int (de_bin (bo := false) od_addA (de_var 2) de_int (kim _))) (dg_n (bd.lp [false, true, false, false, false, false, false, false]).ob 3 nd) (ss_cons (Δ1 := [false, true, false, false, false, false, false, false]) (ds_set (bd.lp [false, true, false, false, false, false, false, false]).ob 4 nd (bo := false) (de_callB (bd.lp [false, true, false, false, false, false, false, false]) c__law_take_2 (da_p 1 (da_e (de_var 3) da_nil))))
    (ss_one (ds_if (dt_bool (dw_or (dt_cmp blf_ne (od_ne (by exact bd.hu)) (nomark _) (de_callB (bd.lp [false, true, false, false, false, false, false, false]) c__law_has_clash_3 (da_e (de_var 2) (da_e (de_var 3) (da_e (de_var 4) da_nil)))) (de_cmp od_le (nomark _) (de_var 3) (de_var 2) (kim _)) (kim _)) (dw_or1 (dt_not (dt_val (de_callB (bd.lp [false, true, false, false, false, false, false, false]) c__law_modulus_right_3 (da_e (de_var 2) (da_e (de_var 3) (da_e (de_var 4) da_nil))))))))) (ss_one (ds_ret (bd.lp [false, true, false, false, false, false, false, false]).ob rfl de_bl)) ss_nil))))
    (ss_cons (Δ1 := [false, true, false, false, false, false, false, false]) (ds_for (Δ1 := [false, true, false, false, false, false, false, false]) (Δ2 := [false, true, false, false, false, false, false, false]) (mb := m_law_b2) bd.hp (di_range1 G.n_range de_int) (dg_n (bd.lp [false, true, false, false, false, false, false, false]).ob 5 nd) (ss_cons (Δ1 := [false, true, false, false, false, false, false, false]) (ds_set (bd.lp [false, true, false, false, false, false, false, false]).ob 2 nd (bo := false) (de_callB (bd.lp [false, true, false, false, false, false, false, false]) c__law_take_2 (da_p 1 (da_e (de_ix (bo := false) xd_ix (de_lst (dl_cons de_int (dl_cons de_int dl_nil))) (de_bin (bo := false) od_fdiv (de_var 5) de_int (kim _)) (kow _)) da_nil))))
    (ss_cons (Δ1 := [false, true, false, false, false, false, false, false]) (ds_set (bd.lp [false, true, false, false, false, false, false, false]).ob 3 nd (bo := false) (de_ix (bo := false) xd_ix (de_lst (dl_cons (de_bin (bo := false) od_addA de_int (de_callB (bd.lp [false, true, false, false, false, false, false, false]) c__law_take_2 (da_p 1 (da_e (de_bin (bo := false) od_addA (de_var 2) de_int (kim _)) da_nil))) (kim _)) (dl_cons (de_max2 G.n_max de_int (de_var 2)) (dl_cons (de_bin (bo := false) od_addA (de_var 2) de_int (kim _)) (dl_cons (de_bin (bo := false) od_addA de_int (de_callB (bd.lp [false, true, false, false, false, false, false, false]) c__law_take_2 (da_p 1 (da_e (de_bin (bo := false) od_pow de_int de_int (kim _)) da_nil))) (kim _)) dl_nil))))) (de_callB (bd.lp [false, true, false, false, false, false, false, false]) c__law_take_2 (da_p 1 (da_e de_int da_nil))) (kow _)))
    (ss_cons (Δ1 := [false, true, false, false, false, false, false, false]) (ds_set (bd.lp [false, true, false, false, false, false, false, false]).ob 4 nd (bo := false) (de_ix (bo := false) xd_ix (de_lst (dl_cons de_int (dl_cons (de_bin (bo := false) od_sub (de_var 3) de_int (kim _)) (dl_cons (de_callB (bd.lp [false, true, false, false, false, false, false, false]) c__law_take_2 (da_p 1 (da_e (de_var 3) da_nil))) dl_nil)))) (de_callB (bd.lp [false, true, false, false, false, false, false, false]) c__law_take_2 (da_p 1 (da_e de_int da_nil))) (kow _)))
    (ss_cons (Δ1 := [false, true, false, false, false, false, false, false]) (ds_if (dt_not (dt_val (de_callB (bd.lp [false, true, false, false, false, false, false, false]) c__law_modulus_right_3 (da_e (de_var 2) (da_e (de_var 3) (da_e (de_var 4) da_nil)))))) (ss_one (ds_ret (bd.lp [false, true, false, false, false, false, false, false]).ob rfl de_bl)) ss_nil)
    (ss_cons (Δ1 := [false, true, false, false, false, false, false, false]) (ds_set (bd.lp [false, true, false, false, false, false, false, false]).ob 6 nd (bo := false) (de_callB (bd.lp [false, true, false, false, false, false, false, false]) c__law_book_of_2 (da_p 1 (da_e (de_bin (bo := false) od_addA de_int (de_callB (bd.lp [false, true, false, false, false, false, false, false]) c__law_take_2 (da_p 1 (da_e (de_ix (bo := false) xd_ix (de_lst (dl_cons de_int (dl_cons de_int dl_nil))) (de_bin (bo := false) od_fdiv (de_var 5) de_int (kim _)) (kow _)) da_nil))) (kim _)) da_nil))))
    (ss_cons (Δ1 := [false, true, false, false, false, false, false, false]) (ds_set (bd.lp [false, true, false, false, false, false, false, false]).ob 7 nd (bo := false) (de_im (de_makeB (bd.lp [false, true, false, false, false, false, false, false]) i_SumBook_3 (da_e (de_ix (bo := false) xd_ix (de_var 6) de_int (kim _)) (da_e (de_ix (bo := false) xd_ix (de_var 6) de_int (kim _)) (da_e (de_ix (bo := false) xd_ix (de_var 6) de_int (kim _)) da_nil))))))
    (ss_cons (Δ1 := [false, true, false, false, false, false, false, false]) (ds_if (dt_not (dt_val (de_callB (bd.lp [false, true, false, false, false, false, false, false]) c__law_unread_right_2 (da_e (de_var 7) (da_e (de_var 6) da_nil))))) (ss_one (ds_ret (bd.lp [false, true, false, false, false, false, false, false]).ob rfl de_bl)) ss_nil)
    (ss_one (ds_if (dt_bool (dw_and (dt_cmp blf_cmp od_lt (nomark _) (de_var 5) de_int (kim _)) (dw_and1 (dt_cmp blf_ne (od_ne (by exact bd.hu)) (nomark _) (de_callB (bd.lp [false, true, false, false, false, false, false, false]) c__law_small_unread_1 (da_e (de_var 6) da_nil)) (de_cmp od_isnot (nomark _) (de_callB (bd.lp [false, true, false, false, false, false, false, false]) c_unread_word_1 (da_e (de_var 7) da_nil)) de_non (kim _)) (kim _))))) (ss_one (ds_ret (bd.lp [false, true, false, false, false, false, false, false]).ob rfl de_bl)) ss_nil))))))))))
    (ss_one (ds_ret bd.ob rfl (de_callB bd c__law_refusals_2 (da_p 1 (da_e (de_var 2) da_nil)))))))))
abbrev theRow : PySem.W.OpenRow := PySem.W.OpenLaw.row PySem.Challenge.rw_lostplaces_k71_whole_moduli_that_bear_on
def dd__law_hand : He5.DefA := ⟨adG "_law_hand", "_law_hand", "_law_hand", defArgs s__law_hand, defBody s__law_hand, defScope s__law_hand, [], []⟩
def dd__law_mixed : He5.DefA := ⟨adG "_law_mixed", "_law_mixed", "_law_mixed", defArgs s__law_mixed, defBody s__law_mixed, defScope s__law_mixed, [], []⟩
def dd__law_take : He5.DefA := ⟨adG "_law_take", "_law_take", "_law_take", defArgs s__law_take, defBody s__law_take, defScope s__law_take, [], []⟩
def dd_is_whole : He5.DefA := ⟨adG "is_whole", "is_whole", "is_whole", defArgs s_is_whole, defBody s_is_whole, defScope s_is_whole, [.non, .non], []⟩
def dd_check_number : He5.DefA := ⟨adG "check_number", "check_number", "check_number", defArgs s_check_number, defBody s_check_number, defScope s_check_number, [], []⟩
def dd_check_modulus : He5.DefA := ⟨adG "check_modulus", "check_modulus", "check_modulus", defArgs s_check_modulus, defBody s_check_modulus, defScope s_check_modulus, [], []⟩
def dd_check_rest : He5.DefA := ⟨adG "check_rest", "check_rest", "check_rest", defArgs s_check_rest, defBody s_check_rest, defScope s_check_rest, [], []⟩
def dd_lifting_step : He5.DefA := ⟨adG "lifting_step", "lifting_step", "lifting_step", defArgs s_lifting_step, defBody s_lifting_step, defScope s_lifting_step, [], []⟩
def dd_lift_word : He5.DefA := ⟨adG "lift_word", "lift_word", "lift_word", defArgs s_lift_word, defBody s_lift_word, defScope s_lift_word, [], []⟩
def dd_NearPair___init__ : He5.DefA := ⟨adM "NearPair" "__init__", "__init__", "NearPair.__init__", defArgs s_NearPair___init__, defBody s_NearPair___init__, defScope s_NearPair___init__, [], []⟩
def dd_modulus_clash : He5.DefA := ⟨adG "modulus_clash", "modulus_clash", "modulus_clash", defArgs s_modulus_clash, defBody s_modulus_clash, defScope s_modulus_clash, [], []⟩
def dd__law_refused : He5.DefA := ⟨adG "_law_refused", "_law_refused", "_law_refused", defArgs s__law_refused, defBody s__law_refused, defScope s__law_refused, [], []⟩
def dd_SumBook_is_full : He5.DefA := ⟨adW "SumBook" "property" "is_full", "is_full", "SumBook.is_full", defArgs s_SumBook_is_full, defBody s_SumBook_is_full, defScope s_SumBook_is_full, [], []⟩
def dd_word_of_sum : He5.DefA := ⟨adG "word_of_sum", "word_of_sum", "word_of_sum", defArgs s_word_of_sum, defBody s_word_of_sum, defScope s_word_of_sum, [], []⟩
def dd_unread_word : He5.DefA := ⟨adG "unread_word", "unread_word", "unread_word", defArgs s_unread_word, defBody s_unread_word, defScope s_unread_word, [], []⟩
def dd__law_odd : He5.DefA := ⟨adG "_law_odd", "_law_odd", "_law_odd", defArgs s__law_odd, defBody s__law_odd, defScope s__law_odd, [], []⟩
def dd_SumBook___init__ : He5.DefA := ⟨adM "SumBook" "__init__", "__init__", "SumBook.__init__", defArgs s_SumBook___init__, defBody s_SumBook___init__, defScope s_SumBook___init__, [], []⟩
def dd__law_refusals : He5.DefA := ⟨adG "_law_refusals", "_law_refusals", "_law_refusals", defArgs s__law_refusals, defBody s__law_refusals, defScope s__law_refusals, [], []⟩
def dd__law_book_of : He5.DefA := ⟨adG "_law_book_of", "_law_book_of", "_law_book_of", defArgs s__law_book_of, defBody s__law_book_of, defScope s__law_book_of, [], []⟩
def dd__law_whole : He5.DefA := ⟨adG "_law_whole", "_law_whole", "_law_whole", defArgs s__law_whole, defBody s__law_whole, defScope s__law_whole, [], []⟩
def dd__law_is_word : He5.DefA := ⟨adG "_law_is_word", "_law_is_word", "_law_is_word", defArgs s__law_is_word, defBody s__law_is_word, defScope s__law_is_word, [], []⟩
def dd__law_is_below : He5.DefA := ⟨adG "_law_is_below", "_law_is_below", "_law_is_below", defArgs s__law_is_below, defBody s__law_is_below, defScope s__law_is_below, [], []⟩
def dd__law_sum : He5.DefA := ⟨adG "_law_sum", "_law_sum", "_law_sum", defArgs s__law_sum, defBody s__law_sum, defScope s__law_sum, [], []⟩
def dd__law_clash_right : He5.DefA := ⟨adG "_law_clash_right", "_law_clash_right", "_law_clash_right", defArgs s__law_clash_right, defBody s__law_clash_right, defScope s__law_clash_right, [], []⟩
def dd__law_modulus_right : He5.DefA := ⟨adG "_law_modulus_right", "_law_modulus_right", "_law_modulus_right", defArgs s__law_modulus_right, defBody s__law_modulus_right, defScope s__law_modulus_right, [], []⟩
def dd_sum_places : He5.DefA := ⟨adG "sum_places", "sum_places", "sum_places", defArgs s_sum_places, defBody s_sum_places, defScope s_sum_places, [], []⟩
def dd_loss_amount : He5.DefA := ⟨adG "loss_amount", "loss_amount", "loss_amount", defArgs s_loss_amount, defBody s_loss_amount, defScope s_loss_amount, [], []⟩
def dd_member_above : He5.DefA := ⟨adG "member_above", "member_above", "member_above", defArgs s_member_above, defBody s_member_above, defScope s_member_above, [], []⟩
def dd_check_word : He5.DefA := ⟨adG "check_word", "check_word", "check_word", defArgs s_check_word, defBody s_check_word, defScope s_check_word, [.int 24], []⟩
def dd_check_read : He5.DefA := ⟨adG "check_read", "check_read", "check_read", defArgs s_check_read, defBody s_check_read, defScope s_check_read, [], []⟩
def dd_read_lost : He5.DefA := ⟨adG "read_lost", "read_lost", "read_lost", defArgs s_read_lost, defBody s_read_lost, defScope s_read_lost, [], []⟩
def dd__law_is_unread : He5.DefA := ⟨adG "_law_is_unread", "_law_is_unread", "_law_is_unread", defArgs s__law_is_unread, defBody s__law_is_unread, defScope s__law_is_unread, [], []⟩
def dd__law_unread_right : He5.DefA := ⟨adG "_law_unread_right", "_law_unread_right", "_law_unread_right", defArgs s__law_unread_right, defBody s__law_unread_right, defScope s__law_unread_right, [], []⟩
def dd__law_all_words : He5.DefA := ⟨adG "_law_all_words", "_law_all_words", "_law_all_words", defArgs s__law_all_words, defBody s__law_all_words, defScope s__law_all_words, [], []⟩
def dd__law_has_clash : He5.DefA := ⟨adG "_law_has_clash", "_law_has_clash", "_law_has_clash", defArgs s__law_has_clash, defBody s__law_has_clash, defScope s__law_has_clash, [], []⟩
def dd__law_more_one : He5.DefA := ⟨adG "_law_more_one", "_law_more_one", "_law_more_one", defArgs s__law_more_one, defBody s__law_more_one, defScope s__law_more_one, [], []⟩
def dd__law_small_unread : He5.DefA := ⟨adG "_law_small_unread", "_law_small_unread", "_law_small_unread", defArgs s__law_small_unread, defBody s__law_small_unread, defScope s__law_small_unread, [], []⟩
def dd_law : He5.DefA := ⟨adG "law", "law", "law", defArgs s_law, defBody s_law, defScope s_law, [], []⟩
def dd_BadNumber_init : He5.DefA := ⟨adM "BadNumber" "__init__", "__init__", "BadNumber.__init__", defArgs s_BadNumber_init, defBody s_BadNumber_init, defScope s_BadNumber_init, [], []⟩
def dd_BadWord_init : He5.DefA := ⟨adM "BadWord" "__init__", "__init__", "BadWord.__init__", defArgs s_BadWord_init, defBody s_BadWord_init, defScope s_BadWord_init, [], []⟩
def dd_BadModulus_init : He5.DefA := ⟨adM "BadModulus" "__init__", "__init__", "BadModulus.__init__", defArgs s_BadModulus_init, defBody s_BadModulus_init, defScope s_BadModulus_init, [], []⟩
def dd_BadRest_init : He5.DefA := ⟨adM "BadRest" "__init__", "__init__", "BadRest.__init__", defArgs s_BadRest_init, defBody s_BadRest_init, defScope s_BadRest_init, [], []⟩
def dd_NotOneOff_init : He5.DefA := ⟨adM "NotOneOff" "__init__", "__init__", "NotOneOff.__init__", defArgs s_NotOneOff_init, defBody s_NotOneOff_init, defScope s_NotOneOff_init, [], []⟩
def fn : List He5.DefA := [dd__law_hand, dd__law_mixed, dd__law_take, dd_is_whole, dd_check_number, dd_check_modulus, dd_check_rest, dd_lifting_step, dd_lift_word, dd_NearPair___init__, dd_modulus_clash, dd__law_refused, dd_SumBook_is_full, dd_word_of_sum, dd_unread_word, dd__law_odd, dd_SumBook___init__, dd__law_refusals, dd__law_book_of, dd__law_whole, dd__law_is_word, dd__law_is_below, dd__law_sum, dd__law_clash_right, dd__law_modulus_right, dd_sum_places, dd_loss_amount, dd_member_above, dd_check_word, dd_check_read, dd_read_lost, dd__law_is_unread, dd__law_unread_right, dd__law_all_words, dd__law_has_clash, dd__law_more_one, dd__law_small_unread, dd_law, dd_BadNumber_init, dd_BadWord_init, dd_BadModulus_init, dd_BadRest_init, dd_NotOneOff_init]
def fa : List He.Fa := [.glo "_law_hand", .glo "_law_mixed", .glo "_law_take", .glo "is_whole", .glo "check_number", .glo "check_modulus", .glo "check_rest", .glo "lifting_step", .glo "lift_word", .glo "modulus_clash", .glo "_law_refused", .glo "word_of_sum", .glo "unread_word", .glo "_law_odd", .glo "_law_refusals", .glo "_law_book_of", .glo "_law_whole", .glo "_law_is_word", .glo "_law_is_below", .glo "_law_sum", .glo "_law_clash_right", .glo "_law_modulus_right", .glo "sum_places", .glo "loss_amount", .glo "member_above", .glo "check_word", .glo "check_read", .glo "read_lost", .glo "_law_is_unread", .glo "_law_unread_right", .glo "_law_all_words", .glo "_law_has_clash", .glo "_law_more_one", .glo "_law_small_unread", .glo "law", .free "abs", .free "all", .free "bool", .free "enumerate", .free "int", .free "isinstance", .free "len", .free "list", .free "max", .free "min", .free "range", .free "set", .free "sorted", .free "sum", .free "tuple", .int "MOST_LENGTH" 200, .int "MOST_MODULUS" 1000000, .glo "BadModulus", .glo "BadNumber", .glo "BadRest", .glo "BadWord", .glo "NotOneOff", .glo "PlaceError", .noat "BadWord" "index"]
def ex (K : PySem.W.Frag) : Bool := (exB K "BadNumber" && (exB K "BadWord" && (exB K "BadModulus" && (exB K "BadRest" && (exB K "NotOneOff" && (baseB K "PlaceError" && (mkB K "NearPair" && (mkB K "SumBook" && (propB K "SumBook" "is_full" && (fldB K dm_above "above" && (fldB K dm_below "below" && (fldB K dm_length "length" && (fldB K dm_modulus "modulus" && (fldB K dm_one "one" && (fldB K dm_other "other" && (fldB K dm_rest "rest" && (isoB K dmAll "NearPair" && isaL.all (fun p => decide (PySem.W.exmOne K (.ref (He.ga K p.1)) (.ref (He.ga K p.2.1)) = some p.2.2)))))))))))))))))))
abbrev hk : PySem.W.Hook := hookP 6 fa fn ex
def ob (s : PySem.W.SharedT) : AlM := obsP 6 fa fn ex (HandSHeadRun.getT s)
theorem ob_eq (s : PySem.W.SharedT) : ob s = hk.obs s.abs := obsP_eq (HandSHeadRun.getT_eq s)
def loose0 : List Str := ["_wall", "PlaceError", "BadNumber", "BadWord", "BadModulus", "BadRest", "NotOneOff", "is_whole", "check_number", "check_word", "NearPair", "MOST_LENGTH", "MOST_MODULUS", "sum_places", "lifting_step", "lift_word", "check_modulus", "check_rest", "SumBook", "modulus_clash", "check_read", "loss_amount", "member_above", "read_lost", "word_of_sum", "unread_word", "_law_hand", "_law_mixed", "_law_take", "_law_whole"]
def loose1 : List Str := ["_law_all_words", "_law_is_below", "_law_more_one", "_law_sum", "_law_is_word", "_law_odd", "_law_book_of", "_law_clash_right", "_law_has_clash", "_law_modulus_right", "_law_is_unread", "_law_unread_right", "_law_small_unread", "_law_refused", "_law_refusals"]
def loose : List Str := loose0 ++ loose1
set_option maxHeartbeats 0 in
theorem run (w : World) : HandSHeadRun.RunEq theRow (PySem.W.view theRow.prog [51]) hk ob 9000 loose w := by
  intro os
  kernel_rfl
theorem facts {P : Program} {w : World} {K : PySem.W.Frag} {h : Heap} {mg : Str → Option Value} {f : Addr} (X : K.In h) (G0 : h.Ns mainGlobals mg) (hfa : mg ("law" : Str) = some (.ref f)) (c : He5.SaysA fa fn K) (e : ex K = true) :
    ∃ fd : FuncData, (∀ (s : Shared) (v : Value), BindsTo s fd ⟨[v], []⟩ [("_law_script", v)]) ∧ ∀ base : Heap, FnOk P w K mg base (L2.CX P w) 7 f fd ["_law_script"] (spD K mg F_law 1 [] false) := by
  have fx : ∀ g : He.Fa, g ∈ fa → g.ok K = true := fun g hg => by
    obtain ⟨i, hi, e⟩ := List.mem_iff_getElem.mp hg
    exact c.fact i (f := g) (by rw [List.getElem?_eq_getElem hi, e])
  obtain ⟨e0, e⟩ := He.ba e
  obtain ⟨e1, e⟩ := He.ba e
  obtain ⟨e2, e⟩ := He.ba e
  obtain ⟨e3, e⟩ := He.ba e
  obtain ⟨e4, e⟩ := He.ba e
  obtain ⟨e5, e⟩ := He.ba e
  obtain ⟨e6, e⟩ := He.ba e
  obtain ⟨e7, e⟩ := He.ba e
  obtain ⟨e8, e⟩ := He.ba e
  obtain ⟨e9, e⟩ := He.ba e
  obtain ⟨e10, e⟩ := He.ba e
  obtain ⟨e11, e⟩ := He.ba e
  obtain ⟨e12, e⟩ := He.ba e
  obtain ⟨e13, e⟩ := He.ba e
  obtain ⟨e14, e⟩ := He.ba e
  obtain ⟨e15, e⟩ := He.ba e
  obtain ⟨e16, e⟩ := He.ba e
  obtain ⟨fd__law_hand, F0__law_hand⟩ := c.def_ 0 (d := dd__law_hand) rfl
  have F_d__law_hand : FunD K "_law_hand" "_law_hand" (defArgs s__law_hand) (defBody s__law_hand) (defScope s__law_hand) [] [] (adG "_law_hand" K) fd__law_hand := F0__law_hand
  have g__law_hand : mg "_law_hand" = some (.ref (He.ga K "_law_hand")) := He.glo_ok X G0 (fx (.glo "_law_hand") (List.mem_of_getElem? (i := 0) rfl))
  obtain ⟨fd__law_mixed, F0__law_mixed⟩ := c.def_ 1 (d := dd__law_mixed) rfl
  have F_d__law_mixed : FunD K "_law_mixed" "_law_mixed" (defArgs s__law_mixed) (defBody s__law_mixed) (defScope s__law_mixed) [] [] (adG "_law_mixed" K) fd__law_mixed := F0__law_mixed
  have g__law_mixed : mg "_law_mixed" = some (.ref (He.ga K "_law_mixed")) := He.glo_ok X G0 (fx (.glo "_law_mixed") (List.mem_of_getElem? (i := 1) rfl))
  obtain ⟨fd__law_take, F0__law_take⟩ := c.def_ 2 (d := dd__law_take) rfl
  have F_d__law_take : FunD K "_law_take" "_law_take" (defArgs s__law_take) (defBody s__law_take) (defScope s__law_take) [] [] (adG "_law_take" K) fd__law_take := F0__law_take
  have g__law_take : mg "_law_take" = some (.ref (He.ga K "_law_take")) := He.glo_ok X G0 (fx (.glo "_law_take") (List.mem_of_getElem? (i := 2) rfl))
  obtain ⟨fd_is_whole, F0_is_whole⟩ := c.def_ 3 (d := dd_is_whole) rfl
  have F_d_is_whole : FunD K "is_whole" "is_whole" (defArgs s_is_whole) (defBody s_is_whole) (defScope s_is_whole) [.non, .non] [] (adG "is_whole" K) fd_is_whole := F0_is_whole
  have g_is_whole : mg "is_whole" = some (.ref (He.ga K "is_whole")) := He.glo_ok X G0 (fx (.glo "is_whole") (List.mem_of_getElem? (i := 3) rfl))
  obtain ⟨fd_check_number, F0_check_number⟩ := c.def_ 4 (d := dd_check_number) rfl
  have F_d_check_number : FunD K "check_number" "check_number" (defArgs s_check_number) (defBody s_check_number) (defScope s_check_number) [] [] (adG "check_number" K) fd_check_number := F0_check_number
  have g_check_number : mg "check_number" = some (.ref (He.ga K "check_number")) := He.glo_ok X G0 (fx (.glo "check_number") (List.mem_of_getElem? (i := 4) rfl))
  obtain ⟨fd_check_modulus, F0_check_modulus⟩ := c.def_ 5 (d := dd_check_modulus) rfl
  have F_d_check_modulus : FunD K "check_modulus" "check_modulus" (defArgs s_check_modulus) (defBody s_check_modulus) (defScope s_check_modulus) [] [] (adG "check_modulus" K) fd_check_modulus := F0_check_modulus
  have g_check_modulus : mg "check_modulus" = some (.ref (He.ga K "check_modulus")) := He.glo_ok X G0 (fx (.glo "check_modulus") (List.mem_of_getElem? (i := 5) rfl))
  obtain ⟨fd_check_rest, F0_check_rest⟩ := c.def_ 6 (d := dd_check_rest) rfl
  have F_d_check_rest : FunD K "check_rest" "check_rest" (defArgs s_check_rest) (defBody s_check_rest) (defScope s_check_rest) [] [] (adG "check_rest" K) fd_check_rest := F0_check_rest
  have g_check_rest : mg "check_rest" = some (.ref (He.ga K "check_rest")) := He.glo_ok X G0 (fx (.glo "check_rest") (List.mem_of_getElem? (i := 6) rfl))
  obtain ⟨fd_lifting_step, F0_lifting_step⟩ := c.def_ 7 (d := dd_lifting_step) rfl
  have F_d_lifting_step : FunD K "lifting_step" "lifting_step" (defArgs s_lifting_step) (defBody s_lifting_step) (defScope s_lifting_step) [] [] (adG "lifting_step" K) fd_lifting_step := F0_lifting_step
  have g_lifting_step : mg "lifting_step" = some (.ref (He.ga K "lifting_step")) := He.glo_ok X G0 (fx (.glo "lifting_step") (List.mem_of_getElem? (i := 7) rfl))
  obtain ⟨fd_lift_word, F0_lift_word⟩ := c.def_ 8 (d := dd_lift_word) rfl
  have F_d_lift_word : FunD K "lift_word" "lift_word" (defArgs s_lift_word) (defBody s_lift_word) (defScope s_lift_word) [] [] (adG "lift_word" K) fd_lift_word := F0_lift_word
  have g_lift_word : mg "lift_word" = some (.ref (He.ga K "lift_word")) := He.glo_ok X G0 (fx (.glo "lift_word") (List.mem_of_getElem? (i := 8) rfl))
  obtain ⟨fd_NearPair___init__, F0_NearPair___init__⟩ := c.def_ 9 (d := dd_NearPair___init__) rfl
  have F_d_NearPair___init__ : FunD K "__init__" "NearPair.__init__" (defArgs s_NearPair___init__) (defBody s_NearPair___init__) (defScope s_NearPair___init__) [] [] (adM "NearPair" "__init__" K) fd_NearPair___init__ := F0_NearPair___init__
  obtain ⟨fd_modulus_clash, F0_modulus_clash⟩ := c.def_ 10 (d := dd_modulus_clash) rfl
  have F_d_modulus_clash : FunD K "modulus_clash" "modulus_clash" (defArgs s_modulus_clash) (defBody s_modulus_clash) (defScope s_modulus_clash) [] [] (adG "modulus_clash" K) fd_modulus_clash := F0_modulus_clash
  have g_modulus_clash : mg "modulus_clash" = some (.ref (He.ga K "modulus_clash")) := He.glo_ok X G0 (fx (.glo "modulus_clash") (List.mem_of_getElem? (i := 9) rfl))
  obtain ⟨fd__law_refused, F0__law_refused⟩ := c.def_ 11 (d := dd__law_refused) rfl
  have F_d__law_refused : FunD K "_law_refused" "_law_refused" (defArgs s__law_refused) (defBody s__law_refused) (defScope s__law_refused) [] [] (adG "_law_refused" K) fd__law_refused := F0__law_refused
  have g__law_refused : mg "_law_refused" = some (.ref (He.ga K "_law_refused")) := He.glo_ok X G0 (fx (.glo "_law_refused") (List.mem_of_getElem? (i := 10) rfl))
  obtain ⟨fd_SumBook_is_full, F0_SumBook_is_full⟩ := c.def_ 12 (d := dd_SumBook_is_full) rfl
  have F_d_SumBook_is_full : FunD K "is_full" "SumBook.is_full" (defArgs s_SumBook_is_full) (defBody s_SumBook_is_full) (defScope s_SumBook_is_full) [] [] (adW "SumBook" "property" "is_full" K) fd_SumBook_is_full := F0_SumBook_is_full
  obtain ⟨fd_word_of_sum, F0_word_of_sum⟩ := c.def_ 13 (d := dd_word_of_sum) rfl
  have F_d_word_of_sum : FunD K "word_of_sum" "word_of_sum" (defArgs s_word_of_sum) (defBody s_word_of_sum) (defScope s_word_of_sum) [] [] (adG "word_of_sum" K) fd_word_of_sum := F0_word_of_sum
  have g_word_of_sum : mg "word_of_sum" = some (.ref (He.ga K "word_of_sum")) := He.glo_ok X G0 (fx (.glo "word_of_sum") (List.mem_of_getElem? (i := 11) rfl))
  obtain ⟨fd_unread_word, F0_unread_word⟩ := c.def_ 14 (d := dd_unread_word) rfl
  have F_d_unread_word : FunD K "unread_word" "unread_word" (defArgs s_unread_word) (defBody s_unread_word) (defScope s_unread_word) [] [] (adG "unread_word" K) fd_unread_word := F0_unread_word
  have g_unread_word : mg "unread_word" = some (.ref (He.ga K "unread_word")) := He.glo_ok X G0 (fx (.glo "unread_word") (List.mem_of_getElem? (i := 12) rfl))
  obtain ⟨fd__law_odd, F0__law_odd⟩ := c.def_ 15 (d := dd__law_odd) rfl
  have F_d__law_odd : FunD K "_law_odd" "_law_odd" (defArgs s__law_odd) (defBody s__law_odd) (defScope s__law_odd) [] [] (adG "_law_odd" K) fd__law_odd := F0__law_odd
  have g__law_odd : mg "_law_odd" = some (.ref (He.ga K "_law_odd")) := He.glo_ok X G0 (fx (.glo "_law_odd") (List.mem_of_getElem? (i := 13) rfl))
  obtain ⟨fd_SumBook___init__, F0_SumBook___init__⟩ := c.def_ 16 (d := dd_SumBook___init__) rfl
  have F_d_SumBook___init__ : FunD K "__init__" "SumBook.__init__" (defArgs s_SumBook___init__) (defBody s_SumBook___init__) (defScope s_SumBook___init__) [] [] (adM "SumBook" "__init__" K) fd_SumBook___init__ := F0_SumBook___init__
  obtain ⟨fd__law_refusals, F0__law_refusals⟩ := c.def_ 17 (d := dd__law_refusals) rfl
  have F_d__law_refusals : FunD K "_law_refusals" "_law_refusals" (defArgs s__law_refusals) (defBody s__law_refusals) (defScope s__law_refusals) [] [] (adG "_law_refusals" K) fd__law_refusals := F0__law_refusals
  have g__law_refusals : mg "_law_refusals" = some (.ref (He.ga K "_law_refusals")) := He.glo_ok X G0 (fx (.glo "_law_refusals") (List.mem_of_getElem? (i := 14) rfl))
  obtain ⟨fd__law_book_of, F0__law_book_of⟩ := c.def_ 18 (d := dd__law_book_of) rfl
  have F_d__law_book_of : FunD K "_law_book_of" "_law_book_of" (defArgs s__law_book_of) (defBody s__law_book_of) (defScope s__law_book_of) [] [] (adG "_law_book_of" K) fd__law_book_of := F0__law_book_of
  have g__law_book_of : mg "_law_book_of" = some (.ref (He.ga K "_law_book_of")) := He.glo_ok X G0 (fx (.glo "_law_book_of") (List.mem_of_getElem? (i := 15) rfl))
  obtain ⟨fd__law_whole, F0__law_whole⟩ := c.def_ 19 (d := dd__law_whole) rfl
  have F_d__law_whole : FunD K "_law_whole" "_law_whole" (defArgs s__law_whole) (defBody s__law_whole) (defScope s__law_whole) [] [] (adG "_law_whole" K) fd__law_whole := F0__law_whole
  have g__law_whole : mg "_law_whole" = some (.ref (He.ga K "_law_whole")) := He.glo_ok X G0 (fx (.glo "_law_whole") (List.mem_of_getElem? (i := 16) rfl))
  obtain ⟨fd__law_is_word, F0__law_is_word⟩ := c.def_ 20 (d := dd__law_is_word) rfl
  have F_d__law_is_word : FunD K "_law_is_word" "_law_is_word" (defArgs s__law_is_word) (defBody s__law_is_word) (defScope s__law_is_word) [] [] (adG "_law_is_word" K) fd__law_is_word := F0__law_is_word
  have g__law_is_word : mg "_law_is_word" = some (.ref (He.ga K "_law_is_word")) := He.glo_ok X G0 (fx (.glo "_law_is_word") (List.mem_of_getElem? (i := 17) rfl))
  obtain ⟨fd__law_is_below, F0__law_is_below⟩ := c.def_ 21 (d := dd__law_is_below) rfl
  have F_d__law_is_below : FunD K "_law_is_below" "_law_is_below" (defArgs s__law_is_below) (defBody s__law_is_below) (defScope s__law_is_below) [] [] (adG "_law_is_below" K) fd__law_is_below := F0__law_is_below
  have g__law_is_below : mg "_law_is_below" = some (.ref (He.ga K "_law_is_below")) := He.glo_ok X G0 (fx (.glo "_law_is_below") (List.mem_of_getElem? (i := 18) rfl))
  obtain ⟨fd__law_sum, F0__law_sum⟩ := c.def_ 22 (d := dd__law_sum) rfl
  have F_d__law_sum : FunD K "_law_sum" "_law_sum" (defArgs s__law_sum) (defBody s__law_sum) (defScope s__law_sum) [] [] (adG "_law_sum" K) fd__law_sum := F0__law_sum
  have g__law_sum : mg "_law_sum" = some (.ref (He.ga K "_law_sum")) := He.glo_ok X G0 (fx (.glo "_law_sum") (List.mem_of_getElem? (i := 19) rfl))
  obtain ⟨fd__law_clash_right, F0__law_clash_right⟩ := c.def_ 23 (d := dd__law_clash_right) rfl
  have F_d__law_clash_right : FunD K "_law_clash_right" "_law_clash_right" (defArgs s__law_clash_right) (defBody s__law_clash_right) (defScope s__law_clash_right) [] [] (adG "_law_clash_right" K) fd__law_clash_right := F0__law_clash_right
  have g__law_clash_right : mg "_law_clash_right" = some (.ref (He.ga K "_law_clash_right")) := He.glo_ok X G0 (fx (.glo "_law_clash_right") (List.mem_of_getElem? (i := 20) rfl))
  obtain ⟨fd__law_modulus_right, F0__law_modulus_right⟩ := c.def_ 24 (d := dd__law_modulus_right) rfl
  have F_d__law_modulus_right : FunD K "_law_modulus_right" "_law_modulus_right" (defArgs s__law_modulus_right) (defBody s__law_modulus_right) (defScope s__law_modulus_right) [] [] (adG "_law_modulus_right" K) fd__law_modulus_right := F0__law_modulus_right
  have g__law_modulus_right : mg "_law_modulus_right" = some (.ref (He.ga K "_law_modulus_right")) := He.glo_ok X G0 (fx (.glo "_law_modulus_right") (List.mem_of_getElem? (i := 21) rfl))
  obtain ⟨fd_sum_places, F0_sum_places⟩ := c.def_ 25 (d := dd_sum_places) rfl
  have F_d_sum_places : FunD K "sum_places" "sum_places" (defArgs s_sum_places) (defBody s_sum_places) (defScope s_sum_places) [] [] (adG "sum_places" K) fd_sum_places := F0_sum_places
  have g_sum_places : mg "sum_places" = some (.ref (He.ga K "sum_places")) := He.glo_ok X G0 (fx (.glo "sum_places") (List.mem_of_getElem? (i := 22) rfl))
  obtain ⟨fd_loss_amount, F0_loss_amount⟩ := c.def_ 26 (d := dd_loss_amount) rfl
  have F_d_loss_amount : FunD K "loss_amount" "loss_amount" (defArgs s_loss_amount) (defBody s_loss_amount) (defScope s_loss_amount) [] [] (adG "loss_amount" K) fd_loss_amount := F0_loss_amount
  have g_loss_amount : mg "loss_amount" = some (.ref (He.ga K "loss_amount")) := He.glo_ok X G0 (fx (.glo "loss_amount") (List.mem_of_getElem? (i := 23) rfl))
  obtain ⟨fd_member_above, F0_member_above⟩ := c.def_ 27 (d := dd_member_above) rfl
  have F_d_member_above : FunD K "member_above" "member_above" (defArgs s_member_above) (defBody s_member_above) (defScope s_member_above) [] [] (adG "member_above" K) fd_member_above := F0_member_above
  have g_member_above : mg "member_above" = some (.ref (He.ga K "member_above")) := He.glo_ok X G0 (fx (.glo "member_above") (List.mem_of_getElem? (i := 24) rfl))
  obtain ⟨fd_check_word, F0_check_word⟩ := c.def_ 28 (d := dd_check_word) rfl
  have F_d_check_word : FunD K "check_word" "check_word" (defArgs s_check_word) (defBody s_check_word) (defScope s_check_word) [.int 24] [] (adG "check_word" K) fd_check_word := F0_check_word
  have g_check_word : mg "check_word" = some (.ref (He.ga K "check_word")) := He.glo_ok X G0 (fx (.glo "check_word") (List.mem_of_getElem? (i := 25) rfl))
  obtain ⟨fd_check_read, F0_check_read⟩ := c.def_ 29 (d := dd_check_read) rfl
  have F_d_check_read : FunD K "check_read" "check_read" (defArgs s_check_read) (defBody s_check_read) (defScope s_check_read) [] [] (adG "check_read" K) fd_check_read := F0_check_read
  have g_check_read : mg "check_read" = some (.ref (He.ga K "check_read")) := He.glo_ok X G0 (fx (.glo "check_read") (List.mem_of_getElem? (i := 26) rfl))
  obtain ⟨fd_read_lost, F0_read_lost⟩ := c.def_ 30 (d := dd_read_lost) rfl
  have F_d_read_lost : FunD K "read_lost" "read_lost" (defArgs s_read_lost) (defBody s_read_lost) (defScope s_read_lost) [] [] (adG "read_lost" K) fd_read_lost := F0_read_lost
  have g_read_lost : mg "read_lost" = some (.ref (He.ga K "read_lost")) := He.glo_ok X G0 (fx (.glo "read_lost") (List.mem_of_getElem? (i := 27) rfl))
  obtain ⟨fd__law_is_unread, F0__law_is_unread⟩ := c.def_ 31 (d := dd__law_is_unread) rfl
  have F_d__law_is_unread : FunD K "_law_is_unread" "_law_is_unread" (defArgs s__law_is_unread) (defBody s__law_is_unread) (defScope s__law_is_unread) [] [] (adG "_law_is_unread" K) fd__law_is_unread := F0__law_is_unread
  have g__law_is_unread : mg "_law_is_unread" = some (.ref (He.ga K "_law_is_unread")) := He.glo_ok X G0 (fx (.glo "_law_is_unread") (List.mem_of_getElem? (i := 28) rfl))
  obtain ⟨fd__law_unread_right, F0__law_unread_right⟩ := c.def_ 32 (d := dd__law_unread_right) rfl
  have F_d__law_unread_right : FunD K "_law_unread_right" "_law_unread_right" (defArgs s__law_unread_right) (defBody s__law_unread_right) (defScope s__law_unread_right) [] [] (adG "_law_unread_right" K) fd__law_unread_right := F0__law_unread_right
  have g__law_unread_right : mg "_law_unread_right" = some (.ref (He.ga K "_law_unread_right")) := He.glo_ok X G0 (fx (.glo "_law_unread_right") (List.mem_of_getElem? (i := 29) rfl))
  obtain ⟨fd__law_all_words, F0__law_all_words⟩ := c.def_ 33 (d := dd__law_all_words) rfl
  have F_d__law_all_words : FunD K "_law_all_words" "_law_all_words" (defArgs s__law_all_words) (defBody s__law_all_words) (defScope s__law_all_words) [] [] (adG "_law_all_words" K) fd__law_all_words := F0__law_all_words
  have g__law_all_words : mg "_law_all_words" = some (.ref (He.ga K "_law_all_words")) := He.glo_ok X G0 (fx (.glo "_law_all_words") (List.mem_of_getElem? (i := 30) rfl))
  obtain ⟨fd__law_has_clash, F0__law_has_clash⟩ := c.def_ 34 (d := dd__law_has_clash) rfl
  have F_d__law_has_clash : FunD K "_law_has_clash" "_law_has_clash" (defArgs s__law_has_clash) (defBody s__law_has_clash) (defScope s__law_has_clash) [] [] (adG "_law_has_clash" K) fd__law_has_clash := F0__law_has_clash
  have g__law_has_clash : mg "_law_has_clash" = some (.ref (He.ga K "_law_has_clash")) := He.glo_ok X G0 (fx (.glo "_law_has_clash") (List.mem_of_getElem? (i := 31) rfl))
  obtain ⟨fd__law_more_one, F0__law_more_one⟩ := c.def_ 35 (d := dd__law_more_one) rfl
  have F_d__law_more_one : FunD K "_law_more_one" "_law_more_one" (defArgs s__law_more_one) (defBody s__law_more_one) (defScope s__law_more_one) [] [] (adG "_law_more_one" K) fd__law_more_one := F0__law_more_one
  have g__law_more_one : mg "_law_more_one" = some (.ref (He.ga K "_law_more_one")) := He.glo_ok X G0 (fx (.glo "_law_more_one") (List.mem_of_getElem? (i := 32) rfl))
  obtain ⟨fd__law_small_unread, F0__law_small_unread⟩ := c.def_ 36 (d := dd__law_small_unread) rfl
  have F_d__law_small_unread : FunD K "_law_small_unread" "_law_small_unread" (defArgs s__law_small_unread) (defBody s__law_small_unread) (defScope s__law_small_unread) [] [] (adG "_law_small_unread" K) fd__law_small_unread := F0__law_small_unread
  have g__law_small_unread : mg "_law_small_unread" = some (.ref (He.ga K "_law_small_unread")) := He.glo_ok X G0 (fx (.glo "_law_small_unread") (List.mem_of_getElem? (i := 33) rfl))
  obtain ⟨fd_law, F0_law⟩ := c.def_ 37 (d := dd_law) rfl
  have F_d_law : FunD K "law" "law" (defArgs s_law) (defBody s_law) (defScope s_law) [] [] (adG "law" K) fd_law := F0_law
  have g_law : mg "law" = some (.ref (He.ga K "law")) := He.glo_ok X G0 (fx (.glo "law") (List.mem_of_getElem? (i := 34) rfl))
  obtain ⟨fd_BadNumber_init, F0_BadNumber_init⟩ := c.def_ 38 (d := dd_BadNumber_init) rfl
  have F_d_BadNumber_init : FunD K "__init__" "BadNumber.__init__" (defArgs s_BadNumber_init) (defBody s_BadNumber_init) (defScope s_BadNumber_init) [] [] (He.ma K (He.ga K "BadNumber") "__init__") fd_BadNumber_init := F0_BadNumber_init
  obtain ⟨fd_BadWord_init, F0_BadWord_init⟩ := c.def_ 39 (d := dd_BadWord_init) rfl
  have F_d_BadWord_init : FunD K "__init__" "BadWord.__init__" (defArgs s_BadWord_init) (defBody s_BadWord_init) (defScope s_BadWord_init) [] [] (He.ma K (He.ga K "BadWord") "__init__") fd_BadWord_init := F0_BadWord_init
  obtain ⟨fd_BadModulus_init, F0_BadModulus_init⟩ := c.def_ 40 (d := dd_BadModulus_init) rfl
  have F_d_BadModulus_init : FunD K "__init__" "BadModulus.__init__" (defArgs s_BadModulus_init) (defBody s_BadModulus_init) (defScope s_BadModulus_init) [] [] (He.ma K (He.ga K "BadModulus") "__init__") fd_BadModulus_init := F0_BadModulus_init
  obtain ⟨fd_BadRest_init, F0_BadRest_init⟩ := c.def_ 41 (d := dd_BadRest_init) rfl
  have F_d_BadRest_init : FunD K "__init__" "BadRest.__init__" (defArgs s_BadRest_init) (defBody s_BadRest_init) (defScope s_BadRest_init) [] [] (He.ma K (He.ga K "BadRest") "__init__") fd_BadRest_init := F0_BadRest_init
  obtain ⟨fd_NotOneOff_init, F0_NotOneOff_init⟩ := c.def_ 42 (d := dd_NotOneOff_init) rfl
  have F_d_NotOneOff_init : FunD K "__init__" "NotOneOff.__init__" (defArgs s_NotOneOff_init) (defBody s_NotOneOff_init) (defScope s_NotOneOff_init) [] [] (He.ma K (He.ga K "NotOneOff") "__init__") fd_NotOneOff_init := F0_NotOneOff_init
  have hgl : ∀ p ∈ isaL, mg p.1 = some (.ref (He.ga K p.1)) := fun p hp => He.glo_ok X G0 (fx (.glo p.1) ((by decide +kernel : ∀ p ∈ isaL, isGlo p.1 fa = true) p hp |> isGlo_mem))
  have hisa : ∀ p ∈ isaL, mg p.1 = some (.ref (He.ga K p.1)) ∧ PySem.W.exmOne K (.ref (He.ga K p.1)) (.ref (He.ga K p.2.1)) = some p.2.2 := fun p hp => ⟨hgl p hp, of_decide_eq_true (List.all_eq_true.mp e p hp)⟩
  have G : Wd K mg := ⟨He.free_ok X G0 (fx (.free "abs") (List.mem_of_getElem? (i := 35) rfl)), He.free_ok X G0 (fx (.free "all") (List.mem_of_getElem? (i := 36) rfl)), He.free_ok X G0 (fx (.free "bool") (List.mem_of_getElem? (i := 37) rfl)), He.free_ok X G0 (fx (.free "enumerate") (List.mem_of_getElem? (i := 38) rfl)), He.free_ok X G0 (fx (.free "int") (List.mem_of_getElem? (i := 39) rfl)), He.free_ok X G0 (fx (.free "isinstance") (List.mem_of_getElem? (i := 40) rfl)), He.free_ok X G0 (fx (.free "len") (List.mem_of_getElem? (i := 41) rfl)), He.free_ok X G0 (fx (.free "list") (List.mem_of_getElem? (i := 42) rfl)), He.free_ok X G0 (fx (.free "max") (List.mem_of_getElem? (i := 43) rfl)), He.free_ok X G0 (fx (.free "min") (List.mem_of_getElem? (i := 44) rfl)), He.free_ok X G0 (fx (.free "range") (List.mem_of_getElem? (i := 45) rfl)), He.free_ok X G0 (fx (.free "set") (List.mem_of_getElem? (i := 46) rfl)), He.free_ok X G0 (fx (.free "sorted") (List.mem_of_getElem? (i := 47) rfl)), He.free_ok X G0 (fx (.free "sum") (List.mem_of_getElem? (i := 48) rfl)), He.free_ok X G0 (fx (.free "tuple") (List.mem_of_getElem? (i := 49) rfl)), He.int_ok X G0 (fx (.int "MOST_LENGTH" 200) (List.mem_of_getElem? (i := 50) rfl)), He.int_ok X G0 (fx (.int "MOST_MODULUS" 1000000) (List.mem_of_getElem? (i := 51) rfl)), He.glo_ok X G0 (fx (.glo "BadModulus") (List.mem_of_getElem? (i := 52) rfl)), isaC_of hisa _, He.glo_ok X G0 (fx (.glo "BadNumber") (List.mem_of_getElem? (i := 53) rfl)), isaC_of hisa _, He.glo_ok X G0 (fx (.glo "BadRest") (List.mem_of_getElem? (i := 54) rfl)), isaC_of hisa _, fldD_of X G0 e9, fldD_of X G0 e10, fldD_of X G0 e11, fldD_of X G0 e12, fldD_of X G0 e13, fldD_of X G0 e14, fldD_of X G0 e15, isoK_of X G0 e16, trivial⟩
  obtain ⟨o_BadNumber, om_BadNumber, oi_BadNumber, ot_BadNumber⟩ := exB_ok X G0 e0
  have fr_BadNumber : FreeF K (He.ga K "BadNumber") [] := fun q hq => nomatch hq
  obtain ⟨o_BadWord, om_BadWord, oi_BadWord, ot_BadWord⟩ := exB_ok X G0 e1
  have fr_BadWord : FreeF K (He.ga K "BadWord") ["index"] := fun q hq => by
    simp only [List.mem_cons, List.mem_nil_iff, or_false] at hq
    rcases hq with rfl
    · exact He.noat_ok (fx (.noat "BadWord" "index") (List.mem_of_getElem? (i := 58) rfl))
  obtain ⟨o_BadModulus, om_BadModulus, oi_BadModulus, ot_BadModulus⟩ := exB_ok X G0 e2
  have fr_BadModulus : FreeF K (He.ga K "BadModulus") [] := fun q hq => nomatch hq
  obtain ⟨o_BadRest, om_BadRest, oi_BadRest, ot_BadRest⟩ := exB_ok X G0 e3
  have fr_BadRest : FreeF K (He.ga K "BadRest") [] := fun q hq => nomatch hq
  obtain ⟨o_NotOneOff, om_NotOneOff, oi_NotOneOff, ot_NotOneOff⟩ := exB_ok X G0 e4
  have fr_NotOneOff : FreeF K (He.ga K "NotOneOff") [] := fun q hq => nomatch hq
  have e9 := hfa.symm.trans g_law
  cases e9
  refine ⟨fd_law, fun s v => (F_d_law.bindsA (ps := ["_law_script"]) fun _ _ _ _ _ _ us hl => match us, hl with | [_], _ => rfl) s [v] rfl, fun base => ?_⟩
  have x_BadNumber : ExK P w K mg base 1 "BadNumber" 0 [] := x_BadNumber (baseB_ok X G0 e5) o_BadNumber fr_BadNumber om_BadNumber oi_BadNumber ot_BadNumber F_d_BadNumber_init
  have x_BadWord : ExK P w K mg base 1 "BadWord" 1 [("index", 0)] := x_BadWord (baseB_ok X G0 e5) o_BadWord fr_BadWord om_BadWord oi_BadWord ot_BadWord F_d_BadWord_init
  have x_BadModulus : ExK P w K mg base 1 "BadModulus" 0 [] := x_BadModulus (baseB_ok X G0 e5) o_BadModulus fr_BadModulus om_BadModulus oi_BadModulus ot_BadModulus F_d_BadModulus_init
  have x_BadRest : ExK P w K mg base 1 "BadRest" 0 [] := x_BadRest (baseB_ok X G0 e5) o_BadRest fr_BadRest om_BadRest oi_BadRest ot_BadRest F_d_BadRest_init
  have x_NotOneOff : ExK P w K mg base 1 "NotOneOff" 0 [] := x_NotOneOff (baseB_ok X G0 e5) o_NotOneOff fr_NotOneOff om_NotOneOff oi_NotOneOff ot_NotOneOff F_d_NotOneOff_init
  have k__law_hand : FnOk P w K mg base (L2.CX P w) 1 (adG "_law_hand" K) fd__law_hand ["_law_script"] (spD K mg F__law_hand 1 [] true) := fn_okG F_d__law_hand sc__law_hand 4 1 [false, false, false, false] (fun cdv A outer s H E S C bd => d__law_hand G bd)
  have c__law_hand_1 : Cal P w K mg base 1 "_law_hand" F__law_hand 1 [] true [] := cal_of k__law_hand g__law_hand F_d__law_hand.kp (F_d__law_hand.bindsN fun _ _ _ _ _ _ us hl => match us, hl with | [_], _ => rfl) .nil (fun _ _ => .nil)
  have k__law_mixed : FnOk P w K mg base (L2.CX P w) 1 (adG "_law_mixed" K) fd__law_mixed ["_law_number", "_law_turn"] (spD K mg F__law_mixed 2 [] false) := fn_okG F_d__law_mixed sc__law_mixed 4 2 [false, false, false, false] (fun cdv A outer s H E S C bd => d__law_mixed G bd)
  have c__law_mixed_2 : Cal P w K mg base 1 "_law_mixed" F__law_mixed 2 [] false [] := cal_of k__law_mixed g__law_mixed F_d__law_mixed.kp (F_d__law_mixed.bindsN fun _ _ _ _ _ _ us hl => match us, hl with | [_, _], _ => rfl) .nil (fun _ _ => .nil)
  have k__law_take : FnOk P w K mg base (L2.CX P w) 2 (adG "_law_take" K) fd__law_take ["_law_hand_here", "_law_many"] (spD K mg F__law_take 2 [0] false) := fn_okG F_d__law_take sc__law_take 4 2 [true, false, false, false] (fun cdv A outer s H E S C bd => d__law_take G c__law_mixed_2 bd)
  have c__law_take_2 : Cal P w K mg base 2 "_law_take" F__law_take 2 [0] false [] := cal_of k__law_take g__law_take F_d__law_take.kp (F_d__law_take.bindsN fun _ _ _ _ _ _ us hl => match us, hl with | [_, _], _ => rfl) .nil (fun _ _ => .nil)
  have k_is_whole : FnOk P w K mg base (L2.CX P w) 1 (adG "is_whole" K) fd_is_whole ["thing", "low", "high"] (spD K mg F_is_whole 3 [] false) := fn_okG F_d_is_whole sc_is_whole 3 3 [false, false, false] (fun cdv A outer s H E S C bd => d_is_whole G bd)
  obtain ⟨ds_is_whole_3, hv_is_whole_3, hb_is_whole_3⟩ := F_d_is_whole.binds1 (ps := ["thing", "low", "high"]) 3 2 (by simp) rfl fun _ _ _ _ _ _ _ us its hl hi => match us, hl, its, hi with | [_, _, _], _, [_, _], _ => ⟨_, rfl, rfl⟩
  have c_is_whole_3 : Cal P w K mg base 1 "is_whole" F_is_whole 3 [] false [] := cal_of k_is_whole g_is_whole F_d_is_whole.kp hb_is_whole_3 hv_is_whole_3 (fun _ _ => .nil)
  have k_check_number : FnOk P w K mg base (L2.CX P w) 3 (adG "check_number" K) fd_check_number ["thing", "low", "high"] (spD K mg F_check_number 3 [] false) := fn_okG F_d_check_number sc_check_number 3 3 [false, false, false] (fun cdv A outer s H E S C bd => d_check_number G c_is_whole_3 x_BadNumber bd)
  have c_check_number_3 : Cal P w K mg base 3 "check_number" F_check_number 3 [] false [] := cal_of k_check_number g_check_number F_d_check_number.kp (F_d_check_number.bindsN fun _ _ _ _ _ _ us hl => match us, hl with | [_, _, _], _ => rfl) .nil (fun _ _ => .nil)
  have k_check_modulus : FnOk P w K mg base (L2.CX P w) 3 (adG "check_modulus" K) fd_check_modulus ["modulus", "low"] (spD K mg F_check_modulus 2 [] false) := fn_okG F_d_check_modulus sc_check_modulus 2 2 [false, false] (fun cdv A outer s H E S C bd => d_check_modulus G c_is_whole_3 x_BadModulus bd)
  have c_check_modulus_2 : Cal P w K mg base 3 "check_modulus" F_check_modulus 2 [] false [] := cal_of k_check_modulus g_check_modulus F_d_check_modulus.kp (F_d_check_modulus.bindsN fun _ _ _ _ _ _ us hl => match us, hl with | [_, _], _ => rfl) .nil (fun _ _ => .nil)
  have k_check_rest : FnOk P w K mg base (L2.CX P w) 3 (adG "check_rest" K) fd_check_rest ["rest", "modulus"] (spD K mg F_check_rest 2 [] false) := fn_okG F_d_check_rest sc_check_rest 2 2 [false, false] (fun cdv A outer s H E S C bd => d_check_rest G c_is_whole_3 x_BadRest bd)
  have c_check_rest_2 : Cal P w K mg base 3 "check_rest" F_check_rest 2 [] false [] := cal_of k_check_rest g_check_rest F_d_check_rest.kp (F_d_check_rest.bindsN fun _ _ _ _ _ _ us hl => match us, hl with | [_, _], _ => rfl) .nil (fun _ _ => .nil)
  have k_lifting_step : FnOk P w K mg base (L2.CX P w) 1 (adG "lifting_step" K) fd_lifting_step ["word", "amount"] (spD K mg F_lifting_step 2 [] false) := fn_okG F_d_lifting_step sc_lifting_step 5 2 [false, false, false, false, false] (fun cdv A outer s H E S C bd => d_lifting_step G bd)
  have c_lifting_step_2 : Cal P w K mg base 1 "lifting_step" F_lifting_step 2 [] false [] := cal_of k_lifting_step g_lifting_step F_d_lifting_step.kp (F_d_lifting_step.bindsN fun _ _ _ _ _ _ us hl => match us, hl with | [_, _], _ => rfl) .nil (fun _ _ => .nil)
  have k_lift_word : FnOk P w K mg base (L2.CX P w) 2 (adG "lift_word" K) fd_lift_word ["word", "amount"] (spD K mg F_lift_word 2 [] false) := fn_okG F_d_lift_word sc_lift_word 4 2 [false, false, false, false] (fun cdv A outer s H E S C bd => d_lift_word G c_lifting_step_2 bd)
  have c_lift_word_2 : Cal P w K mg base 2 "lift_word" F_lift_word 2 [] false [] := cal_of k_lift_word g_lift_word F_d_lift_word.kp (F_d_lift_word.bindsN fun _ _ _ _ _ _ us hl => match us, hl with | [_, _], _ => rfl) .nil (fun _ _ => .nil)
  have k_NearPair___init__ : FnOk P w K mg base (L2.CX P w) 1 (adM "NearPair" "__init__" K) fd_NearPair___init__ ["self", "one", "other", "below", "above"] (spD K mg F_NearPair___init__ 5 [0] false) := fn_okG F_d_NearPair___init__ sc_NearPair___init__ 5 5 [true, false, false, false, false] (fun cdv A outer s H E S C bd => d_NearPair___init__ G bd)
  have i_NearPair_4 : CalI P w K mg base 1 "NearPair" F_NearPair___init__ 4 [] := calI_of X G0 e6 rfl k_NearPair___init__ (F_d_NearPair___init__.bindsN fun _ _ _ _ _ _ us hl => match us, hl with | [_, _, _, _, _], _ => rfl) .nil (fun _ _ => .nil)
  have k_modulus_clash : FnOk P w K mg base (L2.CX P w) 4 (adG "modulus_clash" K) fd_modulus_clash ["length", "modulus", "rest"] (spD K mg F_modulus_clash 3 [] false) := fn_okG F_d_modulus_clash sc_modulus_clash 6 3 [false, false, false, false, false, false] (fun cdv A outer s H E S C bd => d_modulus_clash G c_check_modulus_2 c_check_number_3 c_check_rest_2 c_lift_word_2 i_NearPair_4 bd)
  have c_modulus_clash_3 : Cal P w K mg base 4 "modulus_clash" F_modulus_clash 3 [] false [] := cal_of k_modulus_clash g_modulus_clash F_d_modulus_clash.kp (F_d_modulus_clash.bindsN fun _ _ _ _ _ _ us hl => match us, hl with | [_, _, _], _ => rfl) .nil (fun _ _ => .nil)
  have k__law_refused : FnOk P w K mg base (L2.CX P w) 5 (adG "_law_refused" K) fd__law_refused ["_law_n", "_law_modulus", "_law_rest"] (spD K mg F__law_refused 3 [] false) := fn_okG F_d__law_refused sc__law_refused 3 3 [false, false, false] (fun cdv A outer s H E S C bd => d__law_refused G c_modulus_clash_3 bd)
  have c__law_refused_3 : Cal P w K mg base 5 "_law_refused" F__law_refused 3 [] false [] := cal_of k__law_refused g__law_refused F_d__law_refused.kp (F_d__law_refused.bindsN fun _ _ _ _ _ _ us hl => match us, hl with | [_, _, _], _ => rfl) .nil (fun _ _ => .nil)
  have k_SumBook_is_full : FnOk P w K mg base (L2.CX P w) 1 (adW "SumBook" "property" "is_full" K) fd_SumBook_is_full ["self"] (spD K mg F_SumBook_is_full 1 [] false) := fn_okG F_d_SumBook_is_full sc_SumBook_is_full 1 1 [false] (fun cdv A outer s H E S C bd => d_SumBook_is_full G bd)
  have p_is_full : PropT P w K mg base 1 "is_full" tp_is_full := (propT_cons X G0 e8 rfl k_SumBook_is_full (by decide) (F_d_SumBook_is_full.bindsN fun _ _ _ _ _ _ us hl => match us, hl with | [_], _ => rfl) propT_nil)
  have k_word_of_sum : FnOk P w K mg base (L2.CX P w) 1 (adG "word_of_sum" K) fd_word_of_sum ["length", "total"] (spD K mg F_word_of_sum 2 [] false) := fn_okG F_d_word_of_sum sc_word_of_sum 4 2 [false, false, false, false] (fun cdv A outer s H E S C bd => d_word_of_sum G bd)
  have c_word_of_sum_2 : Cal P w K mg base 1 "word_of_sum" F_word_of_sum 2 [] false [] := cal_of k_word_of_sum g_word_of_sum F_d_word_of_sum.kp (F_d_word_of_sum.bindsN fun _ _ _ _ _ _ us hl => match us, hl with | [_, _], _ => rfl) .nil (fun _ _ => .nil)
  have k_unread_word : FnOk P w K mg base (L2.CX P w) 4 (adG "unread_word" K) fd_unread_word ["book"] (spD K mg F_unread_word 1 [] false) := fn_okG F_d_unread_word sc_unread_word 1 1 [false] (fun cdv A outer s H E S C bd => d_unread_word G c_check_number_3 c_word_of_sum_2 p_is_full bd)
  have c_unread_word_1 : Cal P w K mg base 4 "unread_word" F_unread_word 1 [] false [] := cal_of k_unread_word g_unread_word F_d_unread_word.kp (F_d_unread_word.bindsN fun _ _ _ _ _ _ us hl => match us, hl with | [_], _ => rfl) .nil (fun _ _ => .nil)
  have k__law_odd : FnOk P w K mg base (L2.CX P w) 3 (adG "_law_odd" K) fd__law_odd ["_law_hand_here", "_law_good"] (spD K mg F__law_odd 2 [0] false) := fn_okG F_d__law_odd sc__law_odd 2 2 [true, false] (fun cdv A outer s H E S C bd => d__law_odd G c__law_take_2 bd)
  have c__law_odd_2 : Cal P w K mg base 3 "_law_odd" F__law_odd 2 [0] false [] := cal_of k__law_odd g__law_odd F_d__law_odd.kp (F_d__law_odd.bindsN fun _ _ _ _ _ _ us hl => match us, hl with | [_, _], _ => rfl) .nil (fun _ _ => .nil)
  have k_SumBook___init__ : FnOk P w K mg base (L2.CX P w) 4 (adM "SumBook" "__init__" K) fd_SumBook___init__ ["self", "length", "modulus", "rest"] (spD K mg F_SumBook___init__ 4 [0] false) := fn_okG F_d_SumBook___init__ sc_SumBook___init__ 4 4 [true, false, false, false] (fun cdv A outer s H E S C bd => d_SumBook___init__ G c_check_modulus_2 c_check_number_3 c_check_rest_2 bd)
  have i_SumBook_3 : CalI P w K mg base 4 "SumBook" F_SumBook___init__ 3 [] := calI_of X G0 e7 rfl k_SumBook___init__ (F_d_SumBook___init__.bindsN fun _ _ _ _ _ _ us hl => match us, hl with | [_, _, _, _], _ => rfl) .nil (fun _ _ => .nil)
  have k__law_refusals : FnOk P w K mg base (L2.CX P w) 6 (adG "_law_refusals" K) fd__law_refusals ["_law_hand_here", "_law_n"] (spD K mg F__law_refusals 2 [0] false) := fn_okG F_d__law_refusals sc__law_refusals 5 2 [true, false, false, false, false] (fun cdv A outer s H E S C bd => d__law_refusals G c__law_odd_2 c__law_refused_3 c__law_take_2 c_unread_word_1 i_SumBook_3 bd)
  have c__law_refusals_2 : Cal P w K mg base 6 "_law_refusals" F__law_refusals 2 [0] false [] := cal_of k__law_refusals g__law_refusals F_d__law_refusals.kp (F_d__law_refusals.bindsN fun _ _ _ _ _ _ us hl => match us, hl with | [_, _], _ => rfl) .nil (fun _ _ => .nil)
  have k__law_book_of : FnOk P w K mg base (L2.CX P w) 3 (adG "_law_book_of" K) fd__law_book_of ["_law_hand_here", "_law_n"] (spD K mg F__law_book_of 2 [0] false) := fn_okG F_d__law_book_of sc__law_book_of 5 2 [true, false, false, false, false] (fun cdv A outer s H E S C bd => d__law_book_of G c__law_take_2 bd)
  have c__law_book_of_2 : Cal P w K mg base 3 "_law_book_of" F__law_book_of 2 [0] false [] := cal_of k__law_book_of g__law_book_of F_d__law_book_of.kp (F_d__law_book_of.bindsN fun _ _ _ _ _ _ us hl => match us, hl with | [_, _], _ => rfl) .nil (fun _ _ => .nil)
  have k__law_whole : FnOk P w K mg base (L2.CX P w) 1 (adG "_law_whole" K) fd__law_whole ["_law_thing"] (spD K mg F__law_whole 1 [] false) := fn_okG F_d__law_whole sc__law_whole 1 1 [false] (fun cdv A outer s H E S C bd => d__law_whole G bd)
  have c__law_whole_1 : Cal P w K mg base 1 "_law_whole" F__law_whole 1 [] false [] := cal_of k__law_whole g__law_whole F_d__law_whole.kp (F_d__law_whole.bindsN fun _ _ _ _ _ _ us hl => match us, hl with | [_], _ => rfl) .nil (fun _ _ => .nil)
  have k__law_is_word : FnOk P w K mg base (L2.CX P w) 2 (adG "_law_is_word" K) fd__law_is_word ["_law_thing", "_law_n"] (spD K mg F__law_is_word 2 [] false) := fn_okG F_d__law_is_word sc__law_is_word 3 2 [false, false, false] (fun cdv A outer s H E S C bd => d__law_is_word G c__law_whole_1 bd)
  have c__law_is_word_2 : Cal P w K mg base 2 "_law_is_word" F__law_is_word 2 [] false [] := cal_of k__law_is_word g__law_is_word F_d__law_is_word.kp (F_d__law_is_word.bindsN fun _ _ _ _ _ _ us hl => match us, hl with | [_, _], _ => rfl) .nil (fun _ _ => .nil)
  have k__law_is_below : FnOk P w K mg base (L2.CX P w) 1 (adG "_law_is_below" K) fd__law_is_below ["_law_short", "_law_long"] (spD K mg F__law_is_below 2 [] false) := fn_okG F_d__law_is_below sc__law_is_below 4 2 [false, false, false, false] (fun cdv A outer s H E S C bd => d__law_is_below G bd)
  have c__law_is_below_2 : Cal P w K mg base 1 "_law_is_below" F__law_is_below 2 [] false [] := cal_of k__law_is_below g__law_is_below F_d__law_is_below.kp (F_d__law_is_below.bindsN fun _ _ _ _ _ _ us hl => match us, hl with | [_, _], _ => rfl) .nil (fun _ _ => .nil)
  have k__law_sum : FnOk P w K mg base (L2.CX P w) 1 (adG "_law_sum" K) fd__law_sum ["_law_word"] (spD K mg F__law_sum 1 [] false) := fn_okG F_d__law_sum sc__law_sum 2 1 [false, false] (fun cdv A outer s H E S C bd => d__law_sum G bd)
  have c__law_sum_1 : Cal P w K mg base 1 "_law_sum" F__law_sum 1 [] false [] := cal_of k__law_sum g__law_sum F_d__law_sum.kp (F_d__law_sum.bindsN fun _ _ _ _ _ _ us hl => match us, hl with | [_], _ => rfl) .nil (fun _ _ => .nil)
  have k__law_clash_right : FnOk P w K mg base (L2.CX P w) 3 (adG "_law_clash_right" K) fd__law_clash_right ["_law_n", "_law_modulus", "_law_rest", "_law_pair"] (spD K mg F__law_clash_right 4 [] false) := fn_okG F_d__law_clash_right sc__law_clash_right 6 4 [false, false, false, false, false, false] (fun cdv A outer s H E S C bd => d__law_clash_right G c__law_is_below_2 c__law_is_word_2 c__law_sum_1 bd)
  have c__law_clash_right_4 : Cal P w K mg base 3 "_law_clash_right" F__law_clash_right 4 [] false [] := cal_of k__law_clash_right g__law_clash_right F_d__law_clash_right.kp (F_d__law_clash_right.bindsN fun _ _ _ _ _ _ us hl => match us, hl with | [_, _, _, _], _ => rfl) .nil (fun _ _ => .nil)
  have k__law_modulus_right : FnOk P w K mg base (L2.CX P w) 5 (adG "_law_modulus_right" K) fd__law_modulus_right ["_law_n", "_law_modulus", "_law_rest"] (spD K mg F__law_modulus_right 3 [] false) := fn_okG F_d__law_modulus_right sc__law_modulus_right 4 3 [false, false, false, false] (fun cdv A outer s H E S C bd => d__law_modulus_right G c__law_clash_right_4 c_modulus_clash_3 bd)
  have c__law_modulus_right_3 : Cal P w K mg base 5 "_law_modulus_right" F__law_modulus_right 3 [] false [] := cal_of k__law_modulus_right g__law_modulus_right F_d__law_modulus_right.kp (F_d__law_modulus_right.bindsN fun _ _ _ _ _ _ us hl => match us, hl with | [_, _, _], _ => rfl) .nil (fun _ _ => .nil)
  have k_sum_places : FnOk P w K mg base (L2.CX P w) 1 (adG "sum_places" K) fd_sum_places ["word"] (spD K mg F_sum_places 1 [] false) := fn_okG F_d_sum_places sc_sum_places 4 1 [false, false, false, false] (fun cdv A outer s H E S C bd => d_sum_places G bd)
  have c_sum_places_1 : Cal P w K mg base 1 "sum_places" F_sum_places 1 [] false [] := cal_of k_sum_places g_sum_places F_d_sum_places.kp (F_d_sum_places.bindsN fun _ _ _ _ _ _ us hl => match us, hl with | [_], _ => rfl) .nil (fun _ _ => .nil)
  have k_loss_amount : FnOk P w K mg base (L2.CX P w) 2 (adG "loss_amount" K) fd_loss_amount ["book", "word"] (spD K mg F_loss_amount 2 [] false) := fn_okG F_d_loss_amount sc_loss_amount 3 2 [false, false, false] (fun cdv A outer s H E S C bd => d_loss_amount G c_sum_places_1 bd)
  have c_loss_amount_2 : Cal P w K mg base 2 "loss_amount" F_loss_amount 2 [] false [] := cal_of k_loss_amount g_loss_amount F_d_loss_amount.kp (F_d_loss_amount.bindsN fun _ _ _ _ _ _ us hl => match us, hl with | [_, _], _ => rfl) .nil (fun _ _ => .nil)
  have k_member_above : FnOk P w K mg base (L2.CX P w) 3 (adG "member_above" K) fd_member_above ["book", "word"] (spD K mg F_member_above 2 [] false) := fn_okG F_d_member_above sc_member_above 3 2 [false, false, false] (fun cdv A outer s H E S C bd => d_member_above G c_lift_word_2 c_loss_amount_2 bd)
  have c_member_above_2 : Cal P w K mg base 3 "member_above" F_member_above 2 [] false [] := cal_of k_member_above g_member_above F_d_member_above.kp (F_d_member_above.bindsN fun _ _ _ _ _ _ us hl => match us, hl with | [_, _], _ => rfl) .nil (fun _ _ => .nil)
  have k_check_word : FnOk P w K mg base (L2.CX P w) 3 (adG "check_word" K) fd_check_word ["letters", "word", "most"] (spD K mg F_check_word 3 [] false) := fn_okG F_d_check_word sc_check_word 5 3 [false, false, false, false, false] (fun cdv A outer s H E S C bd => d_check_word G c_is_whole_3 x_BadWord bd)
  obtain ⟨ds_check_word_3, hv_check_word_3, hb_check_word_3⟩ := F_d_check_word.binds1 (ps := ["letters", "word", "most"]) 3 1 (by simp) rfl fun _ _ _ _ _ _ _ us its hl hi => match us, hl, its, hi with | [_, _, _], _, [_], _ => ⟨_, rfl, rfl⟩
  have c_check_word_3 : Cal P w K mg base 3 "check_word" F_check_word 3 [] false [] := cal_of k_check_word g_check_word F_d_check_word.kp hb_check_word_3 hv_check_word_3 (fun _ _ => .nil)
  have k_check_read : FnOk P w K mg base (L2.CX P w) 4 (adG "check_read" K) fd_check_read ["word", "length"] (spD K mg F_check_read 2 [] false) := fn_okG F_d_check_read sc_check_read 2 2 [false, false] (fun cdv A outer s H E S C bd => d_check_read G c_check_word_3 x_NotOneOff bd)
  have c_check_read_2 : Cal P w K mg base 4 "check_read" F_check_read 2 [] false [] := cal_of k_check_read g_check_read F_d_check_read.kp (F_d_check_read.bindsN fun _ _ _ _ _ _ us hl => match us, hl with | [_, _], _ => rfl) .nil (fun _ _ => .nil)
  have k_read_lost : FnOk P w K mg base (L2.CX P w) 5 (adG "read_lost" K) fd_read_lost ["book", "word"] (spD K mg F_read_lost 2 [] false) := fn_okG F_d_read_lost sc_read_lost 2 2 [false, false] (fun cdv A outer s H E S C bd => d_read_lost G c_check_read_2 c_member_above_2 bd)
  have c_read_lost_2 : Cal P w K mg base 5 "read_lost" F_read_lost 2 [] false [] := cal_of k_read_lost g_read_lost F_d_read_lost.kp (F_d_read_lost.bindsN fun _ _ _ _ _ _ us hl => match us, hl with | [_, _], _ => rfl) .nil (fun _ _ => .nil)
  have k__law_is_unread : FnOk P w K mg base (L2.CX P w) 2 (adG "_law_is_unread" K) fd__law_is_unread ["_law_facts", "_law_word"] (spD K mg F__law_is_unread 2 [] false) := fn_okG F_d__law_is_unread sc__law_is_unread 2 2 [false, false] (fun cdv A outer s H E S C bd => d__law_is_unread G c__law_sum_1 bd)
  have c__law_is_unread_2 : Cal P w K mg base 2 "_law_is_unread" F__law_is_unread 2 [] false [] := cal_of k__law_is_unread g__law_is_unread F_d__law_is_unread.kp (F_d__law_is_unread.bindsN fun _ _ _ _ _ _ us hl => match us, hl with | [_, _], _ => rfl) .nil (fun _ _ => .nil)
  have k__law_unread_right : FnOk P w K mg base (L2.CX P w) 6 (adG "_law_unread_right" K) fd__law_unread_right ["_law_book", "_law_facts"] (spD K mg F__law_unread_right 2 [] false) := fn_okG F_d__law_unread_right sc__law_unread_right 5 2 [false, false, false, false, false] (fun cdv A outer s H E S C bd => d__law_unread_right G c__law_is_unread_2 c__law_is_word_2 c_read_lost_2 c_unread_word_1 bd)
  have c__law_unread_right_2 : Cal P w K mg base 6 "_law_unread_right" F__law_unread_right 2 [] false [] := cal_of k__law_unread_right g__law_unread_right F_d__law_unread_right.kp (F_d__law_unread_right.bindsN fun _ _ _ _ _ _ us hl => match us, hl with | [_, _], _ => rfl) .nil (fun _ _ => .nil)
  have k__law_all_words : FnOk P w K mg base (L2.CX P w) 1 (adG "_law_all_words" K) fd__law_all_words ["_law_q", "_law_n"] (spD K mg F__law_all_words 2 [] false) := fn_okG F_d__law_all_words sc__law_all_words 7 2 [false, false, false, false, false, false, false] (fun cdv A outer s H E S C bd => d__law_all_words G bd)
  have c__law_all_words_2 : Cal P w K mg base 1 "_law_all_words" F__law_all_words 2 [] false [] := cal_of k__law_all_words g__law_all_words F_d__law_all_words.kp (F_d__law_all_words.bindsN fun _ _ _ _ _ _ us hl => match us, hl with | [_, _], _ => rfl) .nil (fun _ _ => .nil)
  have k__law_has_clash : FnOk P w K mg base (L2.CX P w) 2 (adG "_law_has_clash" K) fd__law_has_clash ["_law_n", "_law_modulus", "_law_rest"] (spD K mg F__law_has_clash 3 [] false) := fn_okG F_d__law_has_clash sc__law_has_clash 7 3 [false, false, false, false, false, false, false] (fun cdv A outer s H E S C bd => d__law_has_clash G c__law_all_words_2 c__law_sum_1 bd)
  have c__law_has_clash_3 : Cal P w K mg base 2 "_law_has_clash" F__law_has_clash 3 [] false [] := cal_of k__law_has_clash g__law_has_clash F_d__law_has_clash.kp (F_d__law_has_clash.bindsN fun _ _ _ _ _ _ us hl => match us, hl with | [_, _, _], _ => rfl) .nil (fun _ _ => .nil)
  have k__law_more_one : FnOk P w K mg base (L2.CX P w) 1 (adG "_law_more_one" K) fd__law_more_one ["_law_q", "_law_word"] (spD K mg F__law_more_one 2 [] false) := fn_okG F_d__law_more_one sc__law_more_one 5 2 [false, false, false, false, false] (fun cdv A outer s H E S C bd => d__law_more_one G bd)
  have c__law_more_one_2 : Cal P w K mg base 1 "_law_more_one" F__law_more_one 2 [] false [] := cal_of k__law_more_one g__law_more_one F_d__law_more_one.kp (F_d__law_more_one.bindsN fun _ _ _ _ _ _ us hl => match us, hl with | [_, _], _ => rfl) .nil (fun _ _ => .nil)
  have k__law_small_unread : FnOk P w K mg base (L2.CX P w) 2 (adG "_law_small_unread" K) fd__law_small_unread ["_law_facts"] (spD K mg F__law_small_unread 1 [] false) := fn_okG F_d__law_small_unread sc__law_small_unread 5 1 [false, false, false, false, false] (fun cdv A outer s H E S C bd => d__law_small_unread G c__law_all_words_2 c__law_more_one_2 c__law_sum_1 bd)
  have c__law_small_unread_1 : Cal P w K mg base 2 "_law_small_unread" F__law_small_unread 1 [] false [] := cal_of k__law_small_unread g__law_small_unread F_d__law_small_unread.kp (F_d__law_small_unread.bindsN fun _ _ _ _ _ _ us hl => match us, hl with | [_], _ => rfl) .nil (fun _ _ => .nil)
  have k_law : FnOk P w K mg base (L2.CX P w) 7 (adG "law" K) fd_law ["_law_script"] (spD K mg F_law 1 [] false) := fn_okG F_d_law sc_law 8 1 [false, false, false, false, false, false, false, false] (fun cdv A outer s H E S C bd => d_law G c__law_book_of_2 c__law_hand_1 c__law_has_clash_3 c__law_modulus_right_3 c__law_refusals_2 c__law_small_unread_1 c__law_take_2 c__law_unread_right_2 c_unread_word_1 i_SumBook_3 bd)
  exact k_law
end Lk71
end
/-! words with one lost, one put in; their sums -/
namespace VT
open DL
def del {α : Type} : List α → Nat → List α
  | [], _ => []
  | _ :: t, 0 => t
  | a :: t, k + 1 => a :: del t k
def ins {α : Type} (x : α) : List α → Nat → List α
  | w, 0 => x :: w
  | [], _ + 1 => [x]
  | a :: t, k + 1 => a :: ins x t k
theorem del_ins {α : Type} (x : α) : ∀ (w : List α) (k : Nat), k ≤ w.length → del (ins x w k) k = w
  | w, 0, _ => by cases w <;> rfl
  | [], k + 1, h => by simp at h
  | a :: t, k + 1, h => by simp [ins, del, del_ins x t k (by simpa using h)]
theorem ins_len {α : Type} (x : α) : ∀ (w : List α) (k : Nat), (ins x w k).length = w.length + 1
  | w, 0 => by cases w <;> rfl
  | [], k + 1 => rfl
  | a :: t, k + 1 => by simp [ins, ins_len x t k]
theorem ins_del {α : Type} : ∀ (w : List α) (j : Nat), j < w.length → ∃ b, b ∈ w ∧ w = ins b (del w j) j
  | [], j, h => by simp at h
  | a :: t, 0, _ => ⟨a, by simp, by cases t <;> rfl⟩
  | a :: t, j + 1, h => by
    obtain ⟨b, hb, e⟩ := ins_del t j (by simpa using h)
    exact ⟨b, by simp [hb], by simp only [del, ins]; rw [← e]⟩
theorem del_len {α : Type} : ∀ (w : List α) (j : Nat), j < w.length → (del w j).length = w.length - 1
  | [], j, h => by simp at h
  | a :: t, 0, _ => rfl
  | a :: t, j + 1, h => by
    have := del_len t j (by simpa using h)
    simp only [del, List.length_cons, this]
    simp at h
    omega
theorem del_mem {α : Type} : ∀ (w : List α) (j : Nat), ∀ x ∈ del w j, x ∈ w
  | [], j, x, h => by simp [del] at h
  | a :: t, 0, x, h => List.mem_cons_of_mem _ h
  | a :: t, j + 1, x, h => by
    rcases List.mem_cons.mp h with h | h
    · simp [h]
    · exact List.mem_cons_of_mem _ (del_mem t j x h)
theorem ins_mem {α : Type} (y : α) : ∀ (w : List α) (j : Nat), ∀ x ∈ ins y w j, x = y ∨ x ∈ w
  | w, 0, x, h => by cases w <;> simpa [ins] using h
  | [], j + 1, x, h => by simpa [ins] using h
  | a :: t, j + 1, x, h => by
    rcases List.mem_cons.mp h with h | h
    · simp [h]
    · rcases ins_mem y t j x h with h | h
      · exact .inl h
      · exact .inr (List.mem_cons_of_mem _ h)
theorem del_sub {α : Type} : ∀ (w : List α) (j : Nat), (del w j).Sublist w
  | [], j => by simp [del]
  | a :: t, 0 => List.Sublist.cons a (List.Sublist.refl t)
  | a :: t, j + 1 => (del_sub t j).cons_cons a

theorem ins_split {α : Type} (x : α) : ∀ (w : List α) (k : Nat), k ≤ w.length → ins x w k = w.take k ++ x :: w.drop k
  | w, 0, _ => by cases w <;> rfl
  | [], k + 1, h => by simp at h
  | a :: t, k + 1, h => by simp [ins, ins_split x t k (by simpa using h)]
theorem del_split {α : Type} : ∀ (w : List α) (k : Nat), k < w.length → del w k = w.take k ++ w.drop (k + 1)
  | [], k, h => by simp at h
  | a :: t, 0, _ => by simp [del]
  | a :: t, k + 1, h => by simp [del, del_split t k (by simpa using h)]
theorem ins_cons {α : Type} (x : α) (w : List α) (k : Nat) : ∃ p P, ins x w k = p :: P := by
  cases k with
  | zero => exact ⟨x, w, by cases w <;> rfl⟩
  | succ k => cases w with
    | nil => exact ⟨x, [], rfl⟩
    | cons a t => exact ⟨a, ins x t k, rfl⟩
def vt : Int → List Int → Int
  | _, [] => 0
  | p, b :: t => b * p + vt (p + 1) t
def ones : List Int → Int
  | [] => 0
  | b :: t => b + ones t
def Bin (l : List Int) : Prop := ∀ e ∈ l, e = 0 ∨ e = 1
theorem ones_nn : ∀ (v : List Int), Bin v → 0 ≤ ones v ∧ ones v ≤ v.length
  | [], _ => by simp [ones]
  | b :: t, h => by
    have := ones_nn t fun e he => h e (by simp [he])
    have q := h b (by simp)
    simp only [ones, List.length_cons]
    omega
theorem vt_up : ∀ (v : List Int) (p : Int), vt (p + 1) v = vt p v + ones v
  | [], p => by simp [vt, ones]
  | b :: t, p => by
    rw [vt, vt, ones, vt_up t (p + 1), Int.mul_add]
    omega
def dlt (p : Int) (v : List Int) (i : Nat) (b : Int) : Int := vt p (ins b v i) - vt p v
theorem dlt_0 (p : Int) (v : List Int) (b : Int) : dlt p v 0 b = b * p + ones v := by
  have e : ins b v 0 = b :: v := by cases v <;> rfl
  rw [dlt, e, vt, vt_up]
  omega
theorem dlt_s (p a : Int) (v : List Int) (i : Nat) (b : Int) : dlt p (a :: v) (i + 1) b = dlt (p + 1) v i b := by
  rw [dlt, dlt, ins, vt, vt]
  omega
theorem dlt_b0 : ∀ (v : List Int) (p : Int) (i : Nat), Bin v → i ≤ v.length → 0 ≤ dlt p v i 0 ∧ dlt p v i 0 ≤ ones v
  | v, p, 0, h, _ => by
    rw [dlt_0]
    have := ones_nn v h
    omega
  | [], p, i + 1, h, hi => by simp at hi
  | a :: t, p, i + 1, h, hi => by
    have := dlt_b0 t (p + 1) i (fun e he => h e (by simp [he])) (by simpa using hi)
    have q := h a (by simp)
    rw [dlt_s, ones]
    omega
theorem dlt_b1 : ∀ (v : List Int) (p : Int) (i : Nat), Bin v → i ≤ v.length → p + ones v ≤ dlt p v i 1 ∧ dlt p v i 1 ≤ p + v.length
  | v, p, 0, h, _ => by
    rw [dlt_0]
    have := ones_nn v h
    omega
  | [], p, i + 1, h, hi => by simp at hi
  | a :: t, p, i + 1, h, hi => by
    have := dlt_b1 t (p + 1) i (fun e he => h e (by simp [he])) (by simpa using hi)
    have q := h a (by simp)
    rw [dlt_s, ones, List.length_cons]
    omega
theorem dlt_inj (b : Int) (hb : b = 0 ∨ b = 1) : ∀ (v : List Int) (p : Int) (i j : Nat), Bin v → i ≤ v.length → j ≤ v.length → dlt p v i b = dlt p v j b → ins b v i = ins b v j
  | v, p, 0, 0, _, _, _, _ => rfl
  | [], p, i + 1, j, h, hi, _, _ => by simp at hi
  | [], p, i, j + 1, h, _, hj, _ => by simp at hj
  | a :: t, p, 0, j + 1, h, _, hj, e => by
    have ht : Bin t := fun e he => h e (by simp [he])
    have hj' : j ≤ t.length := by simpa using hj
    rw [dlt_0, dlt_s, ones] at e
    have qa := h a (by simp)
    have b0 := dlt_b0 t (p + 1) j ht hj'
    have b1 := dlt_b1 t (p + 1) j ht hj'
    have k : a = b ∧ dlt (p + 1) t 0 b = dlt (p + 1) t j b := by
      rw [dlt_0]
      rcases hb with hb | hb <;> subst hb
      · omega
      · omega
    have ih := dlt_inj b hb t (p + 1) 0 j ht (by omega) hj' k.2
    show b :: a :: t = a :: ins b t j
    rw [← ih, k.1]
    cases t <;> rfl
  | a :: t, p, i + 1, 0, h, hi, _, e => by
    have ht : Bin t := fun e he => h e (by simp [he])
    have hi' : i ≤ t.length := by simpa using hi
    rw [dlt_0, dlt_s, ones] at e
    have qa := h a (by simp)
    have b0 := dlt_b0 t (p + 1) i ht hi'
    have b1 := dlt_b1 t (p + 1) i ht hi'
    have k : a = b ∧ dlt (p + 1) t 0 b = dlt (p + 1) t i b := by
      rw [dlt_0]
      rcases hb with hb | hb <;> subst hb
      · omega
      · omega
    have ih := dlt_inj b hb t (p + 1) 0 i ht (by omega) hi' k.2
    show a :: ins b t i = b :: a :: t
    rw [← ih, k.1]
    cases t <;> rfl
  | a :: t, p, i + 1, j + 1, h, hi, hj, e => by
    rw [dlt_s, dlt_s] at e
    have ih := dlt_inj b hb t (p + 1) i j (fun e he => h e (by simp [he])) (by simpa using hi) (by simpa using hj) e
    show a :: ins b t i = a :: ins b t j
    rw [ih]
/-! what a letter lost takes off -/
def red (p : Int) : List Int → Nat → Int
  | [], _ => 0
  | a :: t, 0 => p * a + ones t
  | _ :: t, k + 1 => red (p + 1) t k
theorem nI_bin {w : List Int} (h : Bin w) {k : Nat} (hk : k < w.length) : nI w k = 0 ∨ nI w k = 1 := h _ (nI_mem hk)
theorem bin_tail {a : Int} {t : List Int} (h : Bin (a :: t)) : Bin t := fun e he => h e (List.mem_cons_of_mem _ he)
theorem red_spec : ∀ (w : List Int) (p : Int) (k : Nat), k < w.length → red p w k = (p + k) * nI w k + ones (w.drop (k + 1))
  | [], p, k, h => by simp at h
  | a :: t, p, 0, _ => by simp [red, nI_0]
  | a :: t, p, k + 1, h => by
    rw [red, red_spec t (p + 1) k (by simpa using h), nI_s, List.drop_succ_cons, show p + 1 + (k : Int) = p + ((k + 1 : Nat) : Int) by omega]
theorem red_vt : ∀ (w : List Int) (p : Int) (k : Nat), k < w.length → vt p (del w k) + red p w k = vt p w
  | [], p, k, h => by simp at h
  | a :: t, p, 0, _ => by
    show vt p t + (p * a + ones t) = a * p + vt (p + 1) t
    rw [vt_up, Int.mul_comm a p]; omega
  | a :: t, p, k + 1, h => by
    have := red_vt t (p + 1) k (by simpa using h)
    show (a * p + vt (p + 1) (del t k)) + red (p + 1) t k = a * p + vt (p + 1) t
    omega
theorem ones_app : ∀ (a b : List Int), ones (a ++ b) = ones a + ones b
  | [], b => by simp [ones]
  | x :: a, b => by rw [List.cons_append, ones, ones, ones_app a b]; omega
theorem ones_take_drop (w : List Int) (k : Nat) : ones (w.take k) + ones (w.drop k) = ones w := by rw [← ones_app, List.take_append_drop]
theorem bin_take {w : List Int} (h : Bin w) (k : Nat) : Bin (w.take k) := fun e he => h e (List.mem_of_mem_take he)
theorem bin_drop {w : List Int} (h : Bin w) (k : Nat) : Bin (w.drop k) := fun e he => h e (List.mem_of_mem_drop he)
theorem red_0 {w : List Int} (h : Bin w) {p : Int} {k : Nat} (hk : k < w.length) (h0 : nI w k = 0) : red p w k = ones (w.drop (k + 1)) ∧ 0 ≤ red p w k ∧ red p w k ≤ ones w := by
  have e := red_spec w p k hk
  rw [h0, Int.mul_zero] at e
  have a := ones_nn _ (bin_drop h (k + 1))
  have b := ones_nn _ (bin_take h (k + 1))
  have c := ones_take_drop w (k + 1)
  omega
theorem drop_at {w : List Int} {k : Nat} (hk : k < w.length) : w.drop k = nI w k :: w.drop (k + 1) := by rw [List.drop_eq_getElem_cons hk, nI_get hk]
theorem take_at {w : List Int} {k : Nat} (hk : k < w.length) : w.take (k + 1) = w.take k ++ [nI w k] := by rw [List.take_succ_eq_append_getElem hk, nI_get hk]
theorem red_1 {w : List Int} (h : Bin w) {p : Int} {k : Nat} (hk : k < w.length) (h1 : nI w k = 1) : red p w k = p + ones w - 1 + (k - ones (w.take k)) ∧ p + ones w - 1 ≤ red p w k ∧ red p w k ≤ p + w.length - 1 := by
  have e := red_spec w p k hk
  rw [h1, Int.mul_one] at e
  have a := ones_nn _ (bin_drop h (k + 1))
  have b := ones_nn _ (bin_take h k)
  have c := ones_take_drop w k
  have d := drop_at hk
  rw [d, h1, ones] at c
  rw [List.length_take] at b
  rw [List.length_drop] at a
  omega
/-- the first k letters are zeros -/
theorem red_z : ∀ (t : List Int) (p : Int) (j : Nat), Bin t → j < t.length → nI t j = 0 → red p t j = ones t → t = 0 :: del t j
  | [], p, j, _, h, _, _ => by simp at h
  | b :: t, p, 0, _, _, h0, _ => by
    rw [nI_0] at h0
    rw [h0]; rfl
  | b :: t, p, j + 1, hb, h, h0, e => by
    have hj : j < t.length := by simpa using h
    rw [nI_s] at h0
    rw [red, ones] at e
    have r := red_0 (bin_tail hb) (p := p + 1) hj h0
    have b0 : b = 0 := by
      rcases hb b (by simp) with q | q
      · exact q
      · omega
    have ih := red_z t (p + 1) j (bin_tail hb) hj h0 (by omega)
    rw [b0]
    show 0 :: t = 0 :: 0 :: del t j
    rw [← ih]
theorem red_o : ∀ (t : List Int) (p : Int) (j : Nat), Bin t → j < t.length → nI t j = 1 → red p t j = p + ones t - 1 → t = 1 :: del t j
  | [], p, j, _, h, _, _ => by simp at h
  | b :: t, p, 0, _, _, h0, _ => by
    rw [nI_0] at h0
    rw [h0]; rfl
  | b :: t, p, j + 1, hb, h, h0, e => by
    have hj : j < t.length := by simpa using h
    rw [nI_s] at h0
    rw [red, ones] at e
    have r := red_1 (bin_tail hb) (p := p + 1) hj h0
    have b1 : b = 1 := by
      rcases hb b (by simp) with q | q
      · omega
      · exact q
    have ih := red_o t (p + 1) j (bin_tail hb) hj h0 (by omega)
    rw [b1]
    show 1 :: t = 1 :: 1 :: del t j
    rw [← ih]
/-- what takes off as much as the first letter -/
theorem red_head {a : Int} {t : List Int} {p : Int} {j : Nat} (hp : 1 ≤ p) (hb : Bin (a :: t)) (hj : j < t.length) (e : red p (a :: t) 0 = red (p + 1) t j) : t = a :: del t j := by
  have ht := bin_tail hb
  rw [red] at e
  have qa := hb a (by simp)
  rcases nI_bin ht hj with q | q
  · have r := red_0 ht (p := p + 1) hj q
    have a0 : a = 0 := by
      rcases qa with z | z
      · exact z
      · subst z; omega
    subst a0
    rw [Int.mul_zero] at e
    exact red_z t (p + 1) j ht hj q (by omega)
  · have r := red_1 ht (p := p + 1) hj q
    have a1 : a = 1 := by
      rcases qa with z | z
      · subst z; omega
      · exact z
    subst a1
    rw [Int.mul_one] at e
    exact red_o t (p + 1) j ht hj q (by omega)
theorem red_del : ∀ (w : List Int) (p : Int) (i j : Nat), 1 ≤ p → Bin w → i < w.length → j < w.length → red p w i = red p w j → del w i = del w j
  | [], _, _, _, _, _, h, _, _ => by simp at h
  | a :: t, p, 0, 0, _, _, _, _, _ => rfl
  | a :: t, p, 0, j + 1, hp, hb, _, hj, e => by
    have hj' : j < t.length := by simpa using hj
    exact red_head hp hb hj' e
  | a :: t, p, i + 1, 0, hp, hb, hi, _, e => by
    have hi' : i < t.length := by simpa using hi
    exact (red_head hp hb hi' e.symm).symm
  | a :: t, p, i + 1, j + 1, hp, hb, hi, hj, e => by
    have := red_del t (p + 1) i j (by omega) (bin_tail hb) (by simpa using hi) (by simpa using hj) e
    show a :: del t i = a :: del t j
    rw [this]
/-- as many as runs -/
def runsN : List Int → Nat
  | [] => 0
  | [_] => 1
  | a :: b :: t => if a = b then runsN (b :: t) else runsN (b :: t) + 1
def reds (p : Int) (w : List Int) : List Int := (List.range w.length).map (red p w)
theorem reds_cons (p a : Int) (t : List Int) : reds p (a :: t) = red p (a :: t) 0 :: reds (p + 1) t := by
  unfold reds
  rw [List.length_cons, List.range_succ_eq_map, List.map_cons, List.map_map]
  rfl
theorem ndl_reds : ∀ (w : List Int) (p : Int), 1 ≤ p → Bin w → ndl (reds p w) = runsN w
  | [], p, _, _ => rfl
  | [a], p, _, _ => rfl
  | a :: b :: t, p, hp, hb => by
    have ih := ndl_reds (b :: t) (p + 1) (by omega) (bin_tail hb)
    rw [reds_cons, ndl, ih, runsN]
    by_cases h : a = b
    · rw [if_pos h, if_pos]
      subst h
      refine List.mem_map.mpr ⟨0, by simp, ?_⟩
      show (p + 1) * a + ones t = p * a + (a + ones t)
      rw [Int.add_mul]; omega
    · rw [if_neg h, if_neg]
      intro q
      obtain ⟨j, hj, e⟩ := List.mem_map.mp q
      have := red_head hp hb (List.mem_range.mp hj) e.symm
      exact h (List.cons.inj this).1.symm
theorem reds_bd {w : List Int} (h : Bin w) : ∀ x ∈ reds 1 w, 0 ≤ x ∧ x ≤ w.length := fun x hx => by
  obtain ⟨k, hk, rfl⟩ := List.mem_map.mp hx
  have hk := List.mem_range.mp hk
  have o := ones_nn w h
  rcases nI_bin h hk with q | q
  · have := red_0 h (p := 1) hk q; omega
  · have := red_1 h (p := 1) hk q; omega
/-- how many of 0, 1, .. n are in a list -/
theorem count_in {l : List Int} {n : Nat} (h : ∀ x ∈ l, 0 ≤ x ∧ x < n) : ((List.range n).filter fun a : Nat => decide ((a : Int) ∈ l)).length = ndl l := by
  rw [← srtS_len ltI_tot]
  have e : ((List.range n).filter fun a : Nat => decide ((a : Int) ∈ l)).length = (((List.range n).filter fun a : Nat => decide ((a : Int) ∈ l)).map fun a : Nat => (a : Int)).length := by rw [List.length_map]
  rw [e]
  refine List.Perm.length_eq ((List.perm_ext_iff_of_nodup ?_ ((srtS_sorted ltI_tot l).nodup ltI_tot)).mpr fun z => ?_)
  · refine List.pairwise_map.mpr (List.Pairwise.imp (fun {a b} q e => q (by omega)) (List.Pairwise.filter _ List.nodup_range))
  · rw [mem_srtS ltI_tot, List.mem_map]
    constructor
    · rintro ⟨a, ha, rfl⟩
      simpa using (List.mem_filter.mp ha).2
    · intro hz
      have b := h z hz
      obtain ⟨k, rfl⟩ := Int.eq_ofNat_of_zero_le b.1
      exact ⟨k, List.mem_filter.mpr ⟨List.mem_range.mpr (by omega), by simpa using hz⟩, rfl⟩
theorem dlt_red (b : Int) : ∀ (w : List Int) (p : Int) (k : Nat), k ≤ w.length → red p (ins b w k) k = dlt p w k b := fun w p k hk => by
  have := red_vt (ins b w k) p k (by rw [ins_len]; omega)
  rw [del_ins b w k hk] at this
  rw [dlt]; omega
end VT
/-! words lifted and lowered -/
namespace VT
open DL
theorem ins_0 {α : Type} (x : α) (w : List α) : ins x w 0 = x :: w := by cases w <;> rfl
theorem nI_ins (b : Int) : ∀ (w : List Int) (k : Nat), k ≤ w.length → nI (ins b w k) k = b ∧ (ins b w k).drop (k + 1) = w.drop k
  | w, 0, _ => by rw [ins_0]; exact ⟨rfl, by simp⟩
  | [], k + 1, h => by simp at h
  | a :: t, k + 1, h => by
    have := nI_ins b t k (by simpa using h)
    exact ⟨this.1, by rw [ins, List.drop_succ_cons, List.drop_succ_cons]; exact this.2⟩
theorem dlt_spec (w : List Int) (p : Int) (k : Nat) (b : Int) (hk : k ≤ w.length) : dlt p w k b = (p + k) * b + ones (w.drop k) := by
  have e := nI_ins b w k hk
  rw [← dlt_red b w p k hk, red_spec _ _ _ (by rw [ins_len]; omega), e.1, e.2]
theorem ones_sum : ∀ w : List Int, w.sum = ones w
  | [] => rfl
  | a :: t => by rw [List.sum_cons, ones, ones_sum t]
theorem vt_snoc : ∀ (l : List Int) (x p : Int), vt p (l ++ [x]) = vt p l + (p + l.length) * x
  | [], x, p => by simp [vt]; rw [Int.mul_comm]
  | a :: l, x, p => by
    rw [List.cons_append, vt, vt, vt_snoc l x (p + 1), List.length_cons, show p + 1 + (l.length : Int) = p + ((l.length + 1 : Nat) : Int) by omega]
    omega
theorem vt_range (w : List Int) : ∀ p : Int, ((List.range w.length).map fun k : Nat => (p + k) * nI w k).sum = vt p w := by
  induction w with
  | nil => intro p; rfl
  | cons a t ih =>
    intro p
    rw [List.length_cons, List.range_succ_eq_map, List.map_cons, List.map_map, List.sum_cons, vt, ← ih (p + 1), nI_0]
    have : ((List.range t.length).map ((fun k : Nat => (p + k) * nI (a :: t) k) ∘ Nat.succ)) = (List.range t.length).map fun k : Nat => (p + 1 + k) * nI t k := by
      apply List.map_congr_left
      intro k _
      show (p + ((k + 1 : Nat) : Int)) * nI (a :: t) (k + 1) = _
      rw [nI_s, show p + ((k + 1 : Nat) : Int) = p + 1 + (k : Int) by omega]
    rw [this, Int.mul_comm]
    simp
/-- v is w lifted by a -/
def Lif (w : List Int) (a : Int) (v : List Int) : Prop := ∃ k b, k ≤ w.length ∧ (b = 0 ∨ b = 1) ∧ dlt 1 w k b = a ∧ v = ins b w k
theorem dlt_rng {w : List Int} (h : Bin w) {k : Nat} {b : Int} (hk : k ≤ w.length) (hb : b = 0 ∨ b = 1) : 0 ≤ dlt 1 w k b ∧ dlt 1 w k b ≤ w.length + 1 := by
  have o := ones_nn w h
  rcases hb with hb | hb <;> subst hb
  · have := dlt_b0 w 1 k h hk; omega
  · have := dlt_b1 w 1 k h hk; omega
theorem Lif.uniq {w : List Int} (h : Bin w) {a : Int} {u v : List Int} (h1 : Lif w a u) (h2 : Lif w a v) : u = v := by
  obtain ⟨i, b, hi, hb, e1, rfl⟩ := h1
  obtain ⟨j, c, hj, hc, e2, rfl⟩ := h2
  have bc : b = c := by
    rcases hb with hb | hb <;> rcases hc with hc | hc <;> subst hb <;> subst hc
    · rfl
    · have := dlt_b0 w 1 i h hi; have := dlt_b1 w 1 j h hj; omega
    · have := dlt_b1 w 1 i h hi; have := dlt_b0 w 1 j h hj; omega
    · rfl
  subst bc
  exact dlt_inj b hb w 1 i j h hi hj (e1.trans e2.symm)
theorem Lif.sum {w : List Int} {a : Int} {v : List Int} (h : Lif w a v) : vt 1 v = vt 1 w + a := by
  obtain ⟨i, b, hi, hb, e1, rfl⟩ := h
  rw [dlt] at e1; omega
theorem ins_bin {w : List Int} (h : Bin w) {b : Int} (hb : b = 0 ∨ b = 1) (k : Nat) : Bin (ins b w k) := fun e he => by
  rcases ins_mem b w k e he with q | q
  · rw [q]; exact hb
  · exact h e q
theorem Lif.bin {w : List Int} (h : Bin w) {a : Int} {v : List Int} (q : Lif w a v) : Bin v ∧ v.length = w.length + 1 := by
  obtain ⟨i, b, hi, hb, e1, rfl⟩ := q
  exact ⟨ins_bin h hb i, ins_len b w i⟩
/-- lowered again -/
theorem Lif.low {w : List Int} (h : Bin w) {a : Int} {v : List Int} (q : Lif w a v) : (∃ k, k < v.length ∧ red 1 v k = a) ∧ ∀ k, k < v.length → red 1 v k = a → del v k = w := by
  have hv := (q.bin h).1
  obtain ⟨i, b, hi, hb, e1, rfl⟩ := q
  have li : i < (ins b w i).length := by rw [ins_len]; omega
  have r := dlt_red b w 1 i hi
  refine ⟨⟨i, li, r.trans e1⟩, fun k hk e => ?_⟩
  rw [red_del _ 1 k i (by omega) hv hk li (e.trans (e1.symm.trans r.symm)), del_ins b w i hi]
def allIns (w : List Int) : List (List Int) := ((List.range (w.length + 1)).map fun k => [ins 0 w k, ins 1 w k]).flatten
theorem mem_allIns {w z : List Int} : z ∈ allIns w ↔ ∃ k b, k ≤ w.length ∧ (b = 0 ∨ b = 1) ∧ z = ins b w k := by
  unfold allIns
  rw [List.mem_flatten]
  constructor
  · rintro ⟨l, hl, hz⟩
    obtain ⟨k, hk, rfl⟩ := List.mem_map.mp hl
    have hk := List.mem_range.mp hk
    simp only [List.mem_cons, List.mem_nil_iff, or_false] at hz
    rcases hz with rfl | rfl
    · exact ⟨k, 0, by omega, .inl rfl, rfl⟩
    · exact ⟨k, 1, by omega, .inr rfl, rfl⟩
  · rintro ⟨k, b, hk, hb, rfl⟩
    refine ⟨_, List.mem_map.mpr ⟨k, List.mem_range.mpr (by omega), rfl⟩, ?_⟩
    rcases hb with rfl | rfl <;> simp
theorem flat2 (f : Nat → List (List Int)) (h : ∀ k, (f k).length = 2) : ∀ l : List Nat, ((l.map f).flatten).length = 2 * l.length
  | [] => rfl
  | a :: l => by rw [List.map_cons, List.flatten_cons, List.length_append, flat2 f h l, h, List.length_cons]; omega
theorem allIns_len (w : List Int) : (allIns w).length = 2 * (w.length + 1) := by
  unfold allIns
  rw [flat2 (fun k => [ins 0 w k, ins 1 w k]) (fun _ => rfl), List.length_range]
theorem lifts_sorted {w : List Int} (h : Bin w) {f : Nat → List Int} (hf : ∀ a : Nat, a ≤ w.length + 1 → Lif w a (f a)) : srtW ltL ((List.range (w.length + 2)).map f) = srtS ltL (allIns w) := by
  have nd : ((List.range (w.length + 2)).map f).Nodup := by
    refine List.pairwise_map.mpr (List.Pairwise.imp_of_mem (fun {a b} ha hb hne e => hne ?_) List.nodup_range)
    have ha := List.mem_range.mp ha
    have hb := List.mem_range.mp hb
    have s1 := (hf a (by omega)).sum
    have s2 := (hf b (by omega)).sum
    rw [e] at s1
    omega
  have pm := srtW_perm (lt := ltL) ((List.range (w.length + 2)).map f)
  have ss : StS ltL (srtW ltL ((List.range (w.length + 2)).map f)) := by
    have sw := srtW_sorted ltL_tot ((List.range (w.length + 2)).map f)
    have n2 := pm.nodup_iff.mpr nd
    generalize srtW ltL ((List.range (w.length + 2)).map f) = l at sw n2
    exact L2.stS_of ltL_tot sw n2
  refine stS_uniq ltL_tot ss (srtS_sorted ltL_tot _) fun z => ?_
  rw [pm.mem_iff, mem_srtS ltL_tot, mem_allIns, List.mem_map]
  constructor
  · rintro ⟨a, ha, rfl⟩
    have ha := List.mem_range.mp ha
    obtain ⟨k, b, hk, hb, _, e⟩ := hf a (by omega)
    exact ⟨k, b, hk, hb, e⟩
  · rintro ⟨k, b, hk, hb, rfl⟩
    have r := dlt_rng h hk hb
    obtain ⟨a, ea⟩ := Int.eq_ofNat_of_zero_le r.1
    refine ⟨a, List.mem_range.mpr (by omega), (hf a (by omega)).uniq h ⟨k, b, hk, hb, ea, rfl⟩⟩
/-- the first unlike place shows the letter put in -/
theorem om_del : ∀ (w : List Int) (b : Int) (i k : Nat), i ≤ w.length → k < w.length → (∀ j, j < k → nI w j = nI (ins b w i) j) → nI w k ≠ nI (ins b w i) k → del (ins b w i) k = w
  | [], b, i, k, _, h, _, _ => by simp at h
  | a :: t, b, 0, 0, _, _, _, _ => rfl
  | a :: t, b, 0, k + 1, _, hk, he, hn => by
    have e0 : a = b := he 0 (by omega)
    subst e0
    have ih := om_del t a 0 k (by omega) (by simpa using hk) (fun j hj => by
      have := he (j + 1) (by omega)
      rw [nI_s, ins_0, nI_s] at this
      rw [ins_0]; exact this) (by
        rw [nI_s, ins_0, nI_s] at hn
        rw [ins_0]; exact hn)
    show a :: del (a :: t) k = a :: t
    rw [ins_0] at ih
    rw [ih]
  | a :: t, b, i + 1, 0, _, _, _, hn => absurd rfl hn
  | a :: t, b, i + 1, k + 1, hi, hk, he, hn => by
    have ih := om_del t b i k (by simpa using hi) (by simpa using hk) (fun j hj => he (j + 1) (by omega)) hn
    show a :: del (ins b t i) k = a :: t
    rw [ih]
end VT
/-! RUN2: where a letter's run begins and ends; the same word by a loss anywhere in the run. -/
namespace RN
open VT DL
def lo (w : List Int) (c : Int) : Nat → Nat
  | 0 => 0
  | i + 1 => if nI w i = c then lo w c i else i + 1
/-- k letters are left behind place i -/
def hi (w : List Int) (c : Int) : Nat → Nat → Nat
  | 0, i => i
  | k + 1, i => if nI w (i + 1) = c then hi w c k (i + 1) else i
def loW (w : List Int) (i : Nat) : Nat := lo w (nI w i) i
def hiW (w : List Int) (i : Nat) : Nat := hi w (nI w i) (w.length - 1 - i) i
theorem lo_le (w : List Int) (c : Int) : ∀ i, lo w c i ≤ i
  | 0 => Nat.le_refl _
  | i + 1 => by unfold lo; split; · have := lo_le w c i; omega
                · omega
theorem hi_ge (w : List Int) (c : Int) : ∀ k i, i ≤ hi w c k i ∧ hi w c k i ≤ i + k
  | 0, i => ⟨Nat.le_refl _, Nat.le_refl _⟩
  | k + 1, i => by unfold hi; split; · have := hi_ge w c k (i + 1); omega
                   · omega
theorem lo_eq (w : List Int) (c : Int) : ∀ i t, lo w c i ≤ t → t < i → nI w t = c
  | 0, t, _, h => by omega
  | i + 1, t, h, h2 => by
    unfold lo at h; split at h
    · rename_i e
      by_cases q : t = i
      · rw [q]; exact e
      · exact lo_eq w c i t h (by omega)
    · omega
theorem hi_eq (w : List Int) (c : Int) : ∀ k i t, i < t → t ≤ hi w c k i → nI w t = c
  | 0, i, t, h, h2 => by unfold hi at h2; omega
  | k + 1, i, t, h, h2 => by
    unfold hi at h2; split at h2
    · rename_i e
      by_cases q : t = i + 1
      · rw [q]; exact e
      · exact hi_eq w c k (i + 1) t (by omega) h2
    · omega
theorem lo_run (w : List Int) (c : Int) (i : Nat) : ∀ j, i ≤ j → (∀ t, i ≤ t → t < j → nI w t = c) → lo w c j = lo w c i
  | 0, h, _ => by rw [show i = 0 by omega]
  | j + 1, h, hh => by
    by_cases q : i = j + 1
    · rw [q]
    · have e : lo w c (j + 1) = lo w c j := by
        show (if nI w j = c then lo w c j else j + 1) = _
        rw [if_pos (hh j (by omega) (by omega))]
      rw [e]
      exact lo_run w c i j (by omega) fun t h1 h2 => hh t h1 (by omega)
theorem hi_run (w : List Int) (c : Int) : ∀ k i j, i ≤ j → j ≤ i + k → (∀ t, i < t → t ≤ j → nI w t = c) → hi w c k i = hi w c (k - (j - i)) j
  | 0, i, j, h, h1, _ => by rw [show j = i by omega]; simp
  | k + 1, i, j, h, h1, hh => by
    by_cases q : i = j
    · rw [q]; congr 1; omega
    · have e : hi w c (k + 1) i = hi w c k (i + 1) := by
        show (if nI w (i + 1) = c then hi w c k (i + 1) else i) = _
        rw [if_pos (hh (i + 1) (by omega) (by omega))]
      rw [e, hi_run w c k (i + 1) j (by omega) (by omega) fun t h1 h2 => hh t (by omega) h2]
      congr 1; omega
/-- equal losses: one run -/
theorem del_run : ∀ (w : List Int) (i j : Nat), i ≤ j → j < w.length → del w i = del w j → ∀ t, i ≤ t → t < j → nI w t = nI w (t + 1)
  | [], i, j, _, h, _, _, _, _ => by simp at h
  | a :: w, i, 0, hij, h, e, t, h1, h2 => by omega
  | a :: w, 0, j + 1, hij, h, e, t, h1, h2 => by
    have e : w = a :: del w j := e
    cases w with
    | nil => simp at h
    | cons b w =>
      have hb : b = a := by have := congrArg List.head? e; simpa using this
      subst hb
      have e2 : w = del (b :: w) j := by have := congrArg List.tail e; simpa using this
      cases t with
      | zero => rfl
      | succ t => exact del_run (b :: w) 0 j (by omega) (by simpa using h) (by show w = _; exact e2) t (by omega) (by omega)
  | a :: w, i + 1, j + 1, hij, h, e, t, h1, h2 => by
    have e : a :: del w i = a :: del w j := e
    cases t with
    | zero => omega
    | succ t => exact del_run w i j (by omega) (by simpa using h) (by simpa using e) t (by omega) (by omega)
theorem run_del : ∀ (w : List Int) (i j : Nat), i ≤ j → j < w.length → (∀ t, i ≤ t → t < j → nI w t = nI w (t + 1)) → del w i = del w j
  | [], i, j, _, h, _ => by simp at h
  | a :: w, i, 0, hij, h, e => by rw [show i = 0 by omega]
  | a :: w, 0, j + 1, hij, h, e => by
    show w = a :: del w j
    cases w with
    | nil => simp at h
    | cons b w =>
      have hb : a = b := e 0 (by omega) (by omega)
      have := run_del (b :: w) 0 j (by omega) (by simpa using h) fun t h1 h2 => e (t + 1) (by omega) (by omega)
      rw [← this, hb]; rfl
  | a :: w, i + 1, j + 1, hij, h, e => by
    show a :: del w i = a :: del w j
    rw [run_del w i j (by omega) (by simpa using h) fun t h1 h2 => e (t + 1) (by omega) (by omega)]
theorem const_of {w : List Int} {i j : Nat} (h : ∀ t, i ≤ t → t < j → nI w t = nI w (t + 1)) : ∀ t, i ≤ t → t ≤ j → nI w t = nI w i := fun t h1 => by
  induction t with
  | zero => intro _; rw [show i = 0 by omega]
  | succ t ih =>
    intro h2
    by_cases q : i = t + 1
    · rw [q]
    · rw [← h t (by omega) (by omega)]; exact ih (by omega) (by omega)
/-- equal losses have one run -/
theorem ends_le {w : List Int} {i j : Nat} (hij : i ≤ j) (hj : j < w.length) (e : del w i = del w j) : loW w i = loW w j ∧ hiW w i = hiW w j := by
  have c := const_of (del_run w i j hij hj e)
  have cj := c j hij (Nat.le_refl _)
  unfold loW hiW
  rw [cj]
  refine ⟨(lo_run w _ i j hij fun t h1 h2 => c t h1 (by omega)).symm, ?_⟩
  rw [hi_run w _ (w.length - 1 - i) i j hij (by omega) fun t h1 h2 => c t (by omega) h2]
  congr 1; omega
theorem ends_eq {w : List Int} {i j : Nat} (hi : i < w.length) (hj : j < w.length) (e : del w i = del w j) : loW w i = loW w j ∧ hiW w i = hiW w j := by
  rcases Nat.le_total i j with h | h
  · exact ends_le h hj e
  · have := ends_le h hi e.symm
    exact ⟨this.1.symm, this.2.symm⟩
/-- a loss at the run's ends -/
theorem lo_del {w : List Int} {i : Nat} (hi : i < w.length) : loW w i ≤ i ∧ del w (loW w i) = del w i := by
  have h := lo_le w (nI w i) i
  refine ⟨h, run_del w _ i h hi fun t h1 h2 => ?_⟩
  rw [lo_eq w _ i t h1 h2]
  by_cases q : t + 1 = i
  · rw [q]
  · exact (lo_eq w _ i (t + 1) (by unfold loW at h1; omega) (by omega)).symm
theorem hi_del {w : List Int} {i : Nat} (hi : i < w.length) : i ≤ hiW w i ∧ hiW w i < w.length ∧ del w (hiW w i) = del w i := by
  have h := hi_ge w (nI w i) (w.length - 1 - i) i
  have hl : hiW w i < w.length := by unfold hiW; omega
  refine ⟨h.1, hl, (run_del w i _ h.1 hl fun t h1 h2 => ?_).symm⟩
  have e1 : nI w (t + 1) = nI w i := hi_eq w _ _ i (t + 1) (by omega) h2
  by_cases q : t = i
  · rw [q] at e1 ⊢; exact e1.symm
  · rw [e1]; exact hi_eq w _ _ i t (by omega) (Nat.le_of_lt h2)
/-- turn by turn, down and up -/
def dn (w : List Int) (c : Int) (l : Nat) : Nat := if 0 < l ∧ nI w (l - 1) = c then l - 1 else l
def up (w : List Int) (c : Int) (h : Nat) : Nat := if h + 1 < w.length ∧ nI w (h + 1) = c then h + 1 else h
def iter (f : Nat → Nat) : Nat → Nat → Nat
  | 0, x => x
  | n + 1, x => iter f n (f x)
theorem iter_s (f : Nat → Nat) : ∀ n x, iter f (n + 1) x = f (iter f n x)
  | 0, x => rfl
  | n + 1, x => by show iter f (n + 1) (f x) = f (iter f n (f x)); exact iter_s f n (f x)
theorem iter_fix {f : Nat → Nat} {x : Nat} (h : f x = x) : ∀ n, iter f n x = x
  | 0 => rfl
  | n + 1 => by show iter f n (f x) = x; rw [h]; exact iter_fix h n
theorem lo_s (w : List Int) (c : Int) (l : Nat) : lo w c (l + 1) = if nI w l = c then lo w c l else l + 1 := rfl
theorem hi_s (w : List Int) (c : Int) (k i : Nat) : hi w c (k + 1) i = if nI w (i + 1) = c then hi w c k (i + 1) else i := rfl
theorem dn_le (w : List Int) (c : Int) (l : Nat) : dn w c l ≤ l := by unfold dn; split <;> omega
theorem iter_dn_le (w : List Int) (c : Int) (l : Nat) : ∀ n, iter (dn w c) n l ≤ l
  | 0 => Nat.le_refl _
  | n + 1 => by rw [iter_s]; exact Nat.le_trans (dn_le w c _) (iter_dn_le w c l n)
theorem iter_dn (w : List Int) (c : Int) : ∀ l n, l ≤ n → iter (dn w c) n l = lo w c l
  | 0, n, _ => iter_fix (by unfold dn; rw [if_neg (by omega)]) n
  | l + 1, 0, h => by omega
  | l + 1, n + 1, h => by
    show iter (dn w c) n (dn w c (l + 1)) = (if nI w l = c then lo w c l else l + 1)
    by_cases q : nI w l = c
    · have e : dn w c (l + 1) = l := by unfold dn; rw [if_pos ⟨by omega, q⟩]; rfl
      rw [e, if_pos q]; exact iter_dn w c l n (by omega)
    · have e : dn w c (l + 1) = l + 1 := by unfold dn; rw [if_neg fun z => q z.2]
      rw [e, if_neg q]; exact iter_fix e n
theorem iter_up (w : List Int) (c : Int) : ∀ k i n, i + k + 1 = w.length → k ≤ n → iter (up w c) n i = hi w c k i
  | 0, i, n, hl, _ => iter_fix (by unfold up; rw [if_neg (by omega)]) n
  | k + 1, i, 0, _, h => by omega
  | k + 1, i, n + 1, hl, h => by
    show iter (up w c) n (up w c i) = (if nI w (i + 1) = c then hi w c k (i + 1) else i)
    by_cases q : nI w (i + 1) = c
    · have e : up w c i = i + 1 := by unfold up; rw [if_pos ⟨by omega, q⟩]
      rw [e, if_pos q]; exact iter_up w c k (i + 1) n (by omega) (by omega)
    · have e : up w c i = i := by unfold up; rw [if_neg fun z => q z.2]
      rw [e, if_neg q]; exact iter_fix e n
end RN
/-! WDS: all words of a length. -/
namespace WD
open DL VT
/-- one more letter behind each -/
def more (q : Nat) (l : List (List Int)) : List (List Int) := (l.map fun w => (List.range q).map fun a : Nat => w ++ [(a : Int)]).flatten
def words (q : Nat) : Nat → List (List Int)
  | 0 => [[]]
  | n + 1 => more q (words q n)
theorem mem_more {q : Nat} {l : List (List Int)} {u : List Int} : u ∈ more q l ↔ ∃ w ∈ l, ∃ a : Nat, a < q ∧ u = w ++ [(a : Int)] := by
  unfold more
  simp only [List.mem_flatten, List.mem_map]
  constructor
  · rintro ⟨x, ⟨w, hw, rfl⟩, hu⟩
    obtain ⟨a, ha, rfl⟩ := List.mem_map.mp hu
    exact ⟨w, hw, a, List.mem_range.mp ha, rfl⟩
  · rintro ⟨w, hw, a, ha, rfl⟩
    exact ⟨_, ⟨w, hw, rfl⟩, List.mem_map.mpr ⟨a, List.mem_range.mpr ha, rfl⟩⟩
theorem mem_words {q : Nat} : ∀ {n : Nat} {u : List Int}, u ∈ words q n ↔ u.length = n ∧ ∀ x ∈ u, 0 ≤ x ∧ x < q
  | 0, u => by
    show u ∈ [[]] ↔ _
    rw [List.mem_singleton]
    constructor
    · rintro rfl; exact ⟨rfl, fun _ h => nomatch h⟩
    · rintro ⟨h, _⟩; exact List.length_eq_zero_iff.mp h
  | n + 1, u => by
    show u ∈ more q (words q n) ↔ _
    rw [mem_more]
    constructor
    · rintro ⟨w, hw, a, ha, rfl⟩
      obtain ⟨h1, h2⟩ := mem_words.mp hw
      refine ⟨by simp [h1], fun x hx => ?_⟩
      rcases List.mem_append.mp hx with hx | hx
      · exact h2 x hx
      · rw [List.mem_singleton.mp hx]; omega
    · rintro ⟨h1, h2⟩
      have hne : u ≠ [] := fun e => by rw [e] at h1; cases h1
      have hl := h2 (u.getLast hne) (List.getLast_mem hne)
      refine ⟨u.dropLast, mem_words.mpr ⟨by simp [h1], fun x hx => h2 x (List.dropLast_subset u hx)⟩, (u.getLast hne).toNat, by omega, ?_⟩
      rw [Int.toNat_of_nonneg hl.1, List.dropLast_concat_getLast hne]
theorem flat_len {α : Type} {q : Nat} : ∀ {l : List (List α)}, (∀ x ∈ l, x.length = q) → l.flatten.length = q * l.length
  | [], _ => by simp
  | x :: l, h => by rw [List.flatten_cons, List.length_append, h x (List.mem_cons_self ..), flat_len fun y hy => h y (List.mem_cons_of_mem _ hy), List.length_cons, Nat.mul_succ]; omega
theorem more_len {q : Nat} (l : List (List Int)) : (more q l).length = q * l.length := by
  unfold more
  rw [flat_len (q := q) fun x hx => by obtain ⟨w, _, rfl⟩ := List.mem_map.mp hx; simp]
  simp
theorem words_len {q : Nat} : ∀ n, (words q n).length = q ^ n
  | 0 => rfl
  | n + 1 => by show (more q (words q n)).length = _; rw [more_len, words_len n, Nat.pow_succ, Nat.mul_comm]
theorem words_bin {n : Nat} {u : List Int} (h : u ∈ words 2 n) : u.length = n ∧ Bin u := by
  obtain ⟨a, b⟩ := mem_words.mp h
  exact ⟨a, fun x hx => by have := b x hx; omega⟩
theorem bin_words {u : List Int} (h : Bin u) : u ∈ words 2 u.length := mem_words.mpr ⟨rfl, fun x hx => by have := h x hx; omega⟩
theorem tupI_snoc (w : List Int) (a : Int) : addA (tupI w) (.tup [.int a]) = some (tupI (w ++ [a])) ∨ 16777216 < w.length + 1 := by
  by_cases h : w.length + 1 ≤ 16777216
  · left
    show addA (.tup (w.map D.int)) (.tup ([a].map D.int)) = _
    rw [add_tt (by simpa using h), ← List.map_append]; rfl
  · right; omega
end WD
namespace WD
open DL VT
theorem range_cast_nd (q : Nat) : (List.range q).Pairwise fun a b : Nat => a ≠ b := List.nodup_range
theorem words_nd (q : Nat) : ∀ n, (words q n).Pairwise fun a b => a ≠ b
  | 0 => List.pairwise_singleton _ _
  | n + 1 => by
    show (more q (words q n)).Pairwise _
    unfold more
    rw [List.pairwise_flatten]
    refine ⟨fun l hl => ?_, ?_⟩
    · obtain ⟨w, _, rfl⟩ := List.mem_map.mp hl
      rw [List.pairwise_map]
      refine (range_cast_nd q).imp fun {a b} h e => h ?_
      have := (List.append_cancel_left e)
      simp at this; omega
    · rw [List.pairwise_map]
      refine (words_nd q n).imp fun {a b} h x hx y hy e => h ?_
      obtain ⟨i, _, rfl⟩ := List.mem_map.mp hx
      obtain ⟨j, _, rfl⟩ := List.mem_map.mp hy
      exact (List.append_inj' e rfl).1
/-- an item does not stand before itself -/
theorem nd_take {α : Type} {l : List α} (h : l.Pairwise fun a b => a ≠ b) {j : Nat} (hj : j < l.length) : l[j] ∉ l.take j := fun hm => by
  obtain ⟨i, hi, e⟩ := List.getElem_of_mem hm
  have hi : i < j := by simp at hi; omega
  rw [List.getElem_take] at e
  exact List.pairwise_iff_getElem.mp h i j (by omega) hj hi e
end WD
namespace Lk71
open PySem DL L2
theorem is_whole_int (n lo hi : Int) : F_is_whole [.int n, .int lo, .int hi] = .rt (.bl (decide (lo ≤ n) && decide (n ≤ hi))) [] := by
  simp [F_is_whole, m_is_whole]
  by_cases h : n < lo
  · simp [h, Int.not_le.mpr h]
  · simp [h, Int.not_lt.mp h]
noncomputable def mixV (a b : Int) : Int := match F__law_mixed [.int a, .int b] with
  | .rt (.int r) _ => r
  | _ => 0
theorem mixed_ok {a b : Int} (ha : 0 ≤ a) (ha2 : a < 4294967296) (hb : 0 ≤ b) (hb2 : b < 4294967296) : F__law_mixed [.int a, .int b] = .rt (.int (mixV a b)) [] := by
  have h : ∃ r, F__law_mixed [.int a, .int b] = .rt (.int r) [] := by simp (disch := omega) [F__law_mixed, m__law_mixed]
  obtain ⟨r, h⟩ := h
  simp only [mixV, h]
theorem take_ok {h : D} (hh : HandOk h) {many : Int} (h1 : 1 ≤ many) (h2 : many < 4294967296) : ∃ r h', F__law_take [h, .int many] = .rt (.int r) [h'] ∧ HandOk h' ∧ 0 ≤ r ∧ r < many := by
  obtain ⟨cells, i, c, t, rfl, hi0, hil, hc, c0, t0, t1, hl⟩ := hh.ex
  have fin : ∀ r : Int, 0 ≤ r % many ∧ r % many < many := fun r => ⟨Int.emod_nonneg _ (by omega), Int.emod_lt_of_pos _ (by omega)⟩
  have dv : ∀ r : Int, 0 ≤ r → 0 ≤ r / many := fun r h => Int.ediv_nonneg h (by omega)
  by_cases hc0 : c = 0
  · subst hc0
    by_cases hi : i < cells.length
    · obtain ⟨x, hx, hx0⟩ : ∃ x, atI (cells.map D.int) i = some (.int x) ∧ 0 ≤ x := by
        have hlt : i.toNat < cells.length := by omega
        exact ⟨cells[i.toNat], atI_of hi0 (by rw [List.getElem?_map, List.getElem?_eq_getElem hlt]; rfl), hc _ (List.getElem_mem hlt)⟩
      by_cases hx1 : x < 1000000000000000000
      · simp (disch := omega) [F__law_take, m__law_take, hD, hi, hx, hx1, mixed_ok, fin]
        exact ⟨_, _, ⟨rfl, rfl⟩, ⟨⟨_, _, _, _, rfl, by omega, by omega, hc, by omega, by omega, by omega, hl⟩⟩, (fin _).1, (fin _).2⟩
      · have hx2 : 0 < x := by omega
        simp (disch := omega) [F__law_take, m__law_take, hD, hi, hx, hx1, hx2, mixed_ok, fin]
        exact ⟨_, _, ⟨rfl, rfl⟩, ⟨⟨_, _, _, _, rfl, by omega, by omega, hc, dv _ hx0, by omega, by omega, hl⟩⟩, (fin _).1, (fin _).2⟩
    · simp (disch := omega) [F__law_take, m__law_take, hD, hi, mixed_ok, fin]
      exact ⟨_, _, ⟨rfl, rfl⟩, ⟨⟨_, _, _, _, rfl, by omega, by omega, hc, by omega, by omega, by omega, hl⟩⟩, (fin _).1, (fin _).2⟩
  · have hc1 : 0 < c := by omega
    simp (disch := omega) [F__law_take, m__law_take, hD, hc0, hc1, mixed_ok, fin]
    exact ⟨_, _, ⟨rfl, rfl⟩, ⟨⟨_, _, _, _, rfl, by omega, by omega, hc, dv _ c0, by omega, by omega, hl⟩⟩, (fin _).1, (fin _).2⟩
theorem hand_ok (ns : List Int) (hl : ns.length ≤ 63) : ∃ h, F__law_hand [.lst (ns.map D.int)] = .rt h [] ∧ HandOk h := by
  obtain ⟨Γe, h1, cells, t, x, rfl, h2, h3, h4, h5⟩ := forD_inv (g := gN 3) (body := m__law_hand_b1) (ns.map D.int)
    (fun i Γ => ∃ (cells : List Int) (t : Int) (x : Option D), Γ = [some (.lst (ns.map D.int)), some (.int t), some (.lst (cells.map D.int)), x] ∧ cells.length = i ∧ (∀ x ∈ cells, 0 ≤ x) ∧ 0 ≤ t ∧ t < 4294967296) (fun i d Γ hd ⟨cells, t, x, e, h2, h3, h4, h5⟩ => by
      subst e
      have hi : i < ns.length := by have := (List.getElem?_eq_some_iff.mp hd).1; simpa using this
      rw [List.getElem?_map, List.getElem?_eq_getElem hi] at hd
      cases hd
      generalize ns[i] = a
      simp (disch := first | omega | (simp; omega)) [m__law_hand_b1]
      refine ⟨cells ++ [if a < 0 then -a else a], _, ⟨rfl, by simp⟩, by simp [h2], fun y hy => ?_, by omega, by omega⟩
      rw [List.mem_append, List.mem_singleton] at hy
      rcases hy with hy | hy
      · exact h3 y hy
      · rw [hy]; split <;> omega) _ ⟨[], (ns.length : Int) + 43, none, rfl, rfl, (fun _ h => nomatch h), by omega, by omega⟩
  have h1 : forD (gN 3) m__law_hand_b1 (ns.map D.int) [some (.lst (ns.map D.int)), some (.int ((ns.length : Int) + 43)), some (.lst []), none] = _ := h1
  simp at h2
  simp [F__law_hand, m__law_hand, mFor, h1]
  exact ⟨⟨cells, 0, 0, t, rfl, by omega, by omega, h3, by omega, h4, h5, by omega⟩⟩
end Lk71
namespace Lk71
open PySem DL L2
theorem is_whole_d {d : D} (h : Kn d) (lo hi : Int) : F_is_whole [d, .int lo, .int hi] = .rt (.bl (wholeB lo hi d)) [] := by
  cases d with
  | int n =>
    simp [F_is_whole, m_is_whole]
    by_cases h : n < lo
    · simp [h, Int.not_le.mpr h]
    · simp [h, Int.not_lt.mp h]
  | non => simp [F_is_whole, m_is_whole]
  | bl b => simp [F_is_whole, m_is_whole]
  | str b => simp [F_is_whole, m_is_whole]
  | tup b => simp [F_is_whole, m_is_whole]
  | lst b => simp [F_is_whole, m_is_whole]
  | dct b => simp [F_is_whole, m_is_whole]
  | dtt b => simp [F_is_whole, m_is_whole]
  | _ => simp [Kn, tgD] at h
theorem whole_d {d : D} (h : Kn d) : F__law_whole [d] = .rt (.bl (isIntD d)) [] := by
  cases d with
  | int n => simp [F__law_whole, m__law_whole]
  | non => simp [F__law_whole, m__law_whole]
  | bl b => simp [F__law_whole, m__law_whole]
  | str b => simp [F__law_whole, m__law_whole]
  | tup b => simp [F__law_whole, m__law_whole]
  | lst b => simp [F__law_whole, m__law_whole]
  | dct b => simp [F__law_whole, m__law_whole]
  | dtt b => simp [F__law_whole, m__law_whole]
  | _ => simp [Kn, tgD] at h
theorem chkloop {q most : Int} {d : D} {ds : List D} (hk : ∀ e ∈ ds, Kn e) : ∃ Γe, forD (gT (gsCons (gN 3) (gsCons (gN 4) gsNil))) m_check_word_b1 (enumI 0 ds) [some (.int q), some d, some (.int most), none, none] =
    endN (fun i Γ => .ex ⟨"BadWord", [("index", .int (i : Int))]⟩ Γ) (badW q ds) Γe ∧ (badW q ds = none → ∃ x y, Γe = [some (.int q), some d, some (.int most), x, y]) := by
  rw [enum_range0]
  exact forD_firstN (g := gT (gsCons (gN 3) (gsCons (gN 4) gsNil))) (body := m_check_word_b1) (fun j => .tup [.int (j : Int), atD ds j]) (fun k => !wholeB 0 (q - 1) (atD ds k))
    (fun k Γ => .ex ⟨"BadWord", [("index", .int (k : Int))]⟩ Γ) (fun _ _ => .ex _ _) (fun _ Γ => ∃ x y, Γ = [some (.int q), some d, some (.int most), x, y]) ds.length 0 _ ⟨none, none, rfl⟩ (fun j Γ _ hj ⟨x, y, e⟩ => by
      subst e
      have hm : Kn (atD ds j) := hk _ (getD_mem (by omega))
      refine ⟨[some (.int q), some d, some (.int most), some (.int (j : Int)), some (atD ds j)], by simp, fun hp => ⟨[some (.int q), some d, some (.int most), some (.int (j : Int)), some (atD ds j)], ?_⟩, fun hp => ⟨[some (.int q), some d, some (.int most), some (.int (j : Int)), some (atD ds j)], .inl ?_, _, _, rfl⟩⟩
      · have hw : wholeB 0 (q - 1) (atD ds j) = false := by simpa using hp
        simp [m_check_word_b1, is_whole_d hm, hw]
      · have hw : wholeB 0 (q - 1) (atD ds j) = true := by simpa using hp
        simp [m_check_word_b1, is_whole_d hm, hw])
theorem check_word_d {q most : Int} {d : D} (h : KnW d) : F_check_word [.int q, d, .int most] = wordR d (dueW q most d) := by
  have row : ∀ ds : List D, (∀ e ∈ ds, Kn e) → ∀ d : D, isi2D .lst .tup d = some (.bl true) → lenD d = some (.int ds.length) → itemsX d = some ds → tupleD d = some (.tup ds) → rowD d = some ds → F_check_word [.int q, d, .int most] = wordR d (dueW q most d) := fun ds hk d e1 e2 e3 e4 e5 => by
    by_cases hl : most < ds.length
    · have hw : dueW q most d = some (-1) := by unfold dueW; rw [e5]; exact if_pos hl
      simp [F_check_word, m_check_word, e1, e2, hl, hw]
    · have hw : dueW q most d = (badW q ds).map fun i : Nat => (i : Int) := by unfold dueW; rw [e5]; exact if_neg hl
      obtain ⟨Γe, h1, h2⟩ := chkloop (q := q) (most := most) (d := d) hk
      rw [hw]
      cases hb : badW q ds with
      | some i =>
        rw [hb] at h1
        simp [F_check_word, m_check_word, e1, e2, hl, e3, h1]
      | none =>
        rw [hb] at h1
        obtain ⟨x, y, e⟩ := h2 hb
        subst e
        simp [F_check_word, m_check_word, e1, e2, hl, e3, h1, e4, e5]
  cases d with
  | tup ds => exact row ds (h.ks ds rfl) _ rfl rfl rfl rfl rfl
  | lst ds => exact row ds (h.ks ds rfl) _ rfl rfl rfl rfl rfl
  | int n => simp [F_check_word, m_check_word, dueW]
  | non => simp [F_check_word, m_check_word, dueW]
  | bl b => simp [F_check_word, m_check_word, dueW]
  | str b => simp [F_check_word, m_check_word, dueW]
  | dct b => simp [F_check_word, m_check_word, dueW]
  | dtt b => simp [F_check_word, m_check_word, dueW]
  | _ => exact absurd h.k (by simp [Kn, tgD])
end Lk71
namespace Lk71
open PySem DL L2 VT
theorem take_succ_nI {w : List Int} {k : Nat} (hk : k < w.length) : w.take (k + 1) = w.take k ++ [nI w k] := take_at hk
theorem sum_places_d {w : List Int} (hw : Bin w) (hl : w.length ≤ 100000) : F_sum_places [.tup (w.map D.int)] = .rt (.int (vt 1 w)) [] := by
  obtain ⟨Γe, h1, h2⟩ := forD_firstN (g := gT (gsCons (gN 2) (gsCons (gN 3) gsNil))) (body := m_sum_places_b1) (fun j => .tup [.int (j : Int), atD (w.map D.int) j]) (fun _ => false) (fun _ Γ => .rt .non Γ) (fun _ _ => .rt _ _)
    (fun k Γ => ∃ x y, Γ = [some (.tup (w.map D.int)), some (.int (vt 1 (w.take k))), x, y]) w.length 0 [some (.tup (w.map D.int)), some (.int 0), none, none] ⟨none, none, rfl⟩ (fun j Γ _ hj ⟨x, y, e⟩ => by
      subst e
      have hj : j < w.length := by omega
      have e1 : atD (w.map D.int) j = .int (nI w j) := getD_int hj
      refine ⟨[some (.tup (w.map D.int)), some (.int (vt 1 (w.take j))), some (.int (j : Int)), some (.int (nI w j))], by simp [e1], (fun z => nomatch z), fun _ => ⟨[some (.tup (w.map D.int)), some (.int (vt 1 (w.take (j + 1)))), some (.int (j : Int)), some (.int (nI w j))], .inl ?_, _, _, rfl⟩⟩
      have lt : (w.take j).length = j := by rw [List.length_take]; omega
      rw [take_at hj, vt_snoc, lt, Int.add_comm 1 (j : Int)]
      have nb := nI_bin hw hj
      simp (disch := omega) [m_sum_places_b1])
  have hn : firstN (fun _ => false) 0 w.length = none := firstN_none.mpr fun _ _ _ => rfl
  rw [hn] at h1
  obtain ⟨x, y, e⟩ := h2 hn
  subst e
  rw [Nat.zero_add, List.take_length] at h1
  have h1 : forD (gT (gsCons (gN 2) (gsCons (gN 3) gsNil))) m_sum_places_b1 (enumI 0 (w.map D.int)) [some (.tup (w.map D.int)), some (.int 0), none, none] = .nx [some (.tup (w.map D.int)), some (.int (vt 1 w)), x, y] := by
    rw [enum_range0, List.length_map]; exact h1
  simp [F_sum_places, m_sum_places, h1]
theorem check2 {w : List Int} {b : Int} (hw : Bin w) (hl : (w.length : Int) ≤ b) : F_check_word [.int 2, .tup (w.map D.int), .int b] = .rt (.tup (w.map D.int)) [] ∧ F_check_word [.int 2, .lst (w.map D.int), .int b] = .rt (.tup (w.map D.int)) [] := by
  have d := due_good (q := 2) (b := b) (w := w) (fun x hx => by rcases hw x hx with h | h <;> omega) hl
  exact ⟨by rw [check_word_d knw_ints.1, d.1]; rfl, by rw [check_word_d knw_ints.2, d.2]; rfl⟩
theorem lifting_step_d {w : List Int} {a : Int} (hw : Bin w) (hl : w.length ≤ 100000) (h0 : 0 ≤ a) (h1 : a ≤ w.length + 1) : ∃ (k : Nat) (b : Int), k ≤ w.length ∧ (b = 0 ∨ b = 1) ∧ dlt 1 w k b = a ∧ F_lifting_step [.tup (w.map D.int), .int a] = .rt (.tup [.int (k : Int), .int b]) [] := by
  have so : sumD (.tup (w.map D.int)) = some (.int (ones w)) := by rw [sum_t, ones_sum]
  by_cases c : a ≤ ones w
  · -- backwards
    have loop : ∀ (k : Nat), k ≤ w.length → 0 ≤ a - ones (w.drop k) → ∃ k' : Nat, k' ≤ w.length ∧ ones (w.drop k') = a ∧
        mWhile m_lifting_step_t2 m_lifting_step_b1 [some (.tup (w.map D.int)), some (.int a), some (.int (ones w)), some (.int (k : Int)), some (.int (a - ones (w.drop k)))] = .nx [some (.tup (w.map D.int)), some (.int a), some (.int (ones w)), some (.int (k' : Int)), some (.int 0)] := by
      intro k
      induction k with
      | zero =>
        intro _ hn
        rw [List.drop_zero] at hn ⊢
        have e : ones w = a := by omega
        refine ⟨0, by omega, by rw [List.drop_zero]; exact e, ?_⟩
        rw [show a - ones w = 0 by omega]
        exact mWhile_stop (by simp [m_lifting_step_t2])
      | succ k ih =>
        intro hk hn
        by_cases z : a - ones (w.drop (k + 1)) = 0
        · refine ⟨k + 1, hk, by omega, ?_⟩
          rw [z]
          exact mWhile_stop (by simp [m_lifting_step_t2])
        · have hk' : k < w.length := by omega
          have ed : ones (w.drop k) = nI w k + ones (w.drop (k + 1)) := by rw [drop_at hk']; rfl
          have b := nI_bin hw hk'
          obtain ⟨k', h2, h3, h4⟩ := ih (by omega) (by omega)
          refine ⟨k', h2, h3, ?_⟩
          have pos : ones (w.drop (k + 1)) < a := by omega
          have ea := at_nI (w := w) (k := k) hk'
          rw [mWhile_step (Γ1 := [some (.tup (w.map D.int)), some (.int a), some (.int (ones w)), some (.int ((k + 1 : Nat) : Int)), some (.int (a - ones (w.drop (k + 1))))]) (Γ2 := [some (.tup (w.map D.int)), some (.int a), some (.int (ones w)), some (.int (k : Int)), some (.int (a - ones (w.drop k)))]) (by simp [m_lifting_step_t2, pos]) (by
            have e1 : ((k + 1 : Nat) : Int) - 1 = k := by omega
            simp only [Int.natCast_add, Int.natCast_one] at e1
            simp [m_lifting_step_b1, e1, ea]
            omega), h4]
    obtain ⟨k, h2, h3, h4⟩ := loop w.length (Nat.le_refl _) (by rw [List.drop_length]; simpa [ones] using h0)
    refine ⟨k, 0, h2, .inl rfl, by rw [dlt_spec _ _ _ _ h2, h3]; simp, ?_⟩
    rw [List.drop_length, show a - ones [] = a by simp [ones]] at h4
    simp [F_lifting_step, m_lifting_step, so, c, h4]
  · have tk : ∀ k : Nat, 0 ≤ ones (w.take k) := fun k => (ones_nn _ (bin_take hw k)).1
    have loop : ∀ (m k : Nat), k + m = w.length → 0 ≤ a - ones w - 1 - (k - ones (w.take k)) → ∃ k' : Nat, k' ≤ w.length ∧ a - ones w - 1 - (k' - ones (w.take k')) = 0 ∧
        mWhile m_lifting_step_t4 m_lifting_step_b3 [some (.tup (w.map D.int)), some (.int a), some (.int (ones w)), some (.int (k : Int)), some (.int (a - ones w - 1 - (k - ones (w.take k))))] = .nx [some (.tup (w.map D.int)), some (.int a), some (.int (ones w)), some (.int (k' : Int)), some (.int 0)] := by
      intro m
      induction m with
      | zero =>
        intro k hk hn
        have ek : k = w.length := by omega
        have z : a - ones w - 1 - (k - ones (w.take k)) = 0 := by
          rw [ek, List.take_length] at hn ⊢
          omega
        refine ⟨k, by omega, z, ?_⟩
        rw [z]
        exact mWhile_stop (by simp [m_lifting_step_t4])
      | succ m ih =>
        intro k hk hn
        by_cases z : a - ones w - 1 - (k - ones (w.take k)) = 0
        · refine ⟨k, by omega, z, ?_⟩
          rw [z]
          exact mWhile_stop (by simp [m_lifting_step_t4])
        · have hk' : k < w.length := by omega
          have et : ones (w.take (k + 1)) = ones (w.take k) + nI w k := by rw [take_at hk', ones_app]; simp [ones]
          have b := nI_bin hw hk'
          obtain ⟨k', h2, h3, h4⟩ := ih (k + 1) (by omega) (by omega)
          refine ⟨k', h2, h3, ?_⟩
          have pos : (k : Int) - ones (w.take k) < a - ones w - 1 := by omega
          have ea := at_nI (w := w) (k := k) hk'
          rw [mWhile_step (Γ1 := [some (.tup (w.map D.int)), some (.int a), some (.int (ones w)), some (.int (k : Int)), some (.int (a - ones w - 1 - (k - ones (w.take k))))]) (Γ2 := [some (.tup (w.map D.int)), some (.int a), some (.int (ones w)), some (.int ((k + 1 : Nat) : Int)), some (.int (a - ones w - 1 - (((k + 1 : Nat) : Int) - ones (w.take (k + 1)))))]) (by simp [m_lifting_step_t4, pos]) (by
            generalize hq : ones (w.take (k + 1)) = q at et
            simp [m_lifting_step_b3, ea]
            omega), h4]
    obtain ⟨k, h2, h3, h4⟩ := loop w.length 0 (by omega) (by simp [ones]; omega)
    have td := ones_take_drop w k
    refine ⟨k, 1, h2, .inr rfl, by rw [dlt_spec _ _ _ _ h2]; omega, ?_⟩
    rw [show a - ones w - 1 - (((0 : Nat) : Int) - ones (w.take 0)) = a - ones w - 1 by simp [ones]] at h4
    simp at h4
    simp [F_lifting_step, m_lifting_step, so, c, h4]
theorem lift_word_d {w : List Int} {a : Int} (hw : Bin w) (hl : w.length ≤ 100000) (h0 : 0 ≤ a) (h1 : a ≤ w.length + 1) : ∃ v, Lif w a v ∧ F_lift_word [.tup (w.map D.int), .int a] = .rt (.tup (v.map D.int)) [] := by
  obtain ⟨k, b, hk, hb, e, h⟩ := lifting_step_d hw hl h0 h1
  refine ⟨ins b w k, ⟨k, b, hk, hb, e, rfl⟩, ?_⟩
  have e1 : cutL (w.map D.int) none (some (k : Int)) = (w.take k).map D.int := by rw [cut_map, cut_to (by omega)]; rfl
  have e2 : cutL (w.map D.int) (some (k : Int)) none = (w.drop k).map D.int := by rw [cut_map, cut_from (by omega)]; rfl
  have e3 : addA (.tup ((w.take k).map D.int)) (.tup [.int b]) = some (.tup ((w.take k ++ [b]).map D.int)) := by
    rw [add_tt (by simp; omega), List.map_append]; rfl
  have e4 : addA (.tup ((w.take k ++ [b]).map D.int)) (.tup ((w.drop k).map D.int)) = some (.tup ((ins b w k).map D.int)) := by
    rw [add_tt (by simp; omega), ← List.map_append, List.append_assoc, ins_split b w k hk]; rfl
  have u : mUnp (gT (gsCons (gN 2) (gsCons (gN 3) gsNil))) (mCall F_lifting_step [] [.e (mVar 0), .e (mVar 1)]) [some (.tup (w.map D.int)), some (.int a), none, none] = .nx [some (.tup (w.map D.int)), some (.int a), some (.int (k : Int)), some (.int b)] :=
    mUnp_of (d := .tup [.int (k : Int), .int b]) (Γ1 := [some (.tup (w.map D.int)), some (.int a), none, none]) (by simp [h]) (by simp)
  simp [F_lift_word, m_lift_word, u, e1, e2, e3, e4, -List.map_take, -List.map_drop, -List.map_append]
end Lk71
namespace Lk71
open PySem DL L2 VT RN
def SBk (n m r : Int) : D := .obj "SumBook" [("length", .int n), ("modulus", .int m), ("rest", .int r)]
@[simp] theorem sb_length (n m r : Int) : fldD dm_length "length" (SBk n m r) = some (.int n) := fld_o (by decide +kernel) rfl
@[simp] theorem sb_modulus (n m r : Int) : fldD dm_modulus "modulus" (SBk n m r) = some (.int m) := fld_o (by decide +kernel) rfl
@[simp] theorem sb_rest (n m r : Int) : fldD dm_rest "rest" (SBk n m r) = some (.int r) := fld_o (by decide +kernel) rfl
@[simp] theorem sb_full (n m r : Int) (Γ : Gm) : propO tp_is_full (SBk n m r) Γ = propR Γ (F_SumBook_is_full [SBk n m r]) := propO_c rfl
@[simp] theorem sb_put1 (s : Nat) (d : D) (Γ : Gm) : stF dm_length "length" s d Γ (some (some (.obj "SumBook" []))) = .nx (Γ.set s (some (.obj "SumBook" [("length", d)]))) := stF_of (by decide +kernel) (by simp) rfl
@[simp] theorem sb_put2 (s : Nat) (d e : D) (Γ : Gm) : stF dm_modulus "modulus" s d Γ (some (some (.obj "SumBook" [("length", e)]))) = .nx (Γ.set s (some (.obj "SumBook" [("length", e), ("modulus", d)]))) := stF_of (by decide +kernel) (by simp) rfl
@[simp] theorem sb_put3 (s : Nat) (n m r : Int) (Γ : Gm) : stF dm_rest "rest" s (.int r) Γ (some (some (.obj "SumBook" [("length", .int n), ("modulus", .int m)]))) = .nx (Γ.set s (some (SBk n m r))) := stF_of (by decide +kernel) (by simp) rfl
theorem init_d {n m r : Int} (h0 : 0 ≤ n) (h1 : n ≤ 200) (h2 : n + 1 ≤ m) (h3 : m ≤ 1000000) (h4 : 0 ≤ r) (h5 : r < m) : F_SumBook___init__ [.obj "SumBook" [], .int n, .int m, .int r] = .rt .non [SBk n m r] := by
  have a1 : F_is_whole [.int n, .int 0, .int 200] = .rt (.bl true) [] := by rw [is_whole_int]; simp [h0, h1]
  have a2 : F_is_whole [.int m, .int (n + 1), .int 1000000] = .rt (.bl true) [] := by rw [is_whole_int]; simp [h2, h3]
  have a3 : F_is_whole [.int r, .int 0, .int (m - 1)] = .rt (.bl true) [] := by rw [is_whole_int]; simp [h4]; omega
  simp [F_SumBook___init__, m_SumBook___init__, F_check_number, m_check_number, F_check_modulus, m_check_modulus, F_check_rest, m_check_rest, a1, a2, a3]
theorem full_d {n m r : Int} : F_SumBook_is_full [SBk n m r] = .rt (.bl (decide (m = n + 1))) [] := by
  simp [F_SumBook_is_full, m_SumBook_is_full]
theorem bin2 {w : List Int} (hw : Bin w) (hl : w.length ≤ 201) : F_check_word [.int 2, .tup (w.map D.int), .int 201] = .rt (.tup (w.map D.int)) [] ∧ F_check_word [.int 2, .lst (w.map D.int), .int 201] = .rt (.tup (w.map D.int)) [] := check2 hw (by omega)
def Wd2 (w : List Int) (d : D) : Prop := d = .tup (w.map D.int) ∨ d = .lst (w.map D.int)
theorem chk_d {w : List Int} (hw : Bin w) (hl : w.length ≤ 201) {d : D} (h : Wd2 w d) : F_check_word [.int 2, d, .int 201] = .rt (.tup (w.map D.int)) [] := by
  rcases h with rfl | rfl
  · exact (bin2 hw hl).1
  · exact (bin2 hw hl).2
theorem check_read_d {w : List Int} (hw : Bin w) (hl : w.length ≤ 201) {d : D} (h : Wd2 w d) {n : Int} (hn : n = w.length) : F_check_read [d, .int n] = .rt (.tup (w.map D.int)) [] := by
  have c := chk_d hw hl h
  subst hn
  simp [F_check_read, m_check_read, c]
theorem law_sum_d {w : List Int} (hw : Bin w) (hl : w.length ≤ 100000) : F__law_sum [.tup (w.map D.int)] = .rt (.int (vt 1 w)) [] := by
  have k1 : lcD [1] (gN 1) mYes m__law_sum_ce1 (rangeD 0 w.length) [] [some (.tup (w.map D.int)), none] = some (((List.range w.length).map fun k : Nat => (1 + (k : Int)) * nI w k).map D.int, [some (.tup (w.map D.int)), none]) := by
    rw [rangeD_map, comp_map [some (.tup (w.map D.int)), none] 1 (fun j : Nat => D.int (j : Int)) (fun k : Nat => .int ((1 + (k : Int)) * nI w k)) _ (fun _ => by simp [wipeG]) (fun k hk => by
      have hk := List.mem_range.mp hk
      have e0 := at_nI (w := w) (k := k) hk
      have nb := nI_bin hw hk
      simp (disch := omega) [m__law_sum_ce1, e0, Int.add_comm]) (by simp; omega), List.map_map]
    rfl
  have s1 := vt_range w 1
  generalize ((List.range w.length).map fun k : Nat => (1 + (k : Int)) * nI w k) = R at k1 s1
  simp [F__law_sum, m__law_sum, rg1_nat (n := w.length) (by omega), wipeG, restG, k1, sum_l, s1]
theorem is_word_d {w : List Int} (hw : Bin w) (hl : w.length ≤ 100000) {n : Int} (hn : n = w.length) : F__law_is_word [.tup (w.map D.int), .int n] = .rt (.bl true) [] := by
  subst hn
  have k1 : lcD [2] (gN 2) mYes m__law_is_word_ce1 (w.map D.int) [] [some (.tup (w.map D.int)), some (.int (w.length : Int)), none] = some (w.map fun _ => D.bl true, [some (.tup (w.map D.int)), some (.int (w.length : Int)), none]) := by
    rw [comp_map [some (.tup (w.map D.int)), some (.int (w.length : Int)), none] 2 D.int (fun _ => .bl true) w (fun _ => by simp [wipeG]) (fun a ha => by
      rcases hw a ha with rfl | rfl <;> simp [m__law_is_word_ce1, whole_d]) (by omega)]
  have k2 : allD (.lst (w.map fun _ => D.bl true)) = some (.bl true) := all_truth
  generalize hR : (w.map fun _ => D.bl true) = R at k1 k2
  simp [F__law_is_word, m__law_is_word, wipeG, restG, k1, k2]
theorem bin_of {w : List Int} (h : ∀ x ∈ w, 0 ≤ x ∧ x < 2) : Bin w := fun e he => by have := h e he; omega
theorem del_bin {w : List Int} (h : Bin w) (k : Nat) : Bin (del w k) := fun e he => h e (del_mem w k e he)
theorem cut_del {w : List Int} {k : Nat} (hk : k < w.length) (hl : w.length ≤ 100000) : ∃ a b, cutL (w.map D.int) none (some (k : Int)) = a ∧ cutL (w.map D.int) (some ((k : Int) + 1)) none = b ∧ addA (.tup a) (.tup b) = some (.tup ((del w k).map D.int)) := by
  refine ⟨_, _, rfl, rfl, ?_⟩
  have c1 : cutL (w.map D.int) none (some (k : Int)) = (w.take k).map D.int := by rw [cut_map, cut_to (by omega)]; rfl
  have c2 : cutL (w.map D.int) (some ((k : Int) + 1)) none = (w.drop (k + 1)).map D.int := by rw [cut_map, cut_from (by omega)]; rfl
  rw [c1, c2, add_tt (by simp; omega), ← List.map_append, ← del_split w k hk]
end Lk71
namespace Lk71
open PySem DL L2 VT RN WD
theorem all_words_d {q n : Nat} (hq : q ≤ 4) (hn : n ≤ 8) (hs : q ^ n ≤ 16777216) (h1 : 1 ≤ q) : F__law_all_words [.int (q : Int), .int (n : Int)] = .rt (.lst ((words q n).map tupI)) [] := by
  have le : ∀ k, k ≤ n → q ^ k ≤ q ^ n := fun k hk => Nat.pow_le_pow_right h1 hk
  have rgq : rg1 (.int (q : Int)) = some (rangeD 0 q) := rg1_nat (by omega)
  have rgn : rg1 (.int (n : Int)) = some (rangeD 0 n) := rg1_nat (by omega)
  obtain ⟨Γe, f1, x, y, z, w, e⟩ := forD_inv (g := gN 3) (body := m__law_all_words_b3) (rangeD 0 n) (fun i Γ => ∃ x y z w, Γ = [some (.int (q : Int)), some (.int (n : Int)), some (.lst ((words q i).map tupI)), x, y, z, none] ∧ w = ()) (fun i d Γ hd ⟨x, y, z, _, e, _⟩ => by
    subst e
    have hi : i < n := by have := (List.getElem?_eq_some_iff.mp hd).1; simpa [rangeD] using this
    have wl := fun u (h : u ∈ words q i) => (mem_words.mp h).1
    obtain ⟨Γ2, f2, z2, e2⟩ := forD_inv (g := gN 5) (body := m__law_all_words_b2) ((words q i).map tupI) (fun j Γ => ∃ z, Γ = [some (.int (q : Int)), some (.int (n : Int)), some (.lst ((words q i).map tupI)), some d, some (.lst ((more q ((words q i).take j)).map tupI)), z, none]) (fun j e Γ he ⟨z, eΓ⟩ => by
      subst eΓ
      have hj : j < (words q i).length := by have := (List.getElem?_eq_some_iff.mp he).1; simpa using this
      rw [List.getElem?_map, List.getElem?_eq_getElem hj] at he
      cases he
      have hm := List.getElem_mem hj
      have hw := wl _ hm
      have ml : (more q ((words q i).take (j + 1))) = more q ((words q i).take j) ++ (List.range q).map fun a : Nat => (words q i)[j] ++ [(a : Int)] := by
        unfold more; rw [List.take_succ_eq_append_getElem hj, List.map_append, List.flatten_append]; exact congrArg _ (List.append_nil _)
      generalize (words q i)[j] = u at *
      have cm := comp_map (me := m__law_all_words_ce1) [some (.int (q : Int)), some (.int (n : Int)), some (.lst ((words q i).map tupI)), some d, some (.lst ((more q ((words q i).take j)).map tupI)), some (tupI u), none] 6 (fun a : Nat => .int (a : Int)) (fun a : Nat => tupI (u ++ [(a : Int)])) (List.range q) (fun d => by simp [wipeG]) (fun a _ => by
        rcases tupI_snoc u (a : Int) with h | h
        · simp [m__law_all_words_ce1, h]
        · omega) (by simp; omega)
      rw [← rangeD_map] at cm
      have len : (more q ((words q i).take j)).length ≤ 16777216 - q := by
        rw [more_len, List.length_take, words_len]
        have : q * min j (q ^ i) + q ≤ q ^ (i + 1) := by
          rw [words_len] at hj
          rw [Nat.pow_succ, Nat.mul_comm (q ^ i) q, Nat.min_eq_left (by omega)]
          calc q * j + q = q * (j + 1) := by rw [Nat.mul_succ]
            _ ≤ q * q ^ i := Nat.mul_le_mul_left q hj
        have := le (i + 1) hi
        omega
      refine ⟨[some (.int (q : Int)), some (.int (n : Int)), some (.lst ((words q i).map tupI)), some d, some (.lst ((more q ((words q i).take j)).map tupI)), some (tupI u), none], [some (.int (q : Int)), some (.int (n : Int)), some (.lst ((words q i).map tupI)), some d, some (.lst ((more q ((words q i).take (j + 1))).map tupI)), some (tupI u), none], by simp, .inl ?_, _, rfl⟩
      have ad : addA (.lst ((more q ((words q i).take j)).map tupI)) (.lst ((List.range q).map fun a : Nat => tupI (u ++ [(a : Int)]))) = some (.lst ((more q ((words q i).take (j + 1))).map tupI)) := by
        rw [add_ll (by simp; omega), ml, List.map_append, List.map_map]; rfl
      generalize (more q ((words q i).take j)).map tupI = A at *
      generalize (more q ((words q i).take (j + 1))).map tupI = A2 at *
      generalize (words q i).map tupI = A3 at *
      simp [m__law_all_words_b2, rgq, wipeG, cm, restG, ad]) [some (.int (q : Int)), some (.int (n : Int)), some (.lst ((words q i).map tupI)), some d, some (.lst []), z, none] ⟨z, by simp [more]⟩
    subst e2
    rw [List.length_map, List.take_length] at f2
    refine ⟨[some (.int (q : Int)), some (.int (n : Int)), some (.lst ((words q i).map tupI)), some d, y, z, none], [some (.int (q : Int)), some (.int (n : Int)), some (.lst ((words q (i + 1)).map tupI)), some d, some (.lst ((words q (i + 1)).map tupI)), z2, none], by simp, .inl ?_, some d, some (.lst ((words q (i + 1)).map tupI)), z2, (), rfl, rfl⟩
    have ew : words q (i + 1) = more q (words q i) := rfl
    rw [ew]
    generalize (more q (words q i)).map tupI = A at *
    generalize (words q i).map tupI = A3 at *
    simp [m__law_all_words_b3, f2]) [some (.int (q : Int)), some (.int (n : Int)), some (.lst ((words q 0).map tupI)), none, none, none, none] ⟨none, none, none, (), rfl, rfl⟩
  obtain ⟨e, _⟩ := e
  subst e
  have rl : (rangeD 0 n).length = n := by simp [rangeD]
  rw [rl] at f1
  have f1 : forD (gN 3) m__law_all_words_b3 (rangeD 0 n) [some (.int (q : Int)), some (.int (n : Int)), some (.lst [.tup []]), none, none, none, none] = _ := f1
  generalize (words q n).map tupI = A at *
  simp [F__law_all_words, m__law_all_words, rgn, f1]
theorem more_one_d {w : List Int} (hl : w.length ≤ 12) : F__law_more_one [.int 2, .tup (w.map D.int)] = .rt (.lst ((srtS ltL (allIns w)).map tupI)) [] := by
  obtain ⟨Γe, h1, h2⟩ := forD_firstN (g := gN 3) (body := m__law_more_one_b2) (fun j => .int (j : Int)) (fun _ => false) (fun _ Γ => .rt .non Γ) (fun _ _ => .rt _ _)
    (fun k Γ => ∃ x, Γ = [some (.int 2), some (.tup (w.map D.int)), some (.lst ((((List.range k).map fun k => [ins 0 w k, ins 1 w k]).flatten).map tupI)), x, none]) (w.length + 1) 0 [some (.int 2), some (.tup (w.map D.int)), some (.lst []), none, none] ⟨none, rfl⟩ (fun j Γ _ hj ⟨x, e⟩ => by
      subst e
      refine ⟨[some (.int 2), some (.tup (w.map D.int)), some (.lst ((((List.range j).map fun k => [ins 0 w k, ins 1 w k]).flatten).map tupI)), some (.int (j : Int)), none], by simp, (fun z => nomatch z), fun _ =>
        ⟨[some (.int 2), some (.tup (w.map D.int)), some (.lst ((((List.range (j + 1)).map fun k => [ins 0 w k, ins 1 w k]).flatten).map tupI)), some (.int (j : Int)), none], .inl ?_, _, rfl⟩⟩
      have lf : (((List.range j).map fun k => [ins 0 w k, ins 1 w k]).flatten).length = 2 * j := by rw [flat2 (fun k => [ins 0 w k, ins 1 w k]) (fun _ => rfl), List.length_range]
      have es : (((List.range (j + 1)).map fun k => [ins 0 w k, ins 1 w k]).flatten).map tupI = (((List.range j).map fun k => [ins 0 w k, ins 1 w k]).flatten).map tupI ++ [tupI (ins 0 w j), tupI (ins 1 w j)] := by
        rw [List.range_succ, List.map_append, List.flatten_append, List.map_append]; rfl
      rw [es]
      generalize (((List.range j).map fun k => [ins 0 w k, ins 1 w k]).flatten) = F at lf
      have k1 : lcD [4] (gN 4) mYes m__law_more_one_ce1 (rangeD 0 2) [] [some (.int 2), some (.tup (w.map D.int)), some (.lst (F.map tupI)), some (.int (j : Int)), none] = some ([tupI (ins 0 w j), tupI (ins 1 w j)], [some (.int 2), some (.tup (w.map D.int)), some (.lst (F.map tupI)), some (.int (j : Int)), none]) := by
        rw [rangeD_map, comp_map [some (.int 2), some (.tup (w.map D.int)), some (.lst (F.map tupI)), some (.int (j : Int)), none] 4 (fun j : Nat => D.int (j : Int)) (fun l : Nat => tupI (ins (l : Int) w j)) _ (fun _ => by simp [wipeG]) (fun l hl2 => by
          have e1 : cutL (w.map D.int) none (some (j : Int)) = (w.take j).map D.int := by rw [cut_map, cut_to (by omega)]; rfl
          have e2 : cutL (w.map D.int) (some (j : Int)) none = (w.drop j).map D.int := by rw [cut_map, cut_from (by omega)]; rfl
          have e3 : addA (.tup ((w.take j).map D.int)) (.tup [.int (l : Int)]) = some (.tup ((w.take j ++ [(l : Int)]).map D.int)) := by
            rw [add_tt (by simp; omega), List.map_append]; rfl
          have e4 : addA (.tup ((w.take j ++ [(l : Int)]).map D.int)) (.tup ((w.drop j).map D.int)) = some (tupI (ins (l : Int) w j)) := by
            rw [add_tt (by simp; omega), ← List.map_append, List.append_assoc, ins_split (l : Int) w j (by omega)]; rfl
          simp [m__law_more_one_ce1, e1, e2, e3, e4, -List.map_take, -List.map_drop, -List.map_append]) (by simp)]
        rfl
      have a1 : addA (.lst (F.map tupI)) (.lst [tupI (ins 0 w j), tupI (ins 1 w j)]) = some (.lst (F.map tupI ++ [tupI (ins 0 w j), tupI (ins 1 w j)])) := add_ll (by simp; omega)
      have rg : rg1 (.int 2) = some (rangeD 0 2) := rg1_nat (n := 2) (by omega)
      simp [m__law_more_one_b2, rg, wipeG, restG, k1, a1, -List.map_append])
  have hn : firstN (fun _ => false) 0 (w.length + 1) = none := firstN_none.mpr fun _ _ _ => rfl
  rw [hn] at h1
  obtain ⟨x, e⟩ := h2 hn
  subst e
  rw [Nat.zero_add] at h1
  have la := allIns_len w
  have k2 := srtSet_tups (ks := allIns w) (by omega) (even_len (n := w.length + 1) fun k hk => by
    obtain ⟨j, b, _, _, rfl⟩ := mem_allIns.mp hk
    exact ins_len b w j)
  have h1 : forD (gN 3) m__law_more_one_b2 (rangeD 0 (w.length + 1)) [some (.int 2), some (.tup (w.map D.int)), some (.lst []), none, none] = .nx [some (.int 2), some (.tup (w.map D.int)), some (.lst ((allIns w).map tupI)), x, none] := by rw [rangeD_range]; exact h1
  have rg : rg1 (.int ((w.length : Int) + 1)) = some (rangeD 0 (w.length + 1)) := rg1_nat (n := w.length + 1) (by omega)
  generalize (allIns w).map tupI = R at h1 k2
  simp [F__law_more_one, m__law_more_one, rg, h1, k2]
end Lk71
namespace Lk71
open PySem DL L2 VT RN WD
/-- what is not met yet -/
def rem : List Int → List Int → List Int
  | [], _ => []
  | s, [] => s
  | a :: s, x :: l => if a = x then rem s l else rem (a :: s) l
theorem rem_nil : ∀ s, rem s [] = s
  | [] => rfl
  | a :: s => rfl
theorem rem_nil' : ∀ l, rem [] l = []
  | [] => rfl
  | a :: s => rfl
theorem rem_sub : ∀ (l s : List Int), s.Sublist l → rem s l = []
  | l, [], _ => rem_nil' l
  | [], a :: s, h => by cases h
  | x :: l, a :: s, h => by
    show (if a = x then rem s l else rem (a :: s) l) = []
    by_cases c : a = x
    · rw [if_pos c]
      refine rem_sub l s ?_
      cases h with
      | cons _ h => exact (List.sublist_cons_self a s).trans h
      | cons_cons _ h => exact h
    · rw [if_neg c]
      refine rem_sub l (a :: s) ?_
      cases h with
      | cons _ h => exact h
      | cons_cons _ h => exact absurd rfl c
theorem is_below_d {s l : List Int} (h : s.Sublist l) (hs : s.length ≤ 100000) : F__law_is_below [.tup (s.map D.int), .tup (l.map D.int)] = .rt (.bl true) [] := by
  obtain ⟨Γe, f, at_, x, e, le, hr⟩ := forD_inv (g := gN 3) (body := m__law_is_below_b1) (l.map D.int) (fun j Γ => ∃ (k : Nat) (x : Option D), Γ = [some (.tup (s.map D.int)), some (.tup (l.map D.int)), some (.int (k : Int)), x] ∧ k ≤ s.length ∧ rem (s.drop k) (l.drop j) = []) (fun j d Γ hd ⟨k, x, e, le, hr⟩ => by
    subst e
    obtain ⟨hj, ed⟩ := List.getElem?_eq_some_iff.mp hd
    have hj : j < l.length := by simpa using hj
    have ed : d = .int (l[j]) := by rw [← ed]; simp
    subst ed
    rw [List.drop_eq_getElem_cons hj] at hr
    generalize l[j] = y at *
    generalize hL : D.tup (l.map D.int) = LL at *
    by_cases c : k < s.length
    · have hk : (k : Int) < s.length := by omega
      have en := at_nI (w := s) (k := k) c
      rw [drop_at c] at hr
      have hr : (if nI s k = y then rem (s.drop (k + 1)) (l.drop (j + 1)) else rem (nI s k :: s.drop (k + 1)) (l.drop (j + 1))) = [] := hr
      by_cases q : nI s k = y
      · rw [if_pos q] at hr
        refine ⟨[some (.tup (s.map D.int)), some LL, some (.int (k : Int)), some (.int y)], [some (.tup (s.map D.int)), some LL, some (.int ((k + 1 : Nat) : Int)), some (.int y)], by simp, .inl ?_, k + 1, some (.int y), rfl, by omega, hr⟩
        simp [m__law_is_below_b1, hk, en, q]
        done
      · rw [if_neg q, ← drop_at c] at hr
        refine ⟨[some (.tup (s.map D.int)), some LL, some (.int (k : Int)), some (.int y)], [some (.tup (s.map D.int)), some LL, some (.int (k : Int)), some (.int y)], by simp, .inl ?_, k, some (.int y), rfl, by omega, hr⟩
        simp [m__law_is_below_b1, hk, en, q]
    · have hk : ¬ (k : Int) < s.length := by omega
      refine ⟨[some (.tup (s.map D.int)), some LL, some (.int (k : Int)), some (.int y)], [some (.tup (s.map D.int)), some LL, some (.int (k : Int)), some (.int y)], by simp, .inl ?_, k, some (.int y), rfl, by omega, by rw [List.drop_eq_nil_of_le (by omega), rem_nil']⟩
      simp [m__law_is_below_b1, hk]) [some (.tup (s.map D.int)), some (.tup (l.map D.int)), some (.int 0), none] ⟨0, none, rfl, by omega, rem_sub _ _ (by simpa using h)⟩
  subst e
  rw [List.length_map, List.drop_length, rem_nil] at hr
  have ea : at_ = s.length := by have := List.drop_eq_nil_iff.mp hr; omega
  rw [ea] at f
  generalize l.map D.int = LL at *
  simp [F__law_is_below, m__law_is_below, f]
theorem downD_succ {i : Int} {n : Nat} : downD i (n + 1) = .int i :: downD (i - 1) n := by
  unfold downD
  rw [List.range_succ_eq_map, List.map_cons, List.map_map]
  congr 1
  · simp
  · refine List.map_congr_left fun k _ => ?_
    simp only [Function.comp]
    congr 1; omega
theorem vt_set : ∀ (w : List Int) (q : Int) (k : Nat), k < w.length → nI w k = 0 → vt q (w.set k 1) = vt q w + (q + k)
  | [], _, _, h, _ => absurd h (by simp)
  | x :: w, q, 0, _, h => by
    have h : x = 0 := h
    subst h
    show 1 * q + vt (q + 1) w = 0 * q + vt (q + 1) w + (q + 0)
    omega
  | x :: w, q, k + 1, hk, h => by
    have := vt_set w (q + 1) k (by simpa using hk) h
    show x * q + vt (q + 1) (w.set k 1) = x * q + vt (q + 1) w + (q + ((k + 1 : Nat) : Int))
    rw [this]
    generalize x * q = A
    omega
theorem set_bin {w : List Int} (h : Bin w) (k : Nat) : Bin (w.set k 1) := fun e he => by
  rcases List.mem_or_eq_of_mem_set he with z | z
  · exact h e z
  · exact .inr z
theorem nI_set {w : List Int} {k j : Nat} (h : j ≠ k) : nI (w.set k 1) j = nI w j := by
  unfold nI
  rw [List.getD_eq_getElem?_getD, List.getD_eq_getElem?_getD, List.getElem?_set, if_neg (fun e => h e.symm)]
theorem greedy {L : D} : ∀ (p : Nat) (w : List Int) (t : Int) (x : Option D), Bin w → p ≤ w.length → (∀ j, j < p → nI w j = 0) → 0 ≤ t → 2 * t ≤ ((p * (p + 1) : Nat) : Int) →
    ∃ w' y, forD (gN 3) m_word_of_sum_b1 (downD (p : Int) p) [some L, some (.int t), some (.lst (w.map D.int)), x] = .nx [some L, some (.int 0), some (.lst (w'.map D.int)), y] ∧ Bin w' ∧ w'.length = w.length ∧ vt 1 w' = vt 1 w + t
  | 0, w, t, x, hb, _, _, h0, h1 => by
    have t0 : t = 0 := by simp at h1; omega
    subst t0
    exact ⟨w, x, rfl, hb, rfl, by omega⟩
  | p + 1, w, t, x, hb, hp, hz, h0, h1 => by
    have hd : downD ((p + 1 : Nat) : Int) (p + 1) = .int ((p + 1 : Nat) : Int) :: downD (p : Int) p := by rw [downD_succ, show ((p + 1 : Nat) : Int) - 1 = p by omega]
    have sq : (p + 1) * (p + 1 + 1) = p * (p + 1) + 2 * (p + 1) := by rw [Nat.mul_comm, Nat.mul_succ, Nat.mul_comm p (p + 1)]; rw [Nat.add_mul, Nat.mul_add, Nat.mul_comm 2]; omega
    rw [sq] at h1
    rw [hd]
    by_cases c : ((p + 1 : Nat) : Int) ≤ t
    · obtain ⟨w', y, f, b', l', v'⟩ := greedy (L := L) p (w.set p 1) (t - ((p + 1 : Nat) : Int)) (some (.int ((p + 1 : Nat) : Int))) (set_bin hb p) (by rw [List.length_set]; omega) (fun j hj => by rw [nI_set (by omega)]; exact hz j (by omega)) (by omega) (by omega)
      refine ⟨w', y, ?_, b', by rw [l', List.length_set], ?_⟩
      · have st : ∀ Γ : Gm, stS 2 (.int 1) (.int (p : Int)) Γ (some (some (.lst (w.map D.int)))) = .nx (Γ.set 2 (some (.lst ((w.set p 1).map D.int)))) := fun Γ => by
          rw [stS_nat (by simp; omega), List.map_set]
        have e1 : ((p + 1 : Nat) : Int) - 1 = p := by omega
        generalize ((p + 1 : Nat) : Int) = P at *
        rw [forD_cons (Γ1 := [some L, some (.int t), some (.lst (w.map D.int)), some (.int P)]) (Γ2 := [some L, some (.int (t - P)), some (.lst ((w.set p 1).map D.int)), some (.int P)]) (by simp) (by simp [m_word_of_sum_b1, c, e1, st]), f]
      · rw [v', vt_set w 1 p (by omega) (hz p (by omega))]; omega
    · have b2 : 2 * t ≤ ((p * (p + 1) : Nat) : Int) := by
        rcases Nat.eq_zero_or_pos p with z | z
        · subst z; simp at c ⊢; omega
        · have : 2 * p ≤ p * (p + 1) := by rw [Nat.mul_comm 2]; exact Nat.mul_le_mul_left p (by omega)
          omega
      obtain ⟨w', y, f, b', l', v'⟩ := greedy (L := L) p w t (some (.int ((p + 1 : Nat) : Int))) hb (by omega) (fun j hj => hz j (by omega)) h0 b2
      refine ⟨w', y, ?_, b', l', v'⟩
      generalize ((p + 1 : Nat) : Int) = P at *
      rw [forD_cons (Γ1 := [some L, some (.int t), some (.lst (w.map D.int)), some (.int P)]) (Γ2 := [some L, some (.int t), some (.lst (w.map D.int)), some (.int P)]) (by simp) (by simp [m_word_of_sum_b1, c]), f]
theorem vt_zero : ∀ (n : Nat) (q : Int), vt q (List.replicate n (0 : Int)) = 0
  | 0, _ => rfl
  | n + 1, q => by
    rw [List.replicate_succ]
    show 0 * q + vt (q + 1) (List.replicate n 0) = 0
    rw [vt_zero n]; omega
theorem word_of_sum_d {n : Nat} {t : Int} (hn : n ≤ 200) (h0 : 0 ≤ t) (h1 : 2 * t ≤ ((n * (n + 1) : Nat) : Int)) : ∃ w, F_word_of_sum [.int (n : Int), .int t] = .rt (.tup (w.map D.int)) [] ∧ Bin w ∧ w.length = n ∧ vt 1 w = t := by
  have bz : Bin (List.replicate n (0 : Int)) := fun e he => .inl (List.eq_of_mem_replicate he)
  obtain ⟨w, y, f, b, l, v⟩ := greedy (L := .int (n : Int)) n (List.replicate n 0) t none bz (by simp) (fun j hj => by unfold nI; simp [hj]) h0 h1
  refine ⟨w, ?_, b, by rw [l, List.length_replicate], by rw [v, vt_zero]; omega⟩
  have ml : mulL (.lst [.int 0]) (.int (n : Int)) = some (.lst ((List.replicate n (0 : Int)).map D.int)) := by
    unfold mulL
    dsimp only
    rw [if_pos ⟨by omega, by omega, by simp; omega⟩]
    simp
  have rg : rg3 (.int (n : Int)) (.int 0) (.int (-1)) = some (downD (n : Int) n) := by
    rw [rg3_down (by omega) (by omega) (by omega) (by omega)]; simp
  generalize (List.replicate n (0 : Int)).map D.int = Z at *
  simp [F_word_of_sum, m_word_of_sum, ml, rg, f]
end Lk71
namespace Lk71
open PySem DL L2 VT RN WD
def NPk (a b c d : D) : D := .obj "NearPair" [("one", a), ("other", b), ("below", c), ("above", d)]
@[simp] theorem np_one (a b c d : D) : fldD dm_one "one" (NPk a b c d) = some a := fld_o (by decide +kernel) rfl
@[simp] theorem np_other (a b c d : D) : fldD dm_other "other" (NPk a b c d) = some b := fld_o (by decide +kernel) rfl
@[simp] theorem np_below (a b c d : D) : fldD dm_below "below" (NPk a b c d) = some c := fld_o (by decide +kernel) rfl
@[simp] theorem np_above (a b c d : D) : fldD dm_above "above" (NPk a b c d) = some d := fld_o (by decide +kernel) rfl
@[simp] theorem np_put1 (s : Nat) (d : D) (Γ : Gm) : stF dm_one "one" s d Γ (some (some (.obj "NearPair" []))) = .nx (Γ.set s (some (.obj "NearPair" [("one", d)]))) := stF_of (by decide +kernel) (by simp) rfl
@[simp] theorem np_put2 (s : Nat) (d a : D) (Γ : Gm) : stF dm_other "other" s d Γ (some (some (.obj "NearPair" [("one", a)]))) = .nx (Γ.set s (some (.obj "NearPair" [("one", a), ("other", d)]))) := stF_of (by decide +kernel) (by simp) rfl
@[simp] theorem np_put3 (s : Nat) (d a b : D) (Γ : Gm) : stF dm_below "below" s d Γ (some (some (.obj "NearPair" [("one", a), ("other", b)]))) = .nx (Γ.set s (some (.obj "NearPair" [("one", a), ("other", b), ("below", d)]))) := stF_of (by decide +kernel) (by simp) rfl
@[simp] theorem np_put4 (s : Nat) (d a b c : D) (Γ : Gm) : stF dm_above "above" s d Γ (some (some (.obj "NearPair" [("one", a), ("other", b), ("below", c)]))) = .nx (Γ.set s (some (NPk a b c d))) := stF_of (by decide +kernel) (by simp) rfl
@[simp] theorem np_iso (a b c d : D) : isoD dmAll "NearPair" (NPk a b c d) = some (.bl true) := iso_o (by decide +kernel)
@[simp] theorem np_non (a b c d : D) : isD (NPk a b c d) .non = some (.bl false) := rfl
theorem np_init (a b c d : D) : F_NearPair___init__ [.obj "NearPair" [], a, b, c, d] = .rt .non [NPk a b c d] := by
  simp [F_NearPair___init__, m_NearPair___init__]
theorem vt_one (r : Nat) : ∀ (n s : Nat), vt (s : Int) ((List.range' s n).map fun k : Nat => if k = r then (1 : Int) else 0) = if s ≤ r ∧ r < s + n then (r : Int) else 0
  | 0, s => by rw [if_neg (by omega)]; rfl
  | n + 1, s => by
    rw [List.range'_succ, List.map_cons]
    show (if s = r then (1 : Int) else 0) * (s : Int) + vt ((s : Int) + 1) _ = _
    have ih := vt_one r n (s + 1)
    rw [show ((s + 1 : Nat) : Int) = (s : Int) + 1 by omega] at ih
    rw [ih]
    by_cases c : s = r
    · subst c
      rw [if_pos rfl, if_neg (by omega), if_pos (by omega)]; omega
    · rw [if_neg c]
      by_cases d : s + 1 ≤ r ∧ r < s + 1 + n
      · rw [if_pos d, if_pos (by omega)]; omega
      · rw [if_neg d, if_neg (by omega)]; omega
/-- what modulus_clash tells -/
theorem clash_d {n : Nat} {m r : Int} (hn : n ≤ 200) (h1 : 1 ≤ m) (h2 : m ≤ 1000000) (r0 : 0 ≤ r) (r1 : r < m) :
    ((n : Int) < m ∧ F_modulus_clash [.int (n : Int), .int m, .int r] = .rt .non []) ∨
    (m ≤ n ∧ ∃ b o : List Int, Bin b ∧ b.length + 1 = n ∧ vt 1 b = r ∧ Lif b m o ∧ F_modulus_clash [.int (n : Int), .int m, .int r] = .rt (NPk (.tup ((b ++ [0]).map D.int)) (.tup (o.map D.int)) (.tup (b.map D.int)) (.tup ((o ++ [0]).map D.int))) []) := by
  have a1 : F_is_whole [.int (n : Int), .int 0, .int 200] = .rt (.bl true) [] := by rw [is_whole_int]; simp; omega
  have a2 : F_is_whole [.int m, .int 1, .int 1000000] = .rt (.bl true) [] := by rw [is_whole_int]; simp [h1, h2]
  have a3 : F_is_whole [.int r, .int 0, .int (m - 1)] = .rt (.bl true) [] := by rw [is_whole_int]; simp [r0]; omega
  by_cases c : (n : Int) < m
  · exact .inl ⟨c, by simp [F_modulus_clash, m_modulus_clash, F_check_number, m_check_number, F_check_modulus, m_check_modulus, F_check_rest, m_check_rest, a1, a2, a3, c]⟩
  · refine .inr ⟨by omega, ?_⟩
    obtain ⟨R, rfl⟩ := Int.eq_ofNat_of_zero_le r0
    obtain ⟨b, eb⟩ : ∃ b, b = (List.range' 1 (n - 1)).map fun k : Nat => if k = R then (1 : Int) else 0 := ⟨_, rfl⟩
    have bb : Bin b := fun e he => by
      rw [eb] at he
      obtain ⟨k, _, rfl⟩ := List.mem_map.mp he
      by_cases q : k = R
      · rw [if_pos q]; exact .inr rfl
      · rw [if_neg q]; exact .inl rfl
    have lb : b.length + 1 = n := by rw [eb]; simp; omega
    have vb : vt 1 b = (R : Int) := by
      have := vt_one R (n - 1) 1
      rw [eb]
      refine Eq.trans this ?_
      by_cases z : R = 0
      · subst z; rw [if_neg (by omega)]; rfl
      · rw [if_pos (by omega)]
    obtain ⟨o, ho, el⟩ := lift_word_d bb (by omega) (a := m) (by omega) (by omega)
    refine ⟨b, o, bb, lb, vb, ho, ?_⟩
    have rg : rg2 (.int 1) (.int (n : Int)) = some (rangeD 1 (n - 1)) := by
      rw [rg2_ii (by omega) (by omega) (by omega) (by omega), show ((n : Int) - 1).toNat = n - 1 by omega]
    have cm : lcD [5] (gN 5) mYes m_modulus_clash_ce1 (rangeD 1 (n - 1)) [] [some (.int (n : Int)), some (.int m), some (.int (R : Int)), none, none, none] = some (b.map D.int, [some (.int (n : Int)), some (.int m), some (.int (R : Int)), none, none, none]) := by
      have e := comp_map (me := m_modulus_clash_ce1) [some (.int (n : Int)), some (.int m), some (.int (R : Int)), none, none, none] 5 (fun j : Nat => .int (j : Int)) (fun k : Nat => D.int (if k = R then (1 : Int) else 0)) (List.range' 1 (n - 1)) (fun _ => by simp [wipeG]) (fun k _ => by
        by_cases q : k = R
        · subst q; simp [m_modulus_clash_ce1]
        · have q' : ¬ (k : Int) = (R : Int) := by omega
          simp [m_modulus_clash_ce1, q, q']) (by simp; omega)
      have er : rangeD 1 (n - 1) = (List.range' 1 (n - 1)).map fun j : Nat => D.int (j : Int) := rangeD_off (a := 1)
      rw [er, e, eb, List.map_map]; rfl
    obtain ⟨bo, lo⟩ := ho.bin bb
    have ad1 : addA (.tup (b.map D.int)) (.tup [.int 0]) = some (.tup ((b ++ [0]).map D.int)) := by
      rw [List.map_append]; exact add_tt (by simp; omega)
    have ad2 : addA (.tup (o.map D.int)) (.tup [.int 0]) = some (.tup ((o ++ [0]).map D.int)) := by
      rw [List.map_append]; exact add_tt (by simp; omega)
    have ni := np_init (.tup ((b ++ [0]).map D.int)) (.tup (o.map D.int)) (.tup (b.map D.int)) (.tup ((o ++ [0]).map D.int))
    generalize (b ++ [0]).map D.int = B1 at *
    generalize (o ++ [0]).map D.int = O1 at *
    generalize b.map D.int = B at *
    generalize o.map D.int = O at *
    simp [F_modulus_clash, m_modulus_clash, F_check_number, m_check_number, F_check_modulus, m_check_modulus, F_check_rest, m_check_rest, a1, a2, a3, c, rg, wipeG, restG, cm, el, ad1, ad2, ni]
theorem vt_app0 (w : List Int) : vt 1 (w ++ [0]) = vt 1 w := by rw [vt_snoc]; omega
theorem clash_right_d {n : Nat} {m r : Int} {b o : List Int} (hn : n ≤ 200) (h1 : 1 ≤ m) (r0 : 0 ≤ r) (r1 : r < m) (bb : Bin b) (lb : b.length + 1 = n) (vb : vt 1 b = r) (ho : Lif b m o) :
    F__law_clash_right [.int (n : Int), .int m, .int r, NPk (.tup ((b ++ [0]).map D.int)) (.tup (o.map D.int)) (.tup (b.map D.int)) (.tup ((o ++ [0]).map D.int))] = .rt (.bl true) [] := by
  obtain ⟨bo, lo⟩ := ho.bin bb
  have app0 : ∀ w : List Int, Bin w → Bin (w ++ [0]) := fun w h e he => by
    rcases List.mem_append.mp he with z | z
    · exact h e z
    · exact .inl (List.mem_singleton.mp z)
  have vo : vt 1 o = r + m := by rw [ho.sum, vb]
  have sb : b.Sublist o := by
    obtain ⟨k, x, hk, _, _, e⟩ := ho
    have := del_sub (ins x b k) k
    rw [del_ins x b k hk] at this
    rw [e]; exact this
  have w1 := is_word_d (app0 b bb) (by simp; omega) (n := n) (by simp; omega)
  have w2 := is_word_d bo (by omega) (n := n) (by omega)
  have w3 := is_word_d bb (by omega) (n := (n : Int) - 1) (by omega)
  have w4 := is_word_d (app0 o bo) (by simp; omega) (n := (n : Int) + 1) (by simp; omega)
  have s1 := law_sum_d (app0 b bb) (by simp; omega)
  have s2 := law_sum_d bo (by omega)
  rw [vt_app0, vb] at s1
  rw [vo] at s2
  have m1 : r % m = r := Int.emod_eq_of_lt r0 r1
  have m2 : (r + m) % m = r := by rw [Int.add_emod_right, m1]
  have i1 := is_below_d (List.sublist_append_left b [0]) (by omega)
  have i2 := is_below_d sb (by omega)
  have i3 := is_below_d (sb.append (List.Sublist.refl [0])) (by simp; omega)
  have i4 := is_below_d (List.sublist_append_left o [0]) (by omega)
  have ne : ¬ b ++ [0] = o := fun e => by
    have := vt_app0 b
    rw [e, vo, vb] at this; omega
  have ee : eqD (.tup ((b ++ [0]).map D.int)) (.tup (o.map D.int)) = some (.bl false) := by rw [eq_tt_ints, decide_eq_false ne]
  have ev : evE [mUn (fldD dm_one "one") (mVar 3), mUn (fldD dm_other "other") (mVar 3)] = evE [mUn (fldD dm_one "one") (mVar 3), mUn (fldD dm_other "other") (mVar 3)] := rfl
  clear ev
  generalize (b ++ [0]).map D.int = B1 at *
  generalize (o ++ [0]).map D.int = O1 at *
  generalize b.map D.int = B at *
  generalize o.map D.int = O at *
  obtain ⟨P, hP⟩ : ∃ P, P = NPk (.tup B1) (.tup O) (.tup B) (.tup O1) := ⟨_, rfl⟩
  obtain ⟨Γe, f, x, e⟩ := forD_same (g := gN 5) (body := m__law_clash_right_b1) (fun Γ => ∃ x, Γ = [some (.int (n : Int)), some (.int m), some (.int r), some P, some (.lst [.tup B1, .tup O]), x]) [.tup B1, .tup O] [some (.int (n : Int)), some (.int m), some (.int r), some P, some (.lst [.tup B1, .tup O]), none] ⟨none, rfl⟩ (fun d hd Γ ⟨x, e⟩ => by
    subst e
    have hd : d = .tup B1 ∨ d = .tup O := by simpa using hd
    refine ⟨[some (.int (n : Int)), some (.int m), some (.int r), some P, some (.lst [.tup B1, .tup O]), some d], [some (.int (n : Int)), some (.int m), some (.int r), some P, some (.lst [.tup B1, .tup O]), some d], by simp, ?_, some d, rfl⟩
    have mp : 0 < m := by omega
    rcases hd with rfl | rfl
    · simp (disch := omega) [m__law_clash_right_b1, w1, s1, m1]
    · simp (disch := omega) [m__law_clash_right_b1, w2, s2, m2])
  subst e
  have cm : lcD [5] (gN 5) mYes m__law_clash_right_ce2 [.tup B1, .tup O] [] [some (.int (n : Int)), some (.int m), some (.int r), some P, some (.lst [.tup B1, .tup O]), none] = some ([D.bl true, .bl true], [some (.int (n : Int)), some (.int m), some (.int r), some P, some (.lst [.tup B1, .tup O]), none]) := by
    have := comp_map (me := m__law_clash_right_ce2) [some (.int (n : Int)), some (.int m), some (.int r), some P, some (.lst [.tup B1, .tup O]), none] 5 (fun d : D => d) (fun _ => D.bl true) [.tup B1, .tup O] (fun _ => by simp [wipeG]) (fun d hd => by
      have hd : d = .tup B1 ∨ d = .tup O := by simpa using hd
      subst hP
      rcases hd with rfl | rfl
      · simp [m__law_clash_right_ce2, i1, i3]
      · simp [m__law_clash_right_ce2, i2, i4]) (by simp)
    simpa using this
  have al : allD (.lst [D.bl true, .bl true]) = some (.bl true) := rfl
  subst hP
  simp [F__law_clash_right, m__law_clash_right, f, ee, w3, w4, wipeG, restG, cm, al]
theorem modulus_right_d {n : Nat} {m r : Int} (hn : n ≤ 200) (h1 : 1 ≤ m) (h2 : m ≤ 1000000) (r0 : 0 ≤ r) (r1 : r < m) : F__law_modulus_right [.int (n : Int), .int m, .int r] = .rt (.bl true) [] := by
  rcases clash_d hn h1 h2 r0 r1 with ⟨c, e⟩ | ⟨c, b, o, bb, lb, vb, ho, e⟩
  · simp [F__law_modulus_right, m__law_modulus_right, e, c]
  · have q := clash_right_d hn h1 r0 r1 bb lb vb ho
    obtain ⟨P, hP⟩ : ∃ P, P = NPk (.tup ((b ++ [0]).map D.int)) (.tup (o.map D.int)) (.tup (b.map D.int)) (.tup ((o ++ [0]).map D.int)) := ⟨_, rfl⟩
    have np : DL.isNon P = false := by rw [hP]; rfl
    rw [← hP] at e q
    clear hP
    simp [F__law_modulus_right, m__law_modulus_right, e, c, q, np]
end Lk71
namespace Lk71
open PySem DL L2 VT RN WD
theorem sub_mod (a b m : Int) : (a % m - b) % m = (a - b) % m := by rw [Int.sub_emod, Int.emod_emod, ← Int.sub_emod]
theorem mod_sub (a b m : Int) : (b - a % m) % m = (b - a) % m := by rw [Int.sub_emod, Int.emod_emod, ← Int.sub_emod]
def Fit (m r : Int) (u : List Int) : Prop := (vt 1 u - r) % m = 0
instance (m r : Int) (u : List Int) : Decidable (Fit m r u) := inferInstanceAs (Decidable (_ = _))
instance (m r : Int) (u : List Int) : Decidable (Fit m r u) := inferInstanceAs (Decidable (_ = _))
instance (m r : Int) (u : List Int) : Decidable (Fit m r u) := inferInstanceAs (Decidable (_ = _))
theorem fit_red {w : List Int} {m r : Int} {k : Nat} (hk : k < w.length) : Fit m r (del w k) ↔ (vt 1 w - r) % m = red 1 w k % m := by
  have rv := red_vt w 1 k hk
  unfold Fit
  rw [Int.emod_eq_emod_iff_emod_sub_eq_zero, show vt 1 w - r - red 1 w k = vt 1 (del w k) - r by omega]
theorem fit_mod {m r : Int} {u : List Int} (hm : 0 < m) (h0 : 0 ≤ r) (h1 : r < m) : Fit m r u ↔ vt 1 u % m = r := by
  unfold Fit
  rw [← Int.emod_eq_emod_iff_emod_sub_eq_zero, Int.emod_eq_of_lt h0 h1]
structure OddG (g : Int) (d : D) : Prop where
  k : Kn d
  w : wholeB 0 g d = false
theorem pow6 : powD (.int 10) (.int 6) = some (.int 1000000) := (pow_ii (by unfold PowOk two64; decide)).trans rfl
theorem odd_d {h : D} (hh : HandOk h) {g : Int} (h0 : 0 ≤ g) (h1 : g ≤ 1000000) : ∃ d h', F__law_odd [h, .int g] = .rt d [h'] ∧ HandOk h' ∧ OddG g d := by
  obtain ⟨a, h1', e1, o1, a0, a1⟩ := take_ok hh (many := 1000000) (by omega) (by omega)
  obtain ⟨b, h2, e2, o2, b0, b1⟩ := take_ok o1 (many := 1000000) (by omega) (by omega)
  obtain ⟨r, h3, e3, o3, r0, r1⟩ := take_ok o2 (many := 8) (by omega) (by omega)
  have ex : ∃ d, OddG g d ∧ atI [.int (-1), .int (g + 1), .bl true, .non, .str "1", .tup [.int 0], .int (-1 - a), .int (g + 1 + b)] r = some d := by
    have hr : r = 0 ∨ r = 1 ∨ r = 2 ∨ r = 3 ∨ r = 4 ∨ r = 5 ∨ r = 6 ∨ r = 7 := by omega
    rcases hr with rfl | rfl | rfl | rfl | rfl | rfl | rfl | rfl
    · exact ⟨D.int (-1), ⟨Kn_i, by unfold wholeB; simp⟩, by simp⟩
    · exact ⟨D.int (g + 1), ⟨Kn_i, by unfold wholeB; simp; omega⟩, by simp⟩
    · exact ⟨D.bl true, ⟨Kn_b, by unfold wholeB; simp⟩, by simp⟩
    · exact ⟨D.non, ⟨Kn_n, by unfold wholeB; simp⟩, by simp⟩
    · exact ⟨D.str "1", ⟨Kn_s, by unfold wholeB; simp⟩, by simp⟩
    · exact ⟨D.tup [.int 0], ⟨Kn_t, by unfold wholeB; simp⟩, by simp⟩
    · exact ⟨D.int (-1 - a), ⟨Kn_i, by unfold wholeB; simp; omega⟩, by simp⟩
    · exact ⟨D.int (g + 1 + b), ⟨Kn_i, by unfold wholeB; simp; omega⟩, by simp⟩
  obtain ⟨d, hd, ed⟩ := ex
  exact ⟨d, h3, by simp [F__law_odd, m__law_odd, pow6, e1, e2, e3, ed], o3, hd⟩
theorem book_of_d {h : D} (hh : HandOk h) {n : Nat} (hn : n ≤ 200) : ∃ (m r : Int) (h' : D), F__law_book_of [h, .int (n : Int)] = .rt (.lst [.int (n : Int), .int m, .int r]) [h'] ∧ HandOk h' ∧ (n : Int) + 1 ≤ m ∧ m ≤ 1000000 ∧ 0 ≤ r ∧ r < m := by
  obtain ⟨a, h1, e1, o1, a0, a1⟩ := take_ok hh (many := (n : Int) + 2) (by omega) (by omega)
  obtain ⟨b, h2, e2, o2, b0, b1⟩ := take_ok o1 (many := 1000000 - (n : Int)) (by omega) (by omega)
  obtain ⟨t, h3, e3, o3, t0, t1⟩ := take_ok o2 (many := 7) (by omega) (by omega)
  obtain ⟨x, x0, x1, ex⟩ : ∃ x : Int, 0 ≤ x ∧ x ≤ 1000000 - n - 1 ∧ atI [D.int 0, .int 0, .int 0, .int 0, .int 1, .int (1 + a), .int b] t = some (.int x) := by
    have : t = 0 ∨ t = 1 ∨ t = 2 ∨ t = 3 ∨ t = 4 ∨ t = 5 ∨ t = 6 := by omega
    rcases this with rfl | rfl | rfl | rfl | rfl | rfl | rfl
    · exact ⟨0, by omega, by omega, by simp⟩
    · exact ⟨0, by omega, by omega, by simp⟩
    · exact ⟨0, by omega, by omega, by simp⟩
    · exact ⟨0, by omega, by omega, by simp⟩
    · exact ⟨1, by omega, by omega, by simp⟩
    · exact ⟨1 + a, by omega, by omega, by simp⟩
    · exact ⟨b, by omega, by omega, by simp⟩
  have sq : (n : Int) * (n + 1) / 2 = ((n * (n + 1) / 2 : Nat) : Int) := by simp
  have sqb : n * (n + 1) / 2 ≤ 20100 := by
    have : n * (n + 1) ≤ 200 * 201 := Nat.mul_le_mul hn (by omega)
    omega
  obtain ⟨M, hM⟩ : ∃ M : Int, M = (n : Int) + 1 + x := ⟨_, rfl⟩
  obtain ⟨S, hS⟩ : ∃ S : Int, S = (n : Int) * (n + 1) / 2 + 1 := ⟨_, rfl⟩
  obtain ⟨P, hP⟩ : ∃ P : Int, P = (n : Int) * (n + 1) := ⟨_, rfl⟩
  have mp : mulA (.int (n : Int)) (.int ((n : Int) + 1)) = some (.int P) := by
    rw [mulA_ii, hP]
    have : (n : Int) * (n + 1) ≤ 40200 := by
      have : n * (n + 1) ≤ 200 * 201 := Nat.mul_le_mul hn (by omega)
      have e : (n : Int) * (n + 1) = ((n * (n + 1) : Nat) : Int) := by simp
      omega
    have z : 0 ≤ (n : Int) * (n + 1) := Int.mul_nonneg (by omega) (by omega)
    exact mul_l (by omega) (by omega)
  have S1 : 1 ≤ S := by rw [hS, sq]; omega
  obtain ⟨Q, hQ⟩ : ∃ Q : Int, Q = if S < M then S else M := ⟨_, rfl⟩
  have Q1 : 1 ≤ Q ∧ Q ≤ M := by rw [hQ]; split <;> omega
  obtain ⟨c, h4, e4, o4, c0, c1⟩ := take_ok o3 (many := Q) (by omega) (by omega)
  obtain ⟨t2, h5, e5, o5, t20, t21⟩ := take_ok o4 (many := 2) (by omega) (by omega)
  rw [← hP] at hS
  by_cases z : t2 = 0
  · obtain ⟨c', h6, e6, o6, c0', c1'⟩ := take_ok o5 (many := M) (by omega) (by omega)
    refine ⟨M, c', h6, ?_, o6, by omega, by omega, by omega, by omega⟩
    simp (disch := omega) [F__law_book_of, m__law_book_of, e1, pow6, e2, e3, ex, ← hM, mp, ← hS, ← hQ, e4, e5, z, e6]
  · refine ⟨M, c, h5, ?_, o5, by omega, by omega, by omega, by omega⟩
    simp (disch := omega) [F__law_book_of, m__law_book_of, e1, pow6, e2, e3, ex, ← hM, mp, ← hS, ← hQ, e4, e5, z]
theorem lif_del {w : List Int} (hw : Bin w) {i : Nat} (hi : i < w.length) : Lif (del w i) (red 1 w i) w := by
  have lv := del_len w i hi
  obtain ⟨bb, hb, ew⟩ := ins_del w i hi
  exact ⟨i, bb, by omega, hw bb hb, by
    have := dlt_red bb (del w i) 1 i (by omega)
    rw [← ew] at this; exact this.symm, ew⟩
theorem fit_loss {v : List Int} (hv : Bin v) {m r : Int} (f : Fit m r v) {i : Nat} (hi : i < v.length) (hm : (v.length : Int) + 1 ≤ m) : (r - vt 1 (del v i)) % m = red 1 v i := by
  have rd : 0 ≤ red 1 v i ∧ red 1 v i ≤ v.length := reds_bd hv _ (List.mem_map.mpr ⟨i, List.mem_range.mpr hi, rfl⟩)
  have rv := red_vt v 1 i hi
  have e : red 1 v i % m = (r - vt 1 (del v i)) % m := by
    rw [Int.emod_eq_emod_iff_emod_sub_eq_zero, show red 1 v i - (r - vt 1 (del v i)) = vt 1 v - r by omega]; exact f
  rw [← e]
  exact Int.emod_eq_of_lt rd.1 (by omega)
theorem loss_uniq {v v' : List Int} (hv : Bin v) (hv' : Bin v') {m r : Int} (f : Fit m r v) (f' : Fit m r v') {i i' : Nat} (hi : i < v.length) (hi' : i' < v'.length) (hm : (v.length : Int) + 1 ≤ m) (hm' : (v'.length : Int) + 1 ≤ m) (e : del v i = del v' i') : v = v' := by
  have a := fit_loss hv f hi hm
  have a' := fit_loss hv' f' hi' hm'
  rw [e, a'] at a
  have l1 := lif_del hv hi
  have l2 := lif_del hv' hi'
  rw [← a, e] at l1
  exact l1.uniq (del_bin hv' i') l2
theorem forD_ex {g : D → Gm → Option Gm} {body : Gm → SE} {T : D → Prop} : ∀ (l : List D) (I : Nat → Gm → Prop) (Γ : Gm), I 0 Γ → (∀ i d Γ, l[i]? = some d → I i Γ → ∃ Γ1, g d Γ = some Γ1 ∧ ((∃ Γ2, body Γ1 = .nx Γ2 ∧ I (i + 1) Γ2) ∨ ∃ v Γ2, body Γ1 = .rt v Γ2 ∧ T v)) →
    (∃ Γe, forD g body l Γ = .nx Γe ∧ I l.length Γe) ∨ ∃ v Γe, forD g body l Γ = .rt v Γe ∧ T v
  | [], I, Γ, h0, _ => .inl ⟨Γ, rfl, h0⟩
  | d :: l, I, Γ, h0, h => by
    obtain ⟨Γ1, h1, h2⟩ := h 0 d Γ rfl h0
    rcases h2 with ⟨Γ2, h2, h3⟩ | ⟨v, Γ2, h2, h3⟩
    · rcases forD_ex (g := g) (body := body) (T := T) l (fun i => I (i + 1)) Γ2 h3 (fun i e Γ he hi => h (i + 1) e Γ (by simpa using he) hi) with ⟨Γe, a, b⟩ | ⟨v, Γe, a, b⟩
      · exact .inl ⟨Γe, by rw [forD_cons h1 h2]; exact a, b⟩
      · exact .inr ⟨v, Γe, by rw [forD_cons h1 h2]; exact a, b⟩
    · exact .inr ⟨v, Γ2, forD_rt h1 h2, h3⟩
def Clash (n : Nat) (m r : Int) : Prop := ∃ v v', v ≠ v' ∧ Bin v ∧ Bin v' ∧ v.length = n ∧ v'.length = n ∧ Fit m r v ∧ Fit m r v' ∧ ∃ i i', i < n ∧ i' < n ∧ del v i = del v' i'
def InA (n : Nat) (m r : Int) (kvs : List (D × D)) : Prop := ∀ u d, dW kvs u = some d → ∃ v, Bin v ∧ v.length = n ∧ Fit m r v ∧ (∃ i, i < n ∧ del v i = u) ∧ d = .tup (v.map D.int)
def InB (n : Nat) (m r : Int) (kvs : List (D × D)) (done : List (List Int)) : Prop := ∀ v ∈ done, Fit m r v → ∀ i, i < n → dW kvs (del v i) = some (.tup (v.map D.int))
theorem tup_inj {u v : List Int} (h : D.tup (u.map D.int) = .tup (v.map D.int)) : u = v := by
  injection h with h
  exact List.map_inj_right (fun a b e => by injection e) |>.mp h
theorem put_d {n k : Nat} {M R : D} {v : List Int} {kvs : List (D × D)} (hl : kvs.length < 16777216) (hv : v.length = n) (hn : n ≤ 1000) (hk : k < n) (y6 : Option D)
    (h : dW kvs (del v k) = none ∨ dW kvs (del v k) = some (.tup (v.map D.int))) :
    ∃ kvs', m__law_has_clash_b1 [some (.int (n : Int)), some M, some R, some (.dtt kvs), some (.tup (v.map D.int)), some (.int (k : Int)), y6] = .nx [some (.int (n : Int)), some M, some R, some (.dtt kvs'), some (.tup (v.map D.int)), some (.int (k : Int)), some (.tup ((del v k).map D.int))] ∧ kvs'.length ≤ kvs.length + 1 ∧ ∀ u, dW kvs' u = if u = del v k then some (.tup (v.map D.int)) else dW kvs u := by
  obtain ⟨a, b, c1, c2, c3⟩ := cut_del (w := v) (k := k) (by omega) (by omega)
  obtain ⟨kvs', p1, p2, p3⟩ := dW_put (w := del v k) (d := .tup (v.map D.int)) (kvs := kvs) hl
  refine ⟨kvs', ?_, p2, p3⟩
  have g : dget2D (.dtt kvs) (.tup ((del v k).map D.int)) (.tup (v.map D.int)) = some (.tup (v.map D.int)) := by
    rw [dget2_w]
    rcases h with h | h <;> rw [h] <;> rfl
  have st : mStX 3 (mVar 4) (mVar 6) [some (.int (n : Int)), some M, some R, some (.dtt kvs), some (.tup (v.map D.int)), some (.int (k : Int)), some (.tup ((del v k).map D.int))] = .nx [some (.int (n : Int)), some M, some R, some (.dtt kvs'), some (.tup (v.map D.int)), some (.int (k : Int)), some (.tup ((del v k).map D.int))] := by
    rw [mStX_dict (d := .tup (v.map D.int)) (dd := .dtt kvs) (q := .tup ((del v k).map D.int)) (Γ1 := [some (.int (n : Int)), some M, some R, some (.dtt kvs), some (.tup (v.map D.int)), some (.int (k : Int)), some (.tup ((del v k).map D.int))]) (Γ2 := [some (.int (n : Int)), some M, some R, some (.dtt kvs), some (.tup (v.map D.int)), some (.int (k : Int)), some (.tup ((del v k).map D.int))]) (by simp) (by simp) (by simp) (by simp) (by simp), p1]
    simp
  simp [m__law_has_clash_b1, c1, c2, c3, g, st]
theorem hit_d {n k : Nat} {M R : D} {v v' : List Int} {kvs : List (D × D)} (hv : v.length = n) (hn : n ≤ 1000) (hk : k < n) (y6 : Option D) (h : dW kvs (del v k) = some (.tup (v'.map D.int))) (ne : ¬ v' = v) :
    ∃ Γ, m__law_has_clash_b1 [some (.int (n : Int)), some M, some R, some (.dtt kvs), some (.tup (v.map D.int)), some (.int (k : Int)), y6] = .rt (.bl true) Γ := by
  obtain ⟨a, b, c1, c2, c3⟩ := cut_del (w := v) (k := k) (by omega) (by omega)
  have g : dget2D (.dtt kvs) (.tup ((del v k).map D.int)) (.tup (v.map D.int)) = some (.tup (v'.map D.int)) := by
    rw [dget2_w, h]; rfl
  exact ⟨[some (.int (n : Int)), some M, some R, some (.dtt kvs), some (.tup (v.map D.int)), some (.int (k : Int)), some (.tup ((del v k).map D.int))], by simp [m__law_has_clash_b1, c1, c2, c3, g, ne]⟩
theorem row_d {n : Nat} {M R : D} {m r : Int} {v : List Int} {kvs : List (D × D)} {done : List (List Int)} (hl : kvs.length ≤ 16000000) (bv : Bin v) (hv : v.length = n) (fv : Fit m r v) (hn : n ≤ 1000) (hA : InA n m r kvs) (hB : InB n m r kvs done) (hD : ∀ w ∈ done, Bin w ∧ w.length = n) (y5 y6 : Option D) :
    (∃ kvs' z5 z6, forD (gN 5) m__law_has_clash_b1 (rangeD 0 n) [some (.int (n : Int)), some M, some R, some (.dtt kvs), some (.tup (v.map D.int)), y5, y6] = .nx [some (.int (n : Int)), some M, some R, some (.dtt kvs'), some (.tup (v.map D.int)), z5, z6] ∧ kvs'.length ≤ kvs.length + n ∧ InA n m r kvs' ∧ InB n m r kvs' (done ++ [v])) ∨
    ∃ x Γ, forD (gN 5) m__law_has_clash_b1 (rangeD 0 n) [some (.int (n : Int)), some M, some R, some (.dtt kvs), some (.tup (v.map D.int)), y5, y6] = .rt x Γ ∧ x = .bl true ∧ Clash n m r := by
  rcases forD_ex (g := gN 5) (body := m__law_has_clash_b1) (T := fun x => x = .bl true ∧ Clash n m r) (rangeD 0 n) (fun k Γ => ∃ kvs' y5 y6', Γ = [some (.int (n : Int)), some M, some R, some (.dtt kvs'), some (.tup (v.map D.int)), y5, y6'] ∧ kvs'.length ≤ kvs.length + k ∧ InA n m r kvs' ∧ InB n m r kvs' done ∧ ∀ i, i < k → dW kvs' (del v i) = some (.tup (v.map D.int)))
    [some (.int (n : Int)), some M, some R, some (.dtt kvs), some (.tup (v.map D.int)), y5, y6] ⟨kvs, y5, y6, rfl, by omega, hA, hB, fun i hi => absurd hi (by omega)⟩ (fun k d Γ hd ⟨kv1, y5, y6, e, q1, q2, q3, q4⟩ => by
    subst e
    obtain ⟨hj, ed⟩ := List.getElem?_eq_some_iff.mp hd
    have hk : k < n := by simpa [rangeD] using hj
    have ed : d = .int (k : Int) := by rw [← ed]; simp [rangeD]
    subst ed
    refine ⟨[some (.int (n : Int)), some M, some R, some (.dtt kv1), some (.tup (v.map D.int)), some (.int (k : Int)), y6], by simp, ?_⟩
    have go : (dW kv1 (del v k) = none ∨ dW kv1 (del v k) = some (.tup (v.map D.int))) → ∃ Γ2, m__law_has_clash_b1 [some (.int (n : Int)), some M, some R, some (.dtt kv1), some (.tup (v.map D.int)), some (.int (k : Int)), y6] = .nx Γ2 ∧ ∃ kvs' y5 y6', Γ2 = [some (.int (n : Int)), some M, some R, some (.dtt kvs'), some (.tup (v.map D.int)), y5, y6'] ∧ kvs'.length ≤ kvs.length + (k + 1) ∧ InA n m r kvs' ∧ InB n m r kvs' done ∧ ∀ i, i < k + 1 → dW kvs' (del v i) = some (.tup (v.map D.int)) := fun h => by
      obtain ⟨kv2, p1, p2, p3⟩ := put_d (M := M) (R := R) (by omega) hv hn hk y6 h
      refine ⟨_, p1, kv2, _, _, rfl, by omega, fun u d hu => ?_, fun w hw fw i hi => ?_, fun i hi => ?_⟩
      · rw [p3] at hu
        by_cases c : u = del v k
        · rw [if_pos c] at hu
          exact ⟨v, bv, hv, fv, ⟨k, hk, c.symm⟩, (Option.some.inj hu).symm⟩
        · rw [if_neg c] at hu
          exact q2 u d hu
      · rw [p3]
        by_cases c : del w i = del v k
        · rw [if_pos c]
          have := q3 w hw fw i hi
          rw [c] at this
          rcases h with h | h
          · rw [h] at this; cases this
          · rw [h] at this; exact this
        · rw [if_neg c]; exact q3 w hw fw i hi
      · rw [p3]
        by_cases c : del v i = del v k
        · rw [if_pos c]
        · rw [if_neg c]
          refine q4 i ?_
          rcases Nat.lt_or_ge i k with z | z
          · exact z
          · exact absurd (by rw [show i = k by omega]) c
    cases hE : dW kv1 (del v k) with
    | none => exact .inl (go (.inl hE))
    | some d =>
      obtain ⟨w, bw, lw, fw, ⟨i', hi', ew⟩, rfl⟩ := q2 _ _ hE
      by_cases c : w = v
      · exact .inl (go (.inr (by rw [hE, c])))
      · obtain ⟨Γ, hh⟩ := hit_d (M := M) (R := R) hv hn hk y6 hE c
        exact .inr ⟨_, Γ, hh, rfl, w, v, c, bw, bv, lw, hv, fw, fv, i', k, hi', hk, ew⟩) with ⟨Γe, f, kvs', y5', y6', e, q1, q2, q3, q4⟩ | ⟨x, Γe, f, hx⟩
  · subst e
    have rl : (rangeD 0 n).length = n := by simp [rangeD]
    rw [rl] at q1 q4
    refine .inl ⟨kvs', y5', y6', f, q1, q2, fun w hw fw i hi => ?_⟩
    rcases List.mem_append.mp hw with z | z
    · exact q3 w z fw i hi
    · rw [List.mem_singleton.mp z]; exact q4 i hi
  · exact .inr ⟨x, Γe, f, hx⟩
theorem has_clash_d {n : Nat} {m r : Int} (hn : n ≤ 8) (h1 : 1 ≤ m) (h2 : m ≤ 1000000) (r0 : 0 ≤ r) (r1 : r < m) : F__law_has_clash [.int (n : Int), .int m, .int r] = .rt (.bl (decide (m ≤ (n : Int)))) [] := by
  have p2 : 2 ^ n ≤ 256 := by
    have := Nat.pow_le_pow_right (n := 2) (by omega) hn
    simpa using this
  have aw := all_words_d (q := 2) (n := n) (by omega) hn (by omega) (by omega)
  have c2 : ((2 : Nat) : Int) = 2 := rfl
  rw [c2] at aw
  have rg : rg1 (.int (n : Int)) = some (rangeD 0 n) := rg1_nat (by omega)
  have main := forD_ex (g := gN 4) (body := m__law_has_clash_b2) (T := fun x => x = .bl true ∧ Clash n m r) ((words 2 n).map tupI) (fun j Γ => ∃ kvs y4 y5 y6, Γ = [some (.int (n : Int)), some (.int m), some (.int r), some (.dtt kvs), y4, y5, y6] ∧ kvs.length ≤ 1000 * j ∧ InA n m r kvs ∧ InB n m r kvs ((words 2 n).take j))
    [some (.int (n : Int)), some (.int m), some (.int r), some (.dtt []), none, none, none] ⟨[], none, none, none, rfl, by simp, fun u d h => by simp at h, fun v h => by simp at h⟩ (fun j d Γ hd ⟨kvs, y4, y5, y6, e, q1, q2, q3⟩ => by
    subst e
    obtain ⟨hj, ed⟩ := List.getElem?_eq_some_iff.mp hd
    have hj : j < (words 2 n).length := by simpa using hj
    have ed : d = tupI (words 2 n)[j] := by rw [← ed]; simp
    subst ed
    have vm := List.getElem_mem hj
    have tk : (words 2 n).take (j + 1) = (words 2 n).take j ++ [(words 2 n)[j]] := List.take_succ_eq_append_getElem hj
    have hD : ∀ w ∈ (words 2 n).take j, Bin w ∧ w.length = n := fun w hw => (words_bin (List.mem_of_mem_take hw)).symm
    obtain ⟨lv, bv⟩ := words_bin vm
    rw [words_len] at hj
    rw [tk]
    generalize (words 2 n)[j] = v at *
    refine ⟨[some (.int (n : Int)), some (.int m), some (.int r), some (.dtt kvs), some (tupI v), y5, y6], by simp, ?_⟩
    have ls := law_sum_d bv (by omega)
    by_cases c : Fit m r v
    · have c' : (vt 1 v - r) % m = 0 := c
      have body : m__law_has_clash_b2 [some (.int (n : Int)), some (.int m), some (.int r), some (.dtt kvs), some (tupI v), y5, y6] = forD (gN 5) m__law_has_clash_b1 (rangeD 0 n) [some (.int (n : Int)), some (.int m), some (.int r), some (.dtt kvs), some (.tup (v.map D.int)), y5, y6] := by
        simp (disch := omega) [m__law_has_clash_b2, tupI_def, ls, c', rg]
      rw [body]
      rcases row_d (M := .int m) (R := .int r) (by omega) bv lv c (by omega) q2 q3 hD y5 y6 with ⟨kv2, a5, a6, f, z1, z2, z3⟩ | ⟨x, Γ, f, hx⟩
      · exact .inl ⟨_, f, kv2, _, _, _, rfl, by omega, z2, z3⟩
      · exact .inr ⟨x, Γ, f, hx⟩
    · have c' : ¬ (vt 1 v - r) % m = 0 := c
      refine .inl ⟨[some (.int (n : Int)), some (.int m), some (.int r), some (.dtt kvs), some (tupI v), y5, y6], by simp (disch := omega) [m__law_has_clash_b2, tupI_def, ls, c'], kvs, some (tupI v), y5, y6, rfl, by omega, q2, fun w hw fw i hi => ?_⟩
      rcases List.mem_append.mp hw with z | z
      · exact q3 w z fw i hi
      · rw [List.mem_singleton.mp z] at fw; exact absurd fw c)
  rcases main with ⟨Γe, f, kvs, y4, y5, y6, e, _, qA, qB⟩ | ⟨x, Γe, f, rfl, v, v', ne, bv, bv', lv, lv', fv, fv', i, i', hi, hi', ed⟩
  · subst e
    rw [List.length_map, List.take_length] at qB
    have big : ¬ m ≤ (n : Int) := fun c => by
      rcases clash_d (n := n) (by omega) h1 h2 r0 r1 with ⟨c', _⟩ | ⟨_, b, o, bb, lb, vb, ho, _⟩
      · omega
      · obtain ⟨bo, lo⟩ := ho.bin bb
        obtain ⟨⟨k, hk, ek⟩, all⟩ := ho.low bb
        have b1 : Bin (b ++ [0]) := fun e he => by
          rcases List.mem_append.mp he with z | z
          · exact bb e z
          · exact .inl (List.mem_singleton.mp z)
        have l1 : (b ++ [0]).length = n := by simp; omega
        have d1 : VT.del (b ++ [0]) b.length = b := by rw [del_split _ _ (by simp)]; simp
        have f1 : Fit m r (b ++ [0]) := by unfold Fit; rw [vt_app0, vb]; simp
        have f2 : Fit m r o := by unfold Fit; rw [ho.sum, vb, show r + m - r = m by omega, Int.emod_self]
        have g1 := qB (b ++ [0]) (l1 ▸ bin_words b1) f1 b.length (by omega)
        have g2 := qB o ((show o.length = n by omega) ▸ bin_words bo) f2 k (by omega)
        rw [d1] at g1
        rw [all k hk ek, g1] at g2
        have ee := tup_inj (Option.some.inj g2)
        have := vt_app0 b
        rw [ee, ho.sum, vb] at this
        omega
    generalize (words 2 n).map tupI = WW at *
    simp [F__law_has_clash, m__law_has_clash, aw, f, big]
  · have small : m ≤ (n : Int) := by
      rcases Int.lt_or_le (n : Int) m with z | z
      · exact absurd (loss_uniq bv bv' fv fv' (by omega) (by omega) (by omega) (by omega) ed) ne
      · exact z
    generalize (words 2 n).map tupI = WW at *
    simp [F__law_has_clash, m__law_has_clash, aw, f, small]
end Lk71
namespace Lk71
open PySem DL L2 VT RN WD
def tri : Nat → Nat
  | 0 => 0
  | n + 1 => tri n + n
theorem two_tri : ∀ n, 2 * tri (n + 1) = n * (n + 1)
  | 0 => rfl
  | n + 1 => by
    show 2 * (tri (n + 1) + (n + 1)) = _
    rw [Nat.mul_add, two_tri n, ← Nat.add_mul, Nat.mul_comm]
theorem vt_le : ∀ (u : List Int) (p : Int), Bin u → 0 ≤ p → vt p u ≤ p * (u.length : Int) + (tri u.length : Int)
  | [], p, _, _ => by
    have : vt p [] = 0 := rfl
    rw [this]; simp [tri]
  | b :: t, p, h, hp => by
    have ih := vt_le t (p + 1) (bin_tail h) (by omega)
    have e : vt p (b :: t) = b * p + vt (p + 1) t := rfl
    have e2 : ((b :: t).length : Int) = (t.length : Int) + 1 := by simp
    have e3 : (tri (b :: t).length : Int) = (tri t.length : Int) + t.length := by show ((tri (t.length + 1) : Nat) : Int) = _; simp [tri]
    rw [e, e2, e3, Int.mul_add, Int.mul_one]
    rw [Int.add_mul, Int.one_mul] at ih
    have hb : b * p ≤ p := by
      rcases h b (List.mem_cons_self ..) with z | z <;> rw [z] <;> omega
    generalize p * (t.length : Int) = Q at *
    omega
theorem vt_max {u : List Int} (h : Bin u) : 2 * vt 1 u ≤ ((u.length * (u.length + 1) : Nat) : Int) := by
  have a := vt_le u 1 h (by omega)
  have b := two_tri u.length
  have c : tri (u.length + 1) = tri u.length + u.length := rfl
  rw [c] at b
  omega
theorem vt_nn : ∀ (u : List Int) (p : Int), Bin u → 0 ≤ p → 0 ≤ vt p u
  | [], p, _, _ => Int.le_refl _
  | b :: t, p, h, hp => by
    have ih := vt_nn t (p + 1) (bin_tail h) (by omega)
    have e : vt p (b :: t) = b * p + vt (p + 1) t := rfl
    rw [e]
    rcases h b (List.mem_cons_self ..) with z | z <;> rw [z] <;> omega
theorem prodP {n : Nat} (n1 : 1 ≤ n) : (((n - 1) * (n - 1 + 1) : Nat) : Int) = (n : Int) * ((n : Int) - 1) := by
  obtain ⟨k, rfl⟩ : ∃ k, n = k + 1 := ⟨n - 1, by omega⟩
  have e1 : ((k + 1 : Nat) : Int) - 1 = (k : Int) := by omega
  rw [e1, show k + 1 - 1 = k by omega, Nat.mul_comm]
  exact Int.natCast_mul (k + 1) k
theorem unread_d {n : Nat} {m r P : Int} (n1 : 1 ≤ n) (hn : n ≤ 200) (hm : (n : Int) + 1 ≤ m) (r0 : 0 ≤ r) (r1 : r < m) (hP : P = (n : Int) * ((n : Int) - 1)) :
    (∃ w, Bin w ∧ w.length + 1 = n ∧ (n : Int) < (r - vt 1 w) % m ∧ m ≠ (n : Int) + 1 ∧ ¬ (P / 2 ≤ r ∧ r ≤ n) ∧ F_unread_word [SBk n m r] = .rt (.tup (w.map D.int)) []) ∨
    ((m = (n : Int) + 1 ∨ (P / 2 ≤ r ∧ r ≤ n)) ∧ F_unread_word [SBk n m r] = .rt .non []) := by
  have a1 : F_is_whole [.int (n : Int), .int 1, .int 200] = .rt (.bl true) [] := by rw [is_whole_int]; simp; omega
  have f := full_d (n := n) (m := m) (r := r)
  have eP := prodP n1
  rw [← hP] at eP
  have P1 : 0 ≤ P := by omega
  have P2 : P ≤ 40000 := by
    have : (n - 1) * (n - 1 + 1) ≤ 200 * 200 := Nat.mul_le_mul (by omega) (by omega)
    omega
  have mp : mulA (.int (n : Int)) (.int ((n : Int) - 1)) = some (.int P) := by
    rw [mulA_ii, hP]
    exact mul_l (by omega) (by omega)
  by_cases c1 : m = (n : Int) + 1
  · refine .inr ⟨.inl c1, ?_⟩
    subst c1
    simp [F_unread_word, m_unread_word, F_check_number, m_check_number, a1, f]
  · have cn : (n : Int) - 1 = ((n - 1 : Nat) : Int) := by omega
    by_cases c2 : (n : Int) < r
    · obtain ⟨w, e, bw, lw, vw⟩ := word_of_sum_d (n := n - 1) (t := 0) (by omega) (by omega) (by omega)
      refine .inl ⟨w, bw, by omega, ?_, c1, by omega, ?_⟩
      · rw [vw, Int.sub_zero, Int.emod_eq_of_lt r0 r1]; exact c2
      · rw [← cn] at e
        simp [F_unread_word, m_unread_word, F_check_number, m_check_number, a1, f, c1, c2, e]
    · by_cases c3 : r < P / 2
      · obtain ⟨w, e, bw, lw, vw⟩ := word_of_sum_d (n := n - 1) (t := r + 1) (by omega) (by omega) (by omega)
        refine .inl ⟨w, bw, by omega, ?_, c1, by omega, ?_⟩
        · have : (r - vt 1 w) % m = m - 1 := by
            rw [vw, show r - (r + 1) = (m - 1) - m by omega, Int.sub_emod_right]
            exact Int.emod_eq_of_lt (by omega) (by omega)
          omega
        · rw [← cn] at e
          simp (disch := omega) [F_unread_word, m_unread_word, F_check_number, m_check_number, a1, f, c1, c2, mp, c3, e]
      · exact .inr ⟨.inr (by omega), by simp (disch := omega) [F_unread_word, m_unread_word, F_check_number, m_check_number, a1, f, c1, c2, mp, c3]⟩
theorem read_none_d {w : List Int} {n m r : Int} (hw : Bin w) (hl : w.length ≤ 199) (hm : 0 < m) (h : n < (r - vt 1 w) % m) (hn : n = w.length + 1) : F_read_lost [SBk n m r, .tup (w.map D.int)] = .rt .non [] := by
  have s := sum_places_d hw (by omega)
  have c := check_read_d hw (by omega) (d := .tup (w.map D.int)) (.inl rfl) (n := n - 1) (by omega)
  have la : F_loss_amount [SBk n m r, .tup (w.map D.int)] = .rt .non [] := by
    simp (disch := omega) [F_loss_amount, m_loss_amount, s, h]
  have ma : F_member_above [SBk n m r, .tup (w.map D.int)] = .rt .non [] := by simp [F_member_above, m_member_above, la, DL.isNon]
  simp [F_read_lost, m_read_lost, c, ma]
theorem unread_right_d {n : Nat} {m r : Int} (n1 : 1 ≤ n) (hn : n ≤ 200) (hm : (n : Int) + 1 ≤ m) (r0 : 0 ≤ r) (r1 : r < m) : F__law_unread_right [SBk n m r, .lst [.int (n : Int), .int m, .int r]] = .rt (.bl true) [] := by
  obtain ⟨P, hP⟩ : ∃ P, P = (n : Int) * ((n : Int) - 1) := ⟨_, rfl⟩
  have eP := prodP n1
  rw [← hP] at eP
  have P1 : 0 ≤ P := by omega
  have P2 : P ≤ 40000 := by
    have : (n - 1) * (n - 1 + 1) ≤ 200 * 200 := Nat.mul_le_mul (by omega) (by omega)
    omega
  have P3 : 4 ≤ n → (n : Int) < P / 2 := fun z => by
    have : 3 * n ≤ (n - 1) * (n - 1 + 1) := Nat.mul_le_mul (by omega) (by omega)
    omega
  have mp : mulA (.int (n : Int)) (.int ((n : Int) - 1)) = some (.int P) := by
    rw [mulA_ii, hP]
    exact mul_l (by omega) (by omega)
  rcases unread_d n1 hn hm r0 r1 hP with ⟨w, bw, lw, big, c1, c2, e⟩ | ⟨c, e⟩
  · have iw := is_word_d bw (by omega) (n := (n : Int) - 1) (by omega)
    have ls := law_sum_d bw (by omega)
    have rn := read_none_d bw (by omega) (by omega) big (by omega)
    by_cases d1 : (n : Int) < 4
    · by_cases d2 : P / 2 ≤ r
      · have d3 : ¬ r ≤ (n : Int) := fun z => c2 ⟨d2, z⟩
        simp (disch := omega) [F__law_unread_right, m__law_unread_right, F__law_is_unread, m__law_is_unread, e, c1, d1, mp, d2, d3, iw, ls, big, rn, DL.isNon]
      · simp (disch := omega) [F__law_unread_right, m__law_unread_right, F__law_is_unread, m__law_is_unread, e, c1, d1, mp, d2, iw, ls, big, rn, DL.isNon]
    · simp (disch := omega) [F__law_unread_right, m__law_unread_right, F__law_is_unread, m__law_is_unread, e, c1, d1, mp, iw, ls, big, rn, DL.isNon]
  · by_cases c1 : m = (n : Int) + 1
    · subst c1
      simp (disch := omega) [F__law_unread_right, m__law_unread_right, e, mp, DL.isNon]
    · obtain ⟨d2, d3⟩ : P / 2 ≤ r ∧ r ≤ n := c.resolve_left c1
      have d1 : (n : Int) < 4 := by
        rcases Int.lt_or_le (n : Int) 4 with z | z
        · exact z
        · have := P3 (by omega); omega
      simp (disch := omega) [F__law_unread_right, m__law_unread_right, e, c1, d1, mp, d2, d3, DL.isNon]
/-- a short row that no member bears -/
theorem bears_iff {n : Nat} {m r : Int} {u : List Int} (hu : Bin u) (lu : u.length + 1 = n) (hn : n ≤ 1000) (hm : (n : Int) + 1 ≤ m) : (∀ w ∈ allIns u, ¬ Fit m r w) ↔ (n : Int) < (r - vt 1 u) % m := by
  constructor
  · intro h
    rcases Int.lt_or_le (n : Int) ((r - vt 1 u) % m) with z | z
    · exact z
    · exfalso
      obtain ⟨v, hv, _⟩ := lift_word_d hu (by omega) (Int.emod_nonneg _ (by omega)) (by omega : (r - vt 1 u) % m ≤ (u.length : Int) + 1)
      have fv : Fit m r v := by
        unfold Fit
        rw [hv.sum, Int.sub_emod, Int.add_emod_emod, ← Int.sub_emod, show vt 1 u + (r - vt 1 u) - r = 0 by omega]; simp
      obtain ⟨k, b, hk, hb, _, e⟩ := hv
      exact h v (mem_allIns.mpr ⟨k, b, hk, hb, e⟩) fv
  · intro h w hw f
    obtain ⟨k, b, hk, hb, rfl⟩ := mem_allIns.mp hw
    have bi := ins_bin hu hb k
    have li := ins_len b u k
    have a := fit_loss bi f (i := k) (by omega) (by omega)
    rw [del_ins b u k hk] at a
    have rd : 0 ≤ red 1 (ins b u k) k ∧ red 1 (ins b u k) k ≤ (ins b u k).length := reds_bd bi _ (List.mem_map.mpr ⟨k, List.mem_range.mpr (by omega), rfl⟩)
    omega
end Lk71
namespace Lk71
open PySem DL L2 VT RN WD
theorem dnotin_w {kvs : List (D × D)} {w : List Int} : dnotinD (.tup (w.map D.int)) (.dtt kvs) = some (.bl (!(dW kvs w).isSome)) := by
  unfold dnotinD; rw [dget_w]
  cases dW kvs w <;> rfl
theorem small_unread_d {n : Nat} {m r : Int} (n1 : 1 ≤ n) (hn : n ≤ 6) (hm : (n : Int) + 1 ≤ m) (r0 : 0 ≤ r) (r1 : r < m) : ∃ b, F__law_small_unread [.lst [.int (n : Int), .int m, .int r]] = .rt (.bl b) [] ∧ (b = true ↔ ∃ u, Bin u ∧ u.length + 1 = n ∧ (n : Int) < (r - vt 1 u) % m) := by
  have mp : 0 < m := by omega
  have pw : ∀ k, k ≤ 8 → 2 ^ k ≤ 256 := fun k hk => by
    have := Nat.pow_le_pow_right (n := 2) (by omega) hk
    simpa using this
  have w1 := all_words_d (q := 2) (n := n) (by omega) (by omega) (by have := pw n (by omega); omega) (by omega)
  have w2 := all_words_d (q := 2) (n := n - 1) (by omega) (by omega) (by have := pw (n - 1) (by omega); omega) (by omega)
  have c2 : ((2 : Nat) : Int) = 2 := rfl
  have cn : ((n - 1 : Nat) : Int) = (n : Int) - 1 := by omega
  rw [c2] at w1
  rw [c2, cn] at w2
  obtain ⟨Γe, f1, kvs, y3, e, _, hk⟩ := forD_inv (g := gN 3) (body := m__law_small_unread_b1) ((words 2 n).map tupI) (fun j Γ => ∃ kvs y3, Γ = [some (.lst [.int (n : Int), .int m, .int r]), some (.int (n : Int)), some (.dtt kvs), y3, none] ∧ kvs.length ≤ j ∧ ∀ u, (dW kvs u).isSome = decide (u ∈ (words 2 n).take j ∧ Fit m r u)) (fun j d Γ hd ⟨kvs, y3, e, le, hk⟩ => by
    subst e
    obtain ⟨hj, ed⟩ := List.getElem?_eq_some_iff.mp hd
    have hj : j < (words 2 n).length := by simpa using hj
    have ed : d = tupI (words 2 n)[j] := by rw [← ed]; simp
    subst ed
    have vm := List.getElem_mem hj
    have tk : (words 2 n).take (j + 1) = (words 2 n).take j ++ [(words 2 n)[j]] := List.take_succ_eq_append_getElem hj
    obtain ⟨lv, bv⟩ := words_bin vm
    rw [tk]
    rw [words_len] at hj
    have := pw n (by omega)
    generalize (words 2 n)[j] = v at *
    have ls := law_sum_d bv (by omega)
    by_cases c : Fit m r v
    · have c' : (vt 1 v - r) % m = 0 := c
      obtain ⟨kvs', p1, p2, p3⟩ := dW_put (w := v) (d := .bl true) (kvs := kvs) (by omega)
      refine ⟨[some (.lst [.int (n : Int), .int m, .int r]), some (.int (n : Int)), some (.dtt kvs), some (tupI v), none], [some (.lst [.int (n : Int), .int m, .int r]), some (.int (n : Int)), some (.dtt kvs'), some (tupI v), none], by simp, .inl ?_, kvs', some (tupI v), rfl, by omega, fun u => ?_⟩
      · have st : mStX 2 (mC (.bl true)) (mVar 3) [some (.lst [.int (n : Int), .int m, .int r]), some (.int (n : Int)), some (.dtt kvs), some (.tup (v.map D.int)), none] = .nx [some (.lst [.int (n : Int), .int m, .int r]), some (.int (n : Int)), some (.dtt kvs'), some (.tup (v.map D.int)), none] := by
          rw [mStX_dict (d := .bl true) (dd := .dtt kvs) (q := .tup (v.map D.int)) (Γ1 := [some (.lst [.int (n : Int), .int m, .int r]), some (.int (n : Int)), some (.dtt kvs), some (.tup (v.map D.int)), none]) (Γ2 := [some (.lst [.int (n : Int), .int m, .int r]), some (.int (n : Int)), some (.dtt kvs), some (.tup (v.map D.int)), none]) (by simp) (by simp) (by simp) (by simp) (by simp), p1]
          simp
        simp (disch := omega) [m__law_small_unread_b1, tupI_def, ls, c', st]
      · rw [p3 u]
        by_cases z : u = v
        · rw [if_pos z, z]; simp [c]
        · rw [if_neg z, hk u]
          refine decide_eq_decide.mpr ⟨fun ⟨a, b⟩ => ⟨List.mem_append_left _ a, b⟩, fun ⟨a, b⟩ => ⟨?_, b⟩⟩
          rcases List.mem_append.mp a with a | a
          · exact a
          · exact absurd (List.mem_singleton.mp a) z
    · have c' : ¬ (vt 1 v - r) % m = 0 := c
      refine ⟨[some (.lst [.int (n : Int), .int m, .int r]), some (.int (n : Int)), some (.dtt kvs), some (tupI v), none], [some (.lst [.int (n : Int), .int m, .int r]), some (.int (n : Int)), some (.dtt kvs), some (tupI v), none], by simp, .inl ?_, kvs, some (tupI v), rfl, by omega, fun u => ?_⟩
      · simp (disch := omega) [m__law_small_unread_b1, tupI_def, ls, c']
      · rw [hk u]
        refine decide_eq_decide.mpr ⟨fun ⟨a, b⟩ => ⟨List.mem_append_left _ a, b⟩, fun ⟨a, b⟩ => ⟨?_, b⟩⟩
        rcases List.mem_append.mp a with a | a
        · exact a
        · rw [List.mem_singleton.mp a] at b; exact absurd b c) [some (.lst [.int (n : Int), .int m, .int r]), some (.int (n : Int)), some (.dtt []), none, none] ⟨[], none, rfl, by simp, fun u => by simp⟩
  subst e
  rw [List.length_map, List.take_length] at hk
  have hk2 : ∀ u, Bin u → u.length = n → (dW kvs u).isSome = decide (Fit m r u) := fun u bu lu => by
    rw [hk u]
    exact decide_eq_decide.mpr ⟨fun z => z.2, fun z => ⟨lu ▸ bin_words bu, z⟩⟩
  have main := forD_ex (g := gN 4) (body := m__law_small_unread_b3) (T := fun x => x = .bl true ∧ ∃ u, Bin u ∧ u.length + 1 = n ∧ (n : Int) < (r - vt 1 u) % m) ((words 2 (n - 1)).map tupI) (fun j Γ => ∃ y3 y4, Γ = [some (.lst [.int (n : Int), .int m, .int r]), some (.int (n : Int)), some (.dtt kvs), y3, y4] ∧ ∀ u ∈ (words 2 (n - 1)).take j, ¬ (n : Int) < (r - vt 1 u) % m)
    [some (.lst [.int (n : Int), .int m, .int r]), some (.int (n : Int)), some (.dtt kvs), y3, none] ⟨y3, none, rfl, fun u h => by simp at h⟩ (fun j d Γ hd ⟨y3, y4, e, q⟩ => by
    subst e
    obtain ⟨hj, ed⟩ := List.getElem?_eq_some_iff.mp hd
    have hj : j < (words 2 (n - 1)).length := by simpa using hj
    have ed : d = tupI (words 2 (n - 1))[j] := by rw [← ed]; simp
    subst ed
    have vm := List.getElem_mem hj
    have tk : (words 2 (n - 1)).take (j + 1) = (words 2 (n - 1)).take j ++ [(words 2 (n - 1))[j]] := List.take_succ_eq_append_getElem hj
    obtain ⟨lv, bv⟩ := words_bin vm
    rw [tk]
    generalize (words 2 (n - 1))[j] = v at *
    refine ⟨[some (.lst [.int (n : Int), .int m, .int r]), some (.int (n : Int)), some (.dtt kvs), y3, some (tupI v)], by simp, ?_⟩
    have mo := more_one_d (w := v) (by omega)
    have bi := bears_iff (n := n) (m := m) (r := r) bv (by omega) (by omega) hm
    have mem : ∀ w ∈ srtS ltL (allIns v), Bin w ∧ w.length = n := fun w hw => by
      obtain ⟨k, b, hk, hb, rfl⟩ := mem_allIns.mp ((mem_srtS ltL_tot).mp hw)
      exact ⟨ins_bin bv hb k, by rw [ins_len]; omega⟩
    have cm := comp_map (me := m__law_small_unread_ce2) [some (.lst [.int (n : Int), .int m, .int r]), some (.int (n : Int)), some (.dtt kvs), none, some (.tup (v.map D.int))] 3 tupI (fun w => D.bl (!decide (Fit m r w))) (srtS ltL (allIns v)) (fun _ => by simp [wipeG]) (fun w hw => by
      obtain ⟨bw, lw⟩ := mem w hw
      have := dnotin_w (kvs := kvs) (w := w)
      rw [hk2 w bw lw] at this
      simp [m__law_small_unread_ce2, tupI_def, this]) (by
        have a := srtS_len ltL_tot (allIns v)
        have b := ndl_le (allIns v)
        rw [allIns_len] at b
        omega)
    have al : allD (.lst ((srtS ltL (allIns v)).map fun w => D.bl (!decide (Fit m r w)))) = some (.bl (decide ((n : Int) < (r - vt 1 v) % m))) := by
      have e : ((srtS ltL (allIns v)).map fun w => D.bl (!decide (Fit m r w))) = ((srtS ltL (allIns v)).map fun w => !decide (Fit m r w)).map D.bl := by rw [List.map_map]; rfl
      rw [e, all_bls]
      refine congrArg (fun b => some (D.bl b)) ?_
      rw [Bool.eq_iff_iff, decide_eq_true_iff, ← bi, List.all_eq_true]
      constructor
      · intro h w hw f
        have := h _ (List.mem_map.mpr ⟨w, (mem_srtS ltL_tot).mpr hw, rfl⟩)
        rw [decide_eq_true f] at this
        simp at this
      · intro h b hb
        obtain ⟨w, hw, rfl⟩ := List.mem_map.mp hb
        rw [decide_eq_false (h w ((mem_srtS ltL_tot).mp hw))]; rfl
    generalize (srtS ltL (allIns v)).map tupI = S1 at *
    generalize (srtS ltL (allIns v)).map (fun w => D.bl (!decide (Fit m r w))) = S2 at *
    by_cases c : (n : Int) < (r - vt 1 v) % m
    · exact .inr ⟨.bl true, [some (.lst [.int (n : Int), .int m, .int r]), some (.int (n : Int)), some (.dtt kvs), y3, some (.tup (v.map D.int))], by simp [m__law_small_unread_b3, tupI_def, mo, wipeG, restG, cm, al, c], rfl, v, bv, by omega, c⟩
    · refine .inl ⟨[some (.lst [.int (n : Int), .int m, .int r]), some (.int (n : Int)), some (.dtt kvs), y3, some (.tup (v.map D.int))], by simp [m__law_small_unread_b3, tupI_def, mo, wipeG, restG, cm, al, c], y3, _, rfl, fun u hu => ?_⟩
      rcases List.mem_append.mp hu with z | z
      · exact q u z
      · rw [List.mem_singleton.mp z]; exact c)
  rcases main with ⟨Γe, f2, y3', y4', e, q⟩ | ⟨x, Γe, f2, rfl, hx⟩
  · subst e
    rw [List.length_map, List.take_length] at q
    refine ⟨false, ?_, ⟨fun z => by (cases z), fun ⟨u, bu, lu, big⟩ => absurd big (q u ((show u.length = n - 1 by omega) ▸ bin_words bu))⟩⟩
    generalize (words 2 n).map tupI = W1 at *
    generalize (words 2 (n - 1)).map tupI = W2 at *
    simp [F__law_small_unread, m__law_small_unread, w1, f1, w2, f2]
  · refine ⟨true, ?_, ⟨fun _ => hx, fun _ => rfl⟩⟩
    generalize (words 2 n).map tupI = W1 at *
    generalize (words 2 (n - 1)).map tupI = W2 at *
    simp [F__law_small_unread, m__law_small_unread, w1, f1, w2, f2]
theorem small_is {n : Nat} {m r : Int} (n1 : 1 ≤ n) (hn : n ≤ 6) (hm : (n : Int) + 1 ≤ m) (r0 : 0 ≤ r) (r1 : r < m) : ∃ b d, F__law_small_unread [.lst [.int (n : Int), .int m, .int r]] = .rt (.bl b) [] ∧ F_unread_word [SBk n m r] = .rt d [] ∧ DL.isNon d = !b := by
  obtain ⟨b, e, hb⟩ := small_unread_d n1 hn hm r0 r1
  obtain ⟨P, hP⟩ : ∃ P, P = (n : Int) * ((n : Int) - 1) := ⟨_, rfl⟩
  rcases unread_d n1 (by omega) hm r0 r1 hP with ⟨w, bw, lw, big, _, _, e2⟩ | ⟨c, e2⟩
  · have : b = true := hb.mpr ⟨w, bw, lw, big⟩
    exact ⟨b, _, e, e2, by rw [this]; rfl⟩
  · have : b = false := by
      cases b with
      | false => rfl
      | true =>
        exfalso
        obtain ⟨u, bu, lu, big⟩ := hb.mp rfl
        have eP := prodP n1
        rw [← hP] at eP
        have vm := vt_max bu
        rw [show u.length = n - 1 by omega, eP] at vm
        have v0 := vt_nn u 1 bu (by omega)
        have ml := Int.emod_lt_of_pos (r - vt 1 u) (show 0 < m by omega)
        rcases c with c | ⟨c1, c2⟩
        · omega
        · rw [Int.emod_eq_of_lt (by omega) (by omega)] at big; omega
    exact ⟨b, _, e, e2, by rw [this]; rfl⟩
end Lk71
namespace Lk71
open PySem DL L2 VT RN WD
theorem isa_n : isa "BadNumber" "BadNumber" = some true := by decide +kernel
theorem isa_mn : isa "BadModulus" "BadNumber" = some false := by decide +kernel
theorem isa_mm : isa "BadModulus" "BadModulus" = some true := by decide +kernel
theorem isa_rn : isa "BadRest" "BadNumber" = some false := by decide +kernel
theorem isa_rm : isa "BadRest" "BadModulus" = some false := by decide +kernel
theorem isa_rr : isa "BadRest" "BadRest" = some true := by decide +kernel
theorem ref_number {d x y : D} (h : OddG 200 d) : F__law_refused [d, x, y] = .rt (.str "number") [] := by
  have a : F_is_whole [d, .int 0, .int 200] = .rt (.bl false) [] := by rw [is_whole_d h.k, h.w]
  simp [F__law_refused, m__law_refused, m__law_refused_try1, F_modulus_clash, m_modulus_clash, F_check_number, m_check_number, a, mHds_yes isa_n]
theorem ref_modulus {n : Nat} {x y : D} (hn : n ≤ 200) (k : Kn x) (w : wholeB 1 1000000 x = false) : F__law_refused [.int (n : Int), x, y] = .rt (.str "modulus") [] := by
  have a : F_is_whole [.int (n : Int), .int 0, .int 200] = .rt (.bl true) [] := by rw [is_whole_int]; simp; omega
  have b : F_is_whole [x, .int 1, .int 1000000] = .rt (.bl false) [] := by rw [is_whole_d k, w]
  simp [F__law_refused, m__law_refused, m__law_refused_try1, F_modulus_clash, m_modulus_clash, F_check_number, m_check_number, F_check_modulus, m_check_modulus, a, b, mHds_no isa_mn, mHds_yes isa_mm]
theorem ref_rest {n : Nat} {m : Int} {y : D} (hn : n ≤ 200) (m1 : 1 ≤ m) (m2 : m ≤ 1000000) (h : OddG (m - 1) y) : F__law_refused [.int (n : Int), .int m, y] = .rt (.str "rest") [] := by
  have a : F_is_whole [.int (n : Int), .int 0, .int 200] = .rt (.bl true) [] := by rw [is_whole_int]; simp; omega
  have b : F_is_whole [.int m, .int 1, .int 1000000] = .rt (.bl true) [] := by rw [is_whole_int]; simp [m1, m2]
  have c : F_is_whole [y, .int 0, .int (m - 1)] = .rt (.bl false) [] := by rw [is_whole_d h.k, h.w]
  simp [F__law_refused, m__law_refused, m__law_refused_try1, F_modulus_clash, m_modulus_clash, F_check_number, m_check_number, F_check_modulus, m_check_modulus, F_check_rest, m_check_rest, a, b, c, mHds_no isa_rn, mHds_no isa_rm, mHds_yes isa_rr]
theorem unread_0 {m r : Int} : F_unread_word [SBk 0 m r] = .ex ⟨"BadNumber", []⟩ [] := by
  have a : F_is_whole [.int 0, .int 1, .int 200] = .rt (.bl false) [] := by rw [is_whole_int]; simp
  simp [F_unread_word, m_unread_word, F_check_number, m_check_number, a]
theorem refusals_d {h : D} (hh : HandOk h) {n : Nat} (hn : n ≤ 200) : ∃ h', F__law_refusals [h, .int (n : Int)] = .rt (.bl true) [h'] ∧ HandOk h' := by
  obtain ⟨t, h1, e1, o1, t0, t1⟩ := take_ok hh (many := 300) (by omega) (by omega)
  obtain ⟨a, h2, e2, o2, a0, a1⟩ := take_ok o1 (many := 1000000) (by omega) (by omega)
  obtain ⟨i, h3, e3, o3, i0, i1⟩ := take_ok o2 (many := 5) (by omega) (by omega)
  obtain ⟨x, ex, kx, wx⟩ : ∃ x, atI [D.int 0, .bl true, .int (-a), .int 1000001, .non] i = some x ∧ Kn x ∧ wholeB 1 1000000 x = false := by
    have : i = 0 ∨ i = 1 ∨ i = 2 ∨ i = 3 ∨ i = 4 := by omega
    rcases this with rfl | rfl | rfl | rfl | rfl
    · exact ⟨D.int 0, rfl, Kn_i, by unfold wholeB; simp⟩
    · exact ⟨D.bl true, rfl, Kn_b, by unfold wholeB; simp⟩
    · exact ⟨D.int (-a), rfl, Kn_i, by unfold wholeB; simp; omega⟩
    · exact ⟨D.int 1000001, rfl, Kn_i, by unfold wholeB; simp⟩
    · exact ⟨D.non, rfl, Kn_n, by unfold wholeB; simp⟩
  obtain ⟨w, h4, e4, o4, w0, w1⟩ := take_ok o3 (many := 2) (by omega) (by omega)
  obtain ⟨od, h5, e5, o5, ho⟩ := odd_d o4 (g := 200) (by omega) (by omega)
  obtain ⟨z, h6, e6, o6, z0, z1⟩ := take_ok o5 (many := 2) (by omega) (by omega)
  obtain ⟨od2, h7, e7, o7, ho2⟩ := odd_d o6 (g := 1 + t - 1) (by omega) (by omega)
  obtain ⟨c, h8, e8, o8, c0, c1⟩ := take_ok o7 (many := 5) (by omega) (by omega)
  obtain ⟨y1, ey1⟩ : ∃ y, atI [D.int (1 + t), x] w = some y := by
    have : w = 0 ∨ w = 1 := by omega
    rcases this with rfl | rfl
    · exact ⟨_, rfl⟩
    · exact ⟨_, rfl⟩
  obtain ⟨y2, ey2⟩ : ∃ y, atI [D.int 0, .int (-1)] z = some y := by
    have : z = 0 ∨ z = 1 := by omega
    rcases this with rfl | rfl
    · exact ⟨_, rfl⟩
    · exact ⟨_, rfl⟩
  obtain ⟨y3, ey3⟩ : ∃ y, atI [D.int 0, .non] w = some y := by
    have : w = 0 ∨ w = 1 := by omega
    rcases this with rfl | rfl
    · exact ⟨_, rfl⟩
    · exact ⟨_, rfl⟩
  have r1 := ref_number (x := y1) (y := y2) ho
  have r2 := ref_modulus (y := y3) hn kx wx
  have r3 := ref_rest hn (by omega) (by omega) ho2
  have n1 : neD (.str "number") (.str "number") = some (.bl false) := neD_same (by simp; decide +kernel)
  have n2 : neD (.str "modulus") (.str "modulus") = some (.bl false) := neD_same (by simp; decide +kernel)
  have n3 : neD (.str "rest") (.str "rest") = some (.bl false) := neD_same (by simp; decide +kernel)
  have bi := init_d (n := 0) (m := 1 + c) (r := 0) (by omega) (by omega) (by omega) (by omega) (by omega) (by omega)
  obtain ⟨M, hM⟩ : ∃ M, M = 1 + t := ⟨_, rfl⟩
  rw [← hM] at e7 r3 ey1
  exact ⟨h8, by simp [F__law_refusals, m__law_refusals, m__law_refusals_try1, e1, ← hM, pow6, e2, e3, ex, e4, e5, ey1, e6, ey2, r1, n1, ey3, r2, n2, e7, r3, n3, e8, bi, unread_0, mHds_yes isa_n], o8⟩
theorem neB (b : Bool) : neD (.bl b) (.bl b) = some (.bl false) := neD_same (by simp)
theorem turn_ok {L h : D} (o : HandOk h) {i : Nat} (hi : i < 4) (y2 y3 y4 y6 y7 : Option D) : ∃ (h' : D) (n : Nat) (z3 z4 z6 z7 : Option D), n ≤ 200 ∧ m_law_b2 [some L, some h, y2, y3, y4, some (.int (i : Int)), y6, y7] = .nx [some L, some h', some (.int (n : Int)), z3, z4, some (.int (i : Int)), z6, z7] ∧ HandOk h' := by
  obtain ⟨q, qa, q1, q2⟩ : ∃ q : Int, atI [D.int 9, .int 201] ((i : Int) / 2) = some (.int q) ∧ 1 ≤ q ∧ q ≤ 201 := by
    have : i = 0 ∨ i = 1 ∨ i = 2 ∨ i = 3 := by omega
    rcases this with rfl | rfl | rfl | rfl
    · exact ⟨9, rfl, by omega, by omega⟩
    · exact ⟨9, rfl, by omega, by omega⟩
    · exact ⟨201, rfl, by omega, by omega⟩
    · exact ⟨201, rfl, by omega, by omega⟩
  obtain ⟨q', qb, q3, q4, q5⟩ : ∃ q : Int, atI [D.int 5, .int 200] ((i : Int) / 2) = some (.int q) ∧ 1 ≤ q ∧ q ≤ 200 ∧ ((i : Int) < 2 → q ≤ 5) := by
    have : i = 0 ∨ i = 1 ∨ i = 2 ∨ i = 3 := by omega
    rcases this with rfl | rfl | rfl | rfl
    · exact ⟨5, rfl, by omega, by omega, by omega⟩
    · exact ⟨5, rfl, by omega, by omega, by omega⟩
    · exact ⟨200, rfl, by omega, by omega, by omega⟩
    · exact ⟨200, rfl, by omega, by omega, by omega⟩
  obtain ⟨n, h1, e1, o1, n0, n1⟩ := take_ok o (many := q) (by omega) (by omega)
  obtain ⟨n, rfl⟩ := Int.eq_ofNat_of_zero_le n0
  obtain ⟨a, h2, e2, o2, a0, a1⟩ := take_ok o1 (many := (n : Int) + 2) (by omega) (by omega)
  obtain ⟨b, h3, e3, o3, b0, b1⟩ := take_ok o2 (many := 1000000) (by omega) (by omega)
  obtain ⟨t, h4, e4, o4, t0, t1⟩ := take_ok o3 (many := 4) (by omega) (by omega)
  obtain ⟨m, em, m1, m2⟩ : ∃ m : Int, atI [D.int (1 + a), .int (if 1 < (n : Int) then (n : Int) else 1), .int ((n : Int) + 1), .int (1 + b)] t = some (.int m) ∧ 1 ≤ m ∧ m ≤ 1000000 := by
    have : t = 0 ∨ t = 1 ∨ t = 2 ∨ t = 3 := by omega
    rcases this with rfl | rfl | rfl | rfl
    · exact ⟨1 + a, rfl, by omega, by omega⟩
    · exact ⟨_, rfl, by split <;> omega, by split <;> omega⟩
    · exact ⟨(n : Int) + 1, rfl, by omega, by omega⟩
    · exact ⟨1 + b, rfl, by omega, by omega⟩
  obtain ⟨c, h5, e5, o5, c0, c1⟩ := take_ok o4 (many := m) (by omega) (by omega)
  obtain ⟨u, h6, e6, o6, u0, u1⟩ := take_ok o5 (many := 3) (by omega) (by omega)
  obtain ⟨r, er, r0, r1⟩ : ∃ r : Int, atI [D.int 0, .int (m - 1), .int c] u = some (.int r) ∧ 0 ≤ r ∧ r < m := by
    have : u = 0 ∨ u = 1 ∨ u = 2 := by omega
    rcases this with rfl | rfl | rfl
    · exact ⟨0, rfl, by omega, by omega⟩
    · exact ⟨m - 1, rfl, by omega, by omega⟩
    · exact ⟨c, rfl, by omega, by omega⟩
  have mr := modulus_right_d (n := n) (by omega) m1 m2 r0 r1
  obtain ⟨d, h7, e7, o7, d0, d1⟩ := take_ok o6 (many := q') (by omega) (by omega)
  obtain ⟨N, hN⟩ : ∃ N : Nat, (N : Int) = 1 + d := ⟨(1 + d).toNat, by omega⟩
  obtain ⟨M, R, h8, e8, o8, M1, M2, R0, R1⟩ := book_of_d o7 (n := N) (by omega)
  have bi := init_d (n := N) (m := M) (r := R) (by omega) (by omega) (by omega) (by omega) R0 R1
  have ur := unread_right_d (n := N) (m := M) (r := R) (by omega) (by omega) M1 R0 R1
  rw [hN] at e8 bi ur
  refine ⟨h8, n, some (.int m), some (.int r), some (.lst [.int (1 + d), .int M, .int R]), some (SBk (1 + d) M R), by omega, ?_, o8⟩
  by_cases c2 : (i : Int) < 2
  · obtain ⟨bb, dd, s1, s2, s3⟩ := small_is (n := N) (m := M) (r := R) (by omega) (by have := q5 c2; omega) M1 R0 R1
    rw [hN] at s1 s2
    generalize (i : Int) = I at *
    generalize hNN : (n : Int) = NN at *
    cases bb with
    | true => 
      simp at s3
      simp (disch := omega) [m_law_b2, qa, e1, e2, pow6, e3, e4, em, e5, e6, er, mr, qb, e7, e8, bi, ur, c2, s1, s2, s3, neB]
    | false => 
      simp at s3
      simp (disch := omega) [m_law_b2, qa, e1, e2, pow6, e3, e4, em, e5, e6, er, mr, qb, e7, e8, bi, ur, c2, s1, s2, s3, neB]
  · generalize (i : Int) = I at *
    generalize hNN : (n : Int) = NN at *
    simp (disch := omega) [m_law_b2, qa, e1, e2, pow6, e3, e4, em, e5, e6, er, mr, qb, e7, e8, bi, ur, c2]
theorem law_true (ns : List Int) (hl : ns.length ≤ 63) : F_law [.lst (ns.map D.int)] = .rt (.bl true) [] := by
  obtain ⟨h, e0, o0⟩ := hand_ok ns hl
  obtain ⟨n, h1, e1, o1, n0, n1⟩ := take_ok o0 (many := 7) (by omega) (by omega)
  obtain ⟨n, rfl⟩ := Int.eq_ofNat_of_zero_le n0
  have rg2' : rg2 (.int 1) (.int ((n : Int) + 3)) = some (rangeD 1 (n + 2)) := by
    rw [rg2_ii (by omega) (by omega) (by omega) (by omega), show ((n : Int) + 3 - 1).toNat = n + 2 by omega]
  have rg4 : rg1 (.int 4) = some (rangeD 0 4) := rg1_nat (n := 4) (by omega)
  obtain ⟨L, hL⟩ : ∃ L, L = D.lst (ns.map D.int) := ⟨_, rfl⟩
  obtain ⟨Γ1, f1, h2, y3, y4, o2, e⟩ := forD_inv (g := gN 3) (body := m_law_b1) (rangeD 1 (n + 2)) (fun _ Γ => ∃ (h : D) (y3 y4 : Option D), HandOk h ∧ Γ = [some L, some h, some (.int (n : Int)), y3, y4, none, none, none]) (fun j d Γ hd ⟨h, y3, y4, o, e⟩ => by
    subst e
    obtain ⟨hj, ed⟩ := List.getElem?_eq_some_iff.mp hd
    have hj : j < n + 2 := by simpa [rangeD] using hj
    have ed : d = .int (1 + (j : Int)) := by rw [← ed]; simp [rangeD]
    subst ed
    obtain ⟨M, hM⟩ : ∃ M : Int, M = 1 + (j : Int) := ⟨_, rfl⟩
    rw [← hM]
    obtain ⟨r, h', er, o', r0, r1⟩ := take_ok o (many := M) (by omega) (by omega)
    have hc := has_clash_d (n := n) (m := M) (r := r) (by omega) (by omega) (by omega) r0 r1
    have mr := modulus_right_d (n := n) (m := M) (r := r) (by omega) (by omega) (by omega) r0 r1
    refine ⟨[some L, some h, some (.int (n : Int)), some (.int M), y4, none, none, none], [some L, some h', some (.int (n : Int)), some (.int M), some (.int r), none, none, none], by simp, .inl ?_, h', some (.int M), some (.int r), o', rfl⟩
    by_cases c : M ≤ (n : Int)
    · rw [decide_eq_true c] at hc
      simp [m_law_b1, er, hc, mr, c, neB]
    · rw [decide_eq_false c] at hc
      simp [m_law_b1, er, hc, mr, c, neB]) [some L, some h1, some (.int (n : Int)), none, none, none, none, none] ⟨h1, none, none, o1, rfl⟩
  subst e
  obtain ⟨Γ2, f2, h3, k, x3, x4, x5, x6, x7, hk, o3, e⟩ := forD_inv (g := gN 5) (body := m_law_b2) (rangeD 0 4) (fun _ Γ => ∃ (h : D) (k : Nat) (x3 x4 x5 x6 x7 : Option D), k ≤ 200 ∧ HandOk h ∧ Γ = [some L, some h, some (.int (k : Int)), x3, x4, x5, x6, x7]) (fun j d Γ hd ⟨h, k, x3, x4, x5, x6, x7, hk, o, e⟩ => by
    subst e
    obtain ⟨hj, ed⟩ := List.getElem?_eq_some_iff.mp hd
    have hj : j < 4 := by simpa [rangeD] using hj
    have ed : d = .int (j : Int) := by rw [← ed]; simp [rangeD]
    subst ed
    obtain ⟨h', k', z3, z4, z6, z7, l, q, o'⟩ := turn_ok (L := L) o hj (some (.int (k : Int))) x3 x4 x6 x7
    exact ⟨[some L, some h, some (.int (k : Int)), x3, x4, some (.int (j : Int)), x6, x7], _, by simp, .inl q, h', k', z3, z4, some (.int (j : Int)), z6, z7, l, o', rfl⟩) [some L, some h2, some (.int (n : Int)), y3, y4, none, none, none] ⟨h2, n, y3, y4, none, none, none, by omega, o2, rfl⟩
  subst e
  obtain ⟨h4, e4, o4⟩ := refusals_d o3 (n := k) hk
  rw [← hL] at e0 ⊢
  simp [F_law, m_law, e0, e1, rg2', f1, rg4, f2, e4]
end Lk71
open PySem PySem.W PySem.Calls PyProof.Rows
theorem PySem.Challenge.cw_lostplaces_k71_whole_moduli_that_bear_on_holds : PySem.Challenge.rw_lostplaces_k71_whole_moduli_that_bear_on.Holds := by
  w_on; o_law
  refine HandSHeadRun.head_any (r := OpenLaw.row PySem.Challenge.rw_lostplaces_k71_whole_moduli_that_bear_on) (q := view (OpenLaw.row PySem.Challenge.rw_lostplaces_k71_whole_moduli_that_bear_on).prog [51]) (H := Lk71.hk) (ob := Lk71.ob) (M := 9000) (loose := Lk71.loose) (d := HandSHeadRun.topDef (OpenLaw.row PySem.Challenge.rw_lostplaces_k71_whole_moduli_that_bear_on).prog 51) (kwd := []) Lk71.ob_eq
    (by kernel_rfl) (fun s => by kernel_rfl) Lk71.run (by kernel_rfl) (by kernel_rfl) (by kernel_rfl) (by rfl) (by first | assumption | decide +kernel) (by decide +kernel) ⟨rfl, rfl, rfl, rfl, rfl, by decide +kernel⟩ ?hw ?hc
  case hw => w_witness2
  case hc =>
    refine L2.walk_ofE (l := PySem.Challenge.rw_lostplaces_k71_whole_moduli_that_bear_on) (n := 63) (k := 7) (x := "_law_script") (CX := L2.CX0) rfl (by decide) (by kernel_rfl) ⟨rfl, by decide, by decide⟩ ?F (fun _ _ _ _ z => z)
    intro w mg fa h Y G hmg0
    obtain ⟨K, KX, c, e⟩ := Y
    have hmg : mg ("law" : PySem.Str) = some (.ref fa) := by
      have e : (HandSHeadRun.topDef (OpenLaw.row PySem.Challenge.rw_lostplaces_k71_whole_moduli_that_bear_on).prog 51).name = ("law" : PySem.Str) := by kernel_rfl
      rw [← e]
      exact hmg0
    obtain ⟨fd, hb, hF⟩ := Lk71.facts (P := (PySem.Challenge.rw_lostplaces_k71_whole_moduli_that_bear_on).prog) (w := w) KX G hmg c e
    exact ⟨K, fd, fun vs H Q _ => DL.spD K mg Lk71.F_law 1 [] false vs H Q fun _ _ _ => False, KX, hb, fun H a ns hl _ hS => DL.law_sp Lk71.law_true H a ns hl hS, fun base _ _ => DL.fn_nox (hF base)⟩

